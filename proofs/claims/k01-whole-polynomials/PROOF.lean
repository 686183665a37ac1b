import PyProof.Rows.All
import Wide.All
import OpenK.AllK
import Wide.FinOn
import HandS.Base
import HandS.Call
import HandS.List
import HandS.Comp
import HandS.Iter
import HandS.Ends
import HandS.Words
import HandS.WordsList
import HandS.Star
import HandS.Style
import HandS.IsInst
import HandS.TupAny
import HandS.Walk
import KE.GoesEnum
import PySem.Challenge.RW_steerloops_k01_whole_polynomials
set_option Elab.async false
set_option linter.all false
set_option maxRecDepth 100000
set_option maxHeartbeats 4000000
namespace K1
/-! ### congruence -/
def Cg (p a b : Int) : Prop := ∃ k, a = b + p * k
theorem Cg.rfl' {p a : Int} : Cg p a a := ⟨0, by grind⟩
theorem Cg.of_eq {p a b : Int} (h : a = b) : Cg p a b := ⟨0, by grind⟩
theorem Cg.symm {p a b : Int} (h : Cg p a b) : Cg p b a := by
  obtain ⟨k, e⟩ := h
  exact ⟨-k, by grind⟩
theorem Cg.trans {p a b c : Int} (h : Cg p a b) (g : Cg p b c) : Cg p a c := by
  obtain ⟨k, e⟩ := h
  obtain ⟨l, f⟩ := g
  exact ⟨k + l, by grind⟩
theorem Cg.add {p a b c d : Int} (h : Cg p a b) (g : Cg p c d) : Cg p (a + c) (b + d) := by
  obtain ⟨k, e⟩ := h
  obtain ⟨l, f⟩ := g
  exact ⟨k + l, by grind⟩
theorem Cg.sub {p a b c d : Int} (h : Cg p a b) (g : Cg p c d) : Cg p (a - c) (b - d) := by
  obtain ⟨k, e⟩ := h
  obtain ⟨l, f⟩ := g
  exact ⟨k - l, by grind⟩
theorem Cg.mul {p a b c d : Int} (h : Cg p a b) (g : Cg p c d) : Cg p (a * c) (b * d) := by
  obtain ⟨k, e⟩ := h
  obtain ⟨l, f⟩ := g
  exact ⟨k * d + b * l + p * k * l, by grind⟩
theorem Cg.mod {p a : Int} : Cg p (a % p) a := ⟨-(a / p), by have := Int.mul_ediv_add_emod a p; grind⟩
theorem Cg.eq {p a b : Int} (h : Cg p a b) (ha : 0 ≤ a) (ha' : a < p) (hb : 0 ≤ b) (hb' : b < p) : a = b := by
  obtain ⟨k, e⟩ := h
  have h1 : a % p = b % p := by rw [e]; exact Int.add_mul_emod_self_left b p k
  rwa [Int.emod_eq_of_lt ha ha', Int.emod_eq_of_lt hb hb'] at h1
/-! ### coefficients, sums -/
def cf (xs : List Int) (k : Nat) : Int := xs.getD k 0
theorem cf_lt {xs : List Int} {k : Nat} (h : k < xs.length) : xs[k]? = some (cf xs k) := by
  unfold cf
  rw [List.getD_eq_getElem?_getD, List.getElem?_eq_getElem h]
  rfl
theorem cf_ge {xs : List Int} {k : Nat} (h : xs.length ≤ k) : cf xs k = 0 := by
  unfold cf
  rw [List.getD_eq_getElem?_getD, List.getElem?_eq_none h]
  rfl
theorem cf_set {xs : List Int} {a k : Nat} {v : Int} (h : a < xs.length) : cf (xs.set a v) k = if k = a then v else cf xs k := by
  unfold cf
  rw [List.getD_eq_getElem?_getD, List.getD_eq_getElem?_getD, List.getElem?_set]
  by_cases e : a = k
  · subst e; simp [h]
  · simp [e, Ne.symm e]
theorem cf_rep {n k : Nat} : cf (List.replicate n 0) k = 0 := by
  unfold cf
  rw [List.getD_eq_getElem?_getD, List.getElem?_replicate]
  split <;> rfl
def Rg (p : Int) (xs : List Int) : Prop := ∀ x ∈ xs, 0 ≤ x ∧ x < p
theorem Rg.cf {p : Int} {xs : List Int} (hp : 0 < p) (h : Rg p xs) (k : Nat) : 0 ≤ K1.cf xs k ∧ K1.cf xs k < p := by
  by_cases hk : k < xs.length
  · have e := cf_lt hk
    exact h _ (List.mem_of_getElem? e)
  · rw [cf_ge (by omega)]
    exact ⟨Int.le_refl _, hp⟩
theorem Rg.set {p : Int} {xs : List Int} (h : Rg p xs) {a : Nat} {v : Int} (h1 : 0 ≤ v) (h2 : v < p) : Rg p (xs.set a v) := fun x hx => by
  rcases List.mem_or_eq_of_mem_set hx with hx | rfl
  · exact h x hx
  · exact ⟨h1, h2⟩
theorem Rg.rep {p : Int} (hp : 0 < p) (n : Nat) : Rg p (List.replicate n 0) := fun x hx => by
  rw [List.eq_of_mem_replicate hx]
  exact ⟨Int.le_refl _, hp⟩
theorem Rg.take {p : Int} {xs : List Int} (h : Rg p xs) (n : Nat) : Rg p (xs.take n) := fun x hx => h x (List.mem_of_mem_take hx)
def sm (f : Nat → Int) : Nat → Int
  | 0 => 0
  | n + 1 => sm f n + f n
theorem sm_cg {p : Int} {f g : Nat → Int} : ∀ n, (∀ i, i < n → Cg p (f i) (g i)) → Cg p (sm f n) (sm g n)
  | 0, _ => .rfl'
  | n + 1, h => .add (sm_cg n fun i hi => h i (by omega)) (h n (by omega))
theorem sm_eq {f g : Nat → Int} : ∀ n, (∀ i, i < n → f i = g i) → sm f n = sm g n
  | 0, _ => rfl
  | n + 1, h => by
    show sm f n + f n = sm g n + g n
    rw [sm_eq n fun i hi => h i (by omega), h n (by omega)]
theorem sm_add {f g : Nat → Int} : ∀ n, sm (fun i => f i + g i) n = sm f n + sm g n
  | 0 => rfl
  | n + 1 => by
    show sm (fun i => f i + g i) n + (f n + g n) = sm f n + f n + (sm g n + g n)
    rw [sm_add n]
    omega
theorem sm_sub {f g : Nat → Int} : ∀ n, sm (fun i => f i - g i) n = sm f n - sm g n
  | 0 => rfl
  | n + 1 => by
    show sm (fun i => f i - g i) n + (f n - g n) = sm f n + f n - (sm g n + g n)
    rw [sm_sub n]
    omega
theorem sm_zero {f : Nat → Int} : ∀ n, (∀ i, i < n → f i = 0) → sm f n = 0
  | 0, _ => rfl
  | n + 1, h => by
    show sm f n + f n = 0
    rw [sm_zero n fun i hi => h i (by omega), h n (by omega)] <;> rfl
theorem sm_more {f : Nat → Int} {n : Nat} : ∀ d, (∀ i, n ≤ i → f i = 0) → sm f (n + d) = sm f n
  | 0, _ => rfl
  | d + 1, h => by
    show sm f (n + d) + f (n + d) = sm f n
    rw [sm_more d h, h (n + d) (by omega)]
    omega
theorem sm_le {f : Nat → Int} {n m : Nat} (hm : n ≤ m) (h : ∀ i, n ≤ i → f i = 0) : sm f m = sm f n := by
  obtain ⟨d, rfl⟩ := Nat.exists_eq_add_of_le hm
  exact sm_more d h
/-- one term is another -/
theorem sm_upd {f g : Nat → Int} {a : Nat} : ∀ n, a < n → (∀ i, i ≠ a → g i = f i) → sm g n = sm f n - f a + g a
  | 0, h, _ => by omega
  | n + 1, h, hg => by
    show sm g n + g n = sm f n + f n - f a + g a
    by_cases e : a = n
    · subst e
      rw [sm_eq (f := g) (g := f) a fun i hi => hg i (by omega)]
      omega
    · rw [sm_upd n (by omega) hg, hg n (fun z => e z.symm)]
      omega
/-- the k-th coefficient of a product, over the first n of f -/
def pc (f g : Nat → Int) (n k : Nat) : Int := sm (fun i => if i ≤ k then f i * g (k - i) else 0) n
/-! ### trim -/
def tl (xs : List Int) : Nat → Nat
  | 0 => 0
  | n + 1 => if cf xs n = 0 then tl xs n else n + 1
def trim (xs : List Int) : List Int := xs.take (tl xs xs.length)
theorem tl_le (xs : List Int) : ∀ n, tl xs n ≤ n
  | 0 => Nat.le_refl _
  | n + 1 => by
    unfold tl
    split
    · have := tl_le xs n; omega
    · exact Nat.le_refl _
theorem tl_zero (xs : List Int) : ∀ n k, tl xs n ≤ k → k < n → cf xs k = 0
  | 0, k, _, h => by omega
  | n + 1, k, h, hk => by
    unfold tl at h
    split at h
    · rename_i e
      by_cases q : k = n
      · rw [q]; exact e
      · exact tl_zero xs n k h (by omega)
    · omega
theorem tl_last (xs : List Int) : ∀ n, tl xs n = 0 ∨ cf xs (tl xs n - 1) ≠ 0
  | 0 => .inl rfl
  | n + 1 => by
    unfold tl
    split
    · exact tl_last xs n
    · rename_i e
      exact .inr (by simpa using e)
theorem trim_len (xs : List Int) : (trim xs).length = tl xs xs.length := by
  unfold trim
  rw [List.length_take]
  have := tl_le xs xs.length
  omega
theorem trim_le (xs : List Int) : (trim xs).length ≤ xs.length := by
  rw [trim_len]
  exact tl_le _ _
theorem cf_take {xs : List Int} {n k : Nat} (h : k < n) : cf (xs.take n) k = cf xs k := by
  unfold cf
  rw [List.getD_eq_getElem?_getD, List.getD_eq_getElem?_getD, List.getElem?_take, if_pos h]
theorem trim_cf (xs : List Int) (k : Nat) : cf (trim xs) k = cf xs k := by
  by_cases h : k < tl xs xs.length
  · exact cf_take h
  · rw [cf_ge (by rw [trim_len]; omega)]
    by_cases h2 : k < xs.length
    · exact (tl_zero xs xs.length k (by omega) h2).symm
    · rw [cf_ge (by omega)]
/-- a polynomial -/
structure Can (p : Int) (xs : List Int) : Prop where
  rg : Rg p xs
  last : xs.length = 0 ∨ cf xs (xs.length - 1) ≠ 0
theorem trim_can {p : Int} {xs : List Int} (h : Rg p xs) : Can p (trim xs) := by
  refine ⟨h.take _, ?_⟩
  rw [trim_len]
  rcases tl_last xs xs.length with e | e
  · exact .inl e
  · rw [trim_cf]
    exact .inr e
theorem Can.ext {p : Int} {xs ys : List Int} (hp : 0 < p) (hx : Can p xs) (hy : Can p ys) (h : ∀ k, Cg p (cf xs k) (cf ys k)) : xs = ys := by
  have e : ∀ k, cf xs k = cf ys k := fun k => (h k).eq (hx.rg.cf hp k).1 (hx.rg.cf hp k).2 (hy.rg.cf hp k).1 (hy.rg.cf hp k).2
  have l : xs.length = ys.length := by
    rcases Nat.lt_trichotomy xs.length ys.length with q | q | q
    · rcases hy.last with z | z
      · omega
      · rw [← e, cf_ge (by omega)] at z
        exact absurd rfl z
    · exact q
    · rcases hx.last with z | z
      · omega
      · rw [e, cf_ge (by omega)] at z
        exact absurd rfl z
  refine List.ext_getElem? fun k => ?_
  by_cases q : k < xs.length
  · rw [cf_lt q, cf_lt (l ▸ q), e]
  · rw [List.getElem?_eq_none (by omega), List.getElem?_eq_none (by omega)]
theorem trim_id {p : Int} {xs : List Int} (h : Can p xs) : trim xs = xs := by
  have : tl xs xs.length = xs.length := by
    cases n : xs.length with
    | zero => rfl
    | succ m =>
      rcases h.last with z | z
      · omega
      · rw [n] at z
        unfold tl
        rw [if_neg (by simpa using z)]
  unfold trim
  rw [this, List.take_length]
/-! ### the sum -/
/-- the items of both, side by side, summed -/
def sumL (p : Int) (xs ys : List Int) : List Int := (List.range (max xs.length ys.length)).map fun k => (cf xs k + cf ys k) % p
def plusL (p : Int) (xs ys : List Int) : List Int := trim (sumL p xs ys)
theorem sumL_len (p : Int) (xs ys : List Int) : (sumL p xs ys).length = max xs.length ys.length := by
  unfold sumL
  rw [List.length_map, List.length_range]
theorem sumL_rg {p : Int} (hp : 0 < p) (xs ys : List Int) : Rg p (sumL p xs ys) := fun x hx => by
  obtain ⟨k, _, rfl⟩ := List.mem_map.mp hx
  exact ⟨Int.emod_nonneg _ (by omega), Int.emod_lt_of_pos _ hp⟩
theorem sumL_at {p : Int} {xs ys : List Int} {k : Nat} (h : k < max xs.length ys.length) : (sumL p xs ys)[k]? = some ((cf xs k + cf ys k) % p) := by
  unfold sumL
  rw [List.getElem?_map, List.getElem?_range h]
  rfl
theorem sumL_cf {p : Int} (xs ys : List Int) (k : Nat) : Cg p (cf (sumL p xs ys) k) (cf xs k + cf ys k) := by
  by_cases h : k < max xs.length ys.length
  · have e : cf (sumL p xs ys) k = (cf xs k + cf ys k) % p := by
      have := (cf_lt (xs := sumL p xs ys) (k := k) (by rw [sumL_len]; exact h)).symm.trans (sumL_at h)
      exact Option.some.inj this
    rw [e]
    exact .mod
  · rw [cf_ge (by rw [sumL_len]; omega), cf_ge (xs := xs) (by omega), cf_ge (xs := ys) (by omega)]
    exact .rfl'
theorem plusL_can {p : Int} (hp : 0 < p) (xs ys : List Int) : Can p (plusL p xs ys) := trim_can (sumL_rg hp xs ys)
theorem plusL_cf {p : Int} (xs ys : List Int) (k : Nat) : Cg p (cf (plusL p xs ys) k) (cf xs k + cf ys k) := by
  unfold plusL
  rw [trim_cf]
  exact sumL_cf xs ys k
theorem plusL_le (p : Int) (xs ys : List Int) : (plusL p xs ys).length ≤ max xs.length ys.length := by
  rw [← sumL_len p]
  exact trim_le _
/-! ### the product -/
/-- a times the first n of ys, added from the place z on -/
def inT (p a : Int) (z : Nat) (ys : List Int) : Nat → List Int → List Int
  | 0, f => f
  | n + 1, f => (inT p a z ys n f).set (z + n) ((cf (inT p a z ys n f) (z + n) + a * cf ys n) % p)
theorem inT_len (p a : Int) (z : Nat) (ys f : List Int) : ∀ n, (inT p a z ys n f).length = f.length
  | 0 => rfl
  | n + 1 => by
    unfold inT
    rw [List.length_set, inT_len p a z ys f n]
theorem inT_rg {p a : Int} {z : Nat} {ys f : List Int} (hp : 0 < p) (h : Rg p f) : ∀ n, Rg p (inT p a z ys n f)
  | 0 => h
  | n + 1 => (inT_rg hp h n).set (Int.emod_nonneg _ (by omega)) (Int.emod_lt_of_pos _ hp)
theorem inT_cf {p a : Int} {z : Nat} {ys f : List Int} (k : Nat) : ∀ n, z + n ≤ f.length → Cg p (cf (inT p a z ys n f) k) (cf f k + if z ≤ k ∧ k < z + n then a * cf ys (k - z) else 0)
  | 0, _ => .of_eq (by
    show cf f k = _
    rw [if_neg (by omega)]
    omega)
  | n + 1, h => by
    have ih := inT_cf (p := p) (a := a) (z := z) (ys := ys) (f := f) k n (by omega)
    unfold inT
    rw [cf_set (by rw [inT_len]; omega)]
    by_cases e : k = z + n
    · subst e
      rw [if_pos rfl, if_pos (by omega)]
      rw [if_neg (by omega)] at ih
      have e1 : z + n - z = n := by omega
      rw [e1]
      refine Cg.mod.trans (.add (ih.trans (.of_eq (by omega))) .rfl')
    · rw [if_neg e]
      refine ih.trans (.of_eq ?_)
      by_cases q : z ≤ k ∧ k < z + n
      · rw [if_pos q, if_pos (by omega)]
      · rw [if_neg q, if_neg (by omega)]
theorem inT_all {p a : Int} {z : Nat} {ys f : List Int} (k : Nat) (h : z + ys.length ≤ f.length) : Cg p (cf (inT p a z ys ys.length f) k) (cf f k + if z ≤ k then a * cf ys (k - z) else 0) := by
  refine (inT_cf k ys.length h).trans (.of_eq ?_)
  by_cases q : z ≤ k
  · rw [if_pos q]
    by_cases q2 : k < z + ys.length
    · rw [if_pos ⟨q, q2⟩]
    · rw [if_neg (by omega), cf_ge (xs := ys) (by omega)]
      grind
  · rw [if_neg q, if_neg (by omega)]
def outT (p : Int) (xs ys : List Int) : Nat → List Int → List Int
  | 0, f => f
  | n + 1, f => inT p (cf xs n) n ys ys.length (outT p xs ys n f)
theorem outT_len (p : Int) (xs ys f : List Int) : ∀ n, (outT p xs ys n f).length = f.length
  | 0 => rfl
  | n + 1 => by
    unfold outT
    rw [inT_len, outT_len p xs ys f n]
theorem outT_rg {p : Int} {xs ys f : List Int} (hp : 0 < p) (h : Rg p f) : ∀ n, Rg p (outT p xs ys n f)
  | 0 => h
  | n + 1 => inT_rg hp (outT_rg hp h n) _
theorem outT_cf {p : Int} {xs ys f : List Int} (k : Nat) : ∀ n, n + ys.length ≤ f.length + 1 → Cg p (cf (outT p xs ys n f) k) (cf f k + pc (cf xs) (cf ys) n k)
  | 0, _ => .of_eq (by
    show cf f k = cf f k + 0
    omega)
  | n + 1, h => by
    unfold outT
    refine (inT_all k (by rw [outT_len]; omega)).trans ?_
    refine (Cg.add (outT_cf k n (by omega)) .rfl').trans (.of_eq ?_)
    show _ = cf f k + (pc (cf xs) (cf ys) n k + if n ≤ k then cf xs n * cf ys (k - n) else 0)
    omega
def prodL (p : Int) (xs ys : List Int) : List Int := outT p xs ys xs.length (List.replicate (xs.length + ys.length - 1) 0)
def timesL (p : Int) (xs ys : List Int) : List Int := if xs.length = 0 ∨ ys.length = 0 then [] else trim (prodL p xs ys)
theorem prodL_len (p : Int) (xs ys : List Int) : (prodL p xs ys).length = xs.length + ys.length - 1 := by
  unfold prodL
  rw [outT_len, List.length_replicate]
theorem timesL_can {p : Int} (hp : 0 < p) (xs ys : List Int) : Can p (timesL p xs ys) := by
  unfold timesL
  split
  · exact ⟨fun x hx => (nomatch hx), .inl rfl⟩
  · exact trim_can (outT_rg hp (.rep hp _) _)
theorem timesL_le (p : Int) (xs ys : List Int) : (timesL p xs ys).length ≤ xs.length + ys.length - 1 := by
  unfold timesL
  split
  · exact Nat.zero_le _
  · rw [← prodL_len p]
    exact trim_le _
theorem pc_zero_l {f g : Nat → Int} {n k : Nat} (h : ∀ i, f i = 0) : pc f g n k = 0 := sm_zero n fun i _ => by
  rw [h]
  split
  · grind
  · rfl
theorem pc_zero_r {f g : Nat → Int} {n k : Nat} (h : ∀ i, g i = 0) : pc f g n k = 0 := sm_zero n fun i _ => by
  rw [h]
  split
  · grind
  · rfl
theorem timesL_cf {p : Int} (xs ys : List Int) (k N : Nat) (hN : xs.length ≤ N) : Cg p (cf (timesL p xs ys) k) (pc (cf xs) (cf ys) N k) := by
  unfold timesL
  split
  · rename_i h
    refine .of_eq ?_
    rw [cf_ge (Nat.zero_le _)]
    rcases h with h | h
    · exact (pc_zero_l fun i => cf_ge (by omega)).symm
    · exact (pc_zero_r fun i => cf_ge (by omega)).symm
  · rename_i h
    rw [trim_cf]
    refine (outT_cf k xs.length (by rw [List.length_replicate]; omega)).trans (.of_eq ?_)
    rw [cf_rep]
    have e : pc (cf xs) (cf ys) N k = pc (cf xs) (cf ys) xs.length k := sm_le hN fun i hi => by
      rw [cf_ge hi]
      split
      · grind
      · rfl
    rw [e]
    omega
/-- the product of the one with a sum -/
theorem distrib {p : Int} (hp : 0 < p) (xs ys zs : List Int) : timesL p xs (plusL p ys zs) = plusL p (timesL p xs ys) (timesL p xs zs) := by
  refine Can.ext hp (timesL_can hp _ _) (plusL_can hp _ _) fun k => ?_
  refine (timesL_cf xs _ k xs.length (Nat.le_refl _)).trans (Cg.trans ?_ (plusL_cf _ _ k).symm)
  refine Cg.trans ?_ (Cg.add (timesL_cf xs ys k xs.length (Nat.le_refl _)).symm (timesL_cf xs zs k xs.length (Nat.le_refl _)).symm)
  unfold pc
  rw [← sm_add]
  refine sm_cg _ fun i _ => ?_
  by_cases q : i ≤ k
  · rw [if_pos q, if_pos q, if_pos q]
    exact (Cg.mul .rfl' (plusL_cf ys zs _)).trans (.of_eq (by grind))
  · rw [if_neg q, if_neg q, if_neg q]
    exact .rfl'
/-! ### division -/
def invT (p x : Int) : Nat → Int
  | 0 => 1
  | n + 1 => invT p x n * x % p
def Pr (p : Int) : Prop := p = 2 ∨ p = 3 ∨ p = 5 ∨ p = 7 ∨ p = 13
theorem Pr.pos {p : Int} (h : Pr p) : 2 ≤ p ∧ p ≤ 13 := by
  unfold Pr at h
  omega
theorem invT_ok {p x : Int} (hp : Pr p) (h1 : 0 ≤ x) (h2 : x < p) (h3 : x ≠ 0) : Cg p (invT p x (p - 2).toNat * x) 1 := by
  have key : ∀ q : Nat, q ∈ [2, 3, 5, 7, 13] → ∀ y : Nat, y < q → y ≠ 0 → (invT (q : Int) (y : Int) (q - 2) * (y : Int)) % (q : Int) = 1 := by decide
  obtain ⟨q, rfl⟩ : ∃ q : Nat, p = q := ⟨p.toNat, by have := hp.pos; omega⟩
  obtain ⟨y, rfl⟩ : ∃ y : Nat, x = y := ⟨x.toNat, by omega⟩
  have hq : q ∈ [2, 3, 5, 7, 13] := by
    unfold Pr at hp
    simp
    omega
  have := key q hq y (by omega) (by omega)
  have e : ((q : Int) - 2).toNat = q - 2 := by omega
  rw [e]
  exact Cg.mod.symm.trans (.of_eq this)
/-- one turn, at the place z -/
def dStep (p back : Int) (ys : List Int) (z : Nat) (s : List Int × List Int) : List Int × List Int :=
  (s.1.set z (cf s.2 (z + ys.length - 1) * back % p), inT p (-(cf s.2 (z + ys.length - 1) * back % p)) z ys ys.length s.2)
def dT (p back : Int) (xs ys : List Int) (L : Nat) : Nat → List Int × List Int
  | 0 => (List.replicate L 0, xs)
  | i + 1 => dStep p back ys (L - 1 - i) (dT p back xs ys L i)
def dLen (xs ys : List Int) : Nat := xs.length + 1 - ys.length
structure DInv (p : Int) (xs ys : List Int) (L i : Nat) (s : List Int × List Int) : Prop where
  l1 : s.1.length = L
  l2 : s.2.length = xs.length
  r1 : Rg p s.1
  r2 : Rg p s.2
  z1 : ∀ k, k < L - i → cf s.1 k = 0
  z2 : ∀ k, L - i + ys.length - 1 ≤ k → cf s.2 k = 0
  eq : ∀ k, Cg p (pc (cf s.1) (cf ys) L k + cf s.2 k) (cf xs k)
theorem dT_inv {p back : Int} {xs ys : List Int} (hp : 0 < p) (hx : Rg p xs) (hy : 0 < ys.length) (hb : Cg p (back * cf ys (ys.length - 1)) 1) :
    ∀ i, i ≤ dLen xs ys → DInv p xs ys (dLen xs ys) i (dT p back xs ys (dLen xs ys) i)
  | 0, _ => by
    refine ⟨List.length_replicate, rfl, .rep hp _, hx, fun k _ => cf_rep, fun k hk => ?_, fun k => ?_⟩
    · exact cf_ge (by unfold dLen at hk; show xs.length ≤ k; omega)
    · show Cg p (pc (cf (List.replicate _ 0)) (cf ys) _ k + cf xs k) (cf xs k)
      rw [pc_zero_l fun i => cf_rep]
      exact .of_eq (by omega)
  | i + 1, hi => by
    have ih := dT_inv hp hx hy hb i (by omega)
    show DInv p xs ys (dLen xs ys) (i + 1) (dStep p back ys (dLen xs ys - 1 - i) (dT p back xs ys (dLen xs ys) i))
    generalize dT p back xs ys (dLen xs ys) i = s at ih
    generalize hL : dLen xs ys = L at ih hi
    have hLx : L + ys.length ≤ xs.length + 1 := by unfold dLen at hL; omega
    generalize hz : L - 1 - i = z
    generalize hc : cf s.2 (z + ys.length - 1) * back % p = c
    have c0 : 0 ≤ c := by rw [← hc]; exact Int.emod_nonneg _ (by omega)
    have cp : c < p := by rw [← hc]; exact Int.emod_lt_of_pos _ hp
    have cg : Cg p c (cf s.2 (z + ys.length - 1) * back) := by rw [← hc]; exact .mod
    have hzL : z < L := by omega
    have hin : ∀ k, Cg p (cf (inT p (-c) z ys ys.length s.2) k) (cf s.2 k + if z ≤ k then -c * cf ys (k - z) else 0) := fun k => inT_all k (by rw [ih.l2]; omega)
    have rin : Rg p (inT p (-c) z ys ys.length s.2) := inT_rg hp ih.r2 _
    have es : dStep p back ys z s = (s.1.set z c, inT p (-c) z ys ys.length s.2) := by unfold dStep; rw [hc]
    rw [es]
    refine ⟨?_, ?_, ih.r1.set c0 cp, rin, fun k hk => ?_, fun k hk => ?_, fun k => ?_⟩
    · show (s.1.set z c).length = L
      rw [List.length_set, ih.l1]
    · show (inT p (-c) z ys ys.length s.2).length = xs.length
      rw [inT_len, ih.l2]
    · show cf (s.1.set z c) k = 0
      rw [cf_set (by rw [ih.l1]; exact hzL), if_neg (by omega)]
      exact ih.z1 k (by omega)
    · show cf (inT p (-c) z ys ys.length s.2) k = 0
      have b := rin.cf hp k
      refine Cg.eq (p := p) ?_ b.1 b.2 (Int.le_refl _) hp
      refine (hin k).trans ?_
      rw [if_pos (by omega)]
      by_cases q : k = z + ys.length - 1
      · have e1 : k - z = ys.length - 1 := by omega
        rw [e1, q]
        have h1 : Cg p (c * cf ys (ys.length - 1)) (cf s.2 (z + ys.length - 1)) := by
          refine (Cg.mul cg .rfl').trans ((Cg.of_eq ?_).trans ((Cg.mul (.rfl' (a := cf s.2 (z + ys.length - 1))) hb).trans (.of_eq (by omega))))
          grind
        refine Cg.trans (.of_eq (b := cf s.2 (z + ys.length - 1) - c * cf ys (ys.length - 1)) (by grind)) ((Cg.sub .rfl' h1).trans (.of_eq (by omega)))
      · rw [ih.z2 k (by omega), cf_ge (xs := ys) (by omega)]
        exact .of_eq (by grind)
    · show Cg p (pc (cf (s.1.set z c)) (cf ys) L k + cf (inT p (-c) z ys ys.length s.2) k) (cf xs k)
      refine Cg.trans ?_ (ih.eq k)
      have e1 : pc (cf (s.1.set z c)) (cf ys) L k = pc (cf s.1) (cf ys) L k + if z ≤ k then c * cf ys (k - z) else 0 := by
        unfold pc
        rw [sm_upd (f := fun i => if i ≤ k then cf s.1 i * cf ys (k - i) else 0) (a := z) L hzL fun i hi => by rw [cf_set (by rw [ih.l1]; exact hzL), if_neg hi]]
        have e2 : cf (s.1.set z c) z = c := by rw [cf_set (by rw [ih.l1]; exact hzL), if_pos rfl]
        have e3 : cf s.1 z = 0 := ih.z1 z (by omega)
        rw [e2, e3]
        split
        · grind
        · omega
      rw [e1]
      refine (Cg.add .rfl' (hin k)).trans (.of_eq ?_)
      split
      · grind
      · omega
def divL (p back : Int) (xs ys : List Int) : List Int × List Int := dT p back xs ys (dLen xs ys) (dLen xs ys)
def quoL (p back : Int) (xs ys : List Int) : List Int := trim (divL p back xs ys).1
def resL (p back : Int) (xs ys : List Int) : List Int := trim (divL p back xs ys).2
section
variable {p back : Int} {xs ys : List Int}
theorem divL_inv (hp : 0 < p) (hx : Rg p xs) (hy : 0 < ys.length) (hb : Cg p (back * cf ys (ys.length - 1)) 1) : DInv p xs ys (dLen xs ys) (dLen xs ys) (divL p back xs ys) :=
  dT_inv hp hx hy hb _ (Nat.le_refl _)
theorem quoL_can (hp : 0 < p) (hx : Rg p xs) (hy : 0 < ys.length) (hb : Cg p (back * cf ys (ys.length - 1)) 1) : Can p (quoL p back xs ys) := trim_can (divL_inv hp hx hy hb).r1
theorem resL_can (hp : 0 < p) (hx : Rg p xs) (hy : 0 < ys.length) (hb : Cg p (back * cf ys (ys.length - 1)) 1) : Can p (resL p back xs ys) := trim_can (divL_inv hp hx hy hb).r2
theorem quoL_le (hp : 0 < p) (hx : Rg p xs) (hy : 0 < ys.length) (hb : Cg p (back * cf ys (ys.length - 1)) 1) : (quoL p back xs ys).length ≤ xs.length := by
  have h := trim_le (divL p back xs ys).1
  rw [(divL_inv hp hx hy hb).l1] at h
  unfold dLen at h
  unfold quoL
  omega
theorem resL_lt (hp : 0 < p) (hx : Rg p xs) (hy : 0 < ys.length) (hb : Cg p (back * cf ys (ys.length - 1)) 1) : (resL p back xs ys).length < ys.length := by
  have D := divL_inv hp hx hy hb
  have C := resL_can hp hx hy hb
  rcases C.last with e | e
  · omega
  · refine Nat.lt_of_not_le fun q => e ?_
    unfold resL
    rw [trim_cf]
    refine D.z2 _ ?_
    unfold resL at q
    omega
/-- quotient times the other and the rest are the one -/
theorem div_back (hp : 0 < p) (hx : Can p xs) (hy : 0 < ys.length) (hb : Cg p (back * cf ys (ys.length - 1)) 1) : plusL p (timesL p (quoL p back xs ys) ys) (resL p back xs ys) = xs := by
  have D := divL_inv hp hx.rg hy hb
  refine Can.ext hp (plusL_can hp _ _) hx fun k => ?_
  refine (plusL_cf _ _ k).trans (Cg.trans ?_ (D.eq k))
  have hl : (quoL p back xs ys).length ≤ dLen xs ys := by
    have h := trim_le (divL p back xs ys).1
    rw [D.l1] at h
    exact h
  refine Cg.add ((timesL_cf _ _ k _ hl).trans (.of_eq ?_)) (.of_eq (trim_cf _ _))
  unfold pc
  refine sm_eq _ fun i _ => ?_
  have e : cf (quoL p back xs ys) i = cf (divL p back xs ys).1 i := trim_cf _ _
  rw [e]
/-- a multiple is divided -/
theorem div_mult {ms : List Int} (hp : 0 < p) (hm : Can p ms) (hyc : Can p ys) (hy : 0 < ys.length) (hb : Cg p (back * cf ys (ys.length - 1)) 1) :
    quoL p back (timesL p ms ys) ys = ms ∧ resL p back (timesL p ms ys) ys = [] := by
  generalize hxs : timesL p ms ys = xs
  have hx : Can p xs := by rw [← hxs]; exact timesL_can hp _ _
  have D := divL_inv (back := back) hp hx.rg hy hb
  generalize divL p back xs ys = s at D
  have hq : Can p (quoL p back xs ys) := quoL_can hp hx.rg hy hb
  have hr : Can p (resL p back xs ys) := resL_can hp hx.rg hy hb
  have qc : ∀ i, cf (quoL p back xs ys) i = cf (divL p back xs ys).1 i := fun i => trim_cf _ _
  have rc : ∀ i, cf (resL p back xs ys) i = cf (divL p back xs ys).2 i := fun i => trim_cf _ _
  have D := divL_inv (back := back) hp hx.rg hy hb
  generalize divL p back xs ys = s at D qc rc
  -- the difference of the quotients, times ys, is the rest
  have hN1 : dLen xs ys ≤ ms.length + dLen xs ys := by omega
  have big : ∀ k, Cg p (sm (fun i => if i ≤ k then (cf ms i - cf s.1 i) * cf ys (k - i) else 0) (ms.length + dLen xs ys)) (cf s.2 k) := fun k => by
    have h1 := timesL_cf (p := p) ms ys k (ms.length + dLen xs ys) (by omega)
    rw [hxs] at h1
    have h2 := D.eq k
    have e : pc (cf s.1) (cf ys) (dLen xs ys) k = pc (cf s.1) (cf ys) (ms.length + dLen xs ys) k := (sm_le hN1 fun i hi => by
      rw [cf_ge (xs := s.1) (by rw [D.l1]; exact hi)]
      split
      · grind
      · rfl).symm
    rw [e] at h2
    have e2 : sm (fun i => if i ≤ k then (cf ms i - cf s.1 i) * cf ys (k - i) else 0) (ms.length + dLen xs ys) = pc (cf ms) (cf ys) (ms.length + dLen xs ys) k - pc (cf s.1) (cf ys) (ms.length + dLen xs ys) k := by
      unfold pc
      rw [← sm_sub]
      refine sm_eq _ fun i _ => ?_
      split
      · grind
      · omega
    rw [e2]
    refine (Cg.sub (h1.symm.trans h2.symm) .rfl').trans (.of_eq (by omega))
  have D0 : ∀ j i, ms.length + dLen xs ys - j ≤ i → Cg p (cf ms i - cf s.1 i) 0 := by
    intro j
    induction j with
    | zero =>
      intro i hi
      rw [cf_ge (xs := ms) (by omega), cf_ge (xs := s.1) (by rw [D.l1]; omega)]
      exact .rfl'
    | succ j ih =>
      intro i hi
      by_cases q : ms.length + dLen xs ys - j ≤ i
      · exact ih i q
      · have hb2 := big (i + ys.length - 1)
        rw [D.z2 _ (by omega)] at hb2
        have h3 : Cg p (sm (fun i_1 => if i_1 ≤ i + ys.length - 1 then (cf ms i_1 - cf s.1 i_1) * cf ys (i + ys.length - 1 - i_1) else 0) (ms.length + dLen xs ys)) ((cf ms i - cf s.1 i) * cf ys (ys.length - 1)) := by
          refine Cg.trans (sm_cg (g := fun t => if t = i then (cf ms i - cf s.1 i) * cf ys (ys.length - 1) else 0) _ fun t ht => ?_) (.of_eq ?_)
          · by_cases e : t = i
            · subst e
              rw [if_pos (by omega), if_pos rfl, show t + ys.length - 1 - t = ys.length - 1 by omega]
              exact .rfl'
            · rw [if_neg e]
              by_cases l : t ≤ i + ys.length - 1
              · rw [if_pos l]
                by_cases q2 : t < i
                · rw [cf_ge (xs := ys) (by omega)]
                  exact .of_eq (by grind)
                · exact (Cg.mul (ih t (by omega)) .rfl').trans (.of_eq (by grind))
              · rw [if_neg l]
                exact .rfl'
          · rw [sm_upd (f := fun _ => 0) (a := i) _ (by omega) fun t ht => if_neg ht, sm_zero _ fun _ _ => rfl, if_pos rfl]
            omega
        have h4 : Cg p ((cf ms i - cf s.1 i) * cf ys (ys.length - 1)) 0 := h3.symm.trans hb2
        have h5 : Cg p ((cf ms i - cf s.1 i) * (back * cf ys (ys.length - 1))) 0 := by
          refine Cg.trans (.of_eq ?_) ((Cg.mul (.rfl' (a := back)) h4).trans (.of_eq (by grind)))
          grind
        exact (Cg.of_eq (by grind)).trans ((Cg.mul (.rfl' (a := cf ms i - cf s.1 i)) hb).symm.trans h5)
  have DA : ∀ i, Cg p (cf ms i - cf s.1 i) 0 := fun i => D0 (ms.length + dLen xs ys) i (by omega)
  refine ⟨Can.ext hp hq hm fun k => ?_, Can.ext hp hr ⟨fun x hx => (nomatch hx), .inl rfl⟩ fun k => ?_⟩
  · rw [qc]
    have := DA k
    refine Cg.symm ((Cg.of_eq (b := (cf ms k - cf s.1 k) + cf s.1 k) (by omega)).trans ((Cg.add this .rfl').trans (.of_eq (by omega))))
  · rw [rc]
    refine (big k).symm.trans ?_
    rw [show cf [] k = 0 from cf_ge (Nat.zero_le _)]
    refine (sm_cg (g := fun _ => 0) _ fun i _ => ?_).trans (.of_eq (sm_zero _ fun _ _ => rfl))
    split
    · exact (Cg.mul (DA i) .rfl').trans (.of_eq (by grind))
    · exact .rfl'
end
end K1

/-! A for over enumerate(a tuple): the layer has it over a list. -/
namespace KEnt
open PySem PySem.Spec PyProof.Rows L2

/-- enumerate(v) by one argument, v of any kind whose iterator is known -/
theorem make1 {v : Value} {o : Obj} {G : Heap → Prop} (B : Begins v o G) :
    Meets (Builtin.«enumerate.__new__» ⟨[.type "enumerate", v], []⟩) (fun _ R s => G s.heap ∧
      R (.ok (.ret (.ref (s.heap.push o).objs.size))) { s with heap := (s.heap.push o).push { cls := .type "enumerate", data := .fields #[.none, .bool false, .ref s.heap.objs.size, rawInt 0, .none, .none] } }) :=
  .of_wp fun prog w A R s h => by
    obtain ⟨hp, g, d, tk, os⟩ := s
    obtain ⟨h1, h2⟩ := h
    have isub := sub_enumerate
    have go : ∀ {A' : Around} {E Q : Value → Shared → Prop}, Q (.ref hp.objs.size) ⟨hp.push o, g, d, tk, os⟩ → wpAny (model prog w) A' (pyIter v) Q E ⟨hp, g, d, tk, os⟩ :=
      fun q => B.iter prog w _ _ ⟨hp, g, d, tk, os⟩ _ h1 q
    wp_walk using go
    refine wpAny_stack_any fun st => wpAny_pure ?_
    split
    · rename_i c _ _ _ _ _
      cases (c == Value.type "enumerate") <;>
      · wp_walk using go
        exact ⟨_, rfl, h2⟩
    · wp_walk using go
      exact ⟨_, rfl, h2⟩

/-- enumerate(t) called, t a tuple: its two records -/
theorem call1 {prog : Program} {w : World} {A : Around} {E : Value → Shared → Prop} {s : Shared} {t : Addr} {its : Array Value} {Q : Value → Shared → Prop} (ht : s.heap.IsTuple t its)
    (h : ∀ h', IsEnum h' (s.heap.objs.size + 1) s.heap.objs.size 0 .none → h'.IsTupleIter s.heap.objs.size t 0 → (∀ b u, s.heap.get? b = some u → h'.get? b = some u) →
      Q (.ref (s.heap.objs.size + 1)) { s with heap := h' }) : wpAny (model prog w) A (call (.type "enumerate") [.ref t]) Q E s := by
  have B := begins_tuple t its
  refine callType_new F.called_enumerate (by decide) (F.typeCall_enumerate_1 _) (F.newCall_enumerate_1 _) (fun x => F.args_object_init_2 x _) F.entry_enumerate_new (make1 B) ⟨ht, ?_⟩
  have sz : ∀ u : Obj, (s.heap.push u).objs.size = s.heap.objs.size + 1 := fun u => Heap.size_push ..
  show _ ∧ _
  rw [sz]
  generalize hu : ({ cls := .type "tuple_iterator", data := .fields #[.ref t, .int 0 0] } : Obj) = u
  have en : ((s.heap.push u).push { cls := .type "enumerate", data := .fields #[.none, .bool false, .ref s.heap.objs.size, rawInt 0, .none, .none] }).get? (s.heap.objs.size + 1) =
      some { cls := .type "enumerate", data := .fields #[.none, .bool false, .ref s.heap.objs.size, rawInt 0, .none, .none] } := by
    have z := Heap.get?_push_size (s.heap.push u) (o := { cls := .type "enumerate", data := .fields #[.none, .bool false, .ref s.heap.objs.size, rawInt 0, .none, .none] }) rfl
    rwa [sz] at z
  refine ⟨⟨_, en, rfl⟩, h _ en ?_ fun b o x => Heap.get?_push_of_some _ (Heap.get?_push_of_some _ x)⟩
  refine ⟨_, Heap.get?_push_of_some _ (Heap.get?_push_size _ ?_), ?_, ?_⟩
  · rw [← hu] <;> rfl
  · rw [← hu] <;> rfl
  · rw [← hu] <;> rfl

/-- the tuple at a, each item in a new pair behind its number -/
def ItT (K : PySem.W.Frag) (a : Addr) : It :=
  ⟨fun i H => ∃ (xs : List V) (x : V), SqT K H a xs ∧ xs[i]? = some x,
   fun i H v H' => ∃ T x, v = .ref T ∧ H T = none ∧ H' = upd H T (.tup [.int (i : Nat), x]) ∧ ∀ xs, SqT K H a xs → xs[i]? = some x,
   fun i H => ∃ xs : List V, SqT K H a xs ∧ xs.length = i⟩
theorem walk {K : PySem.W.Frag} {a : Addr} {xs : List V} : Walk (ItT K a) xs.length (fun H => SqT K H a xs) (YPair (fun i => some (.int (i : Nat))) (fun i => xs[i]?)) := by
  refine ⟨fun i _ hi q => ⟨xs, xs[i], q, by simp [hi]⟩, fun _ q => ⟨xs, q, rfl⟩, fun i H v H' _ q y => ?_⟩
  obtain ⟨T, x, h1, h2, h3, h4⟩ := y
  exact ⟨T, .int (i : Nat), x, h1, h2, h3, rfl, h4 xs q⟩

theorem turn {P : Program} {w : World} {K : PySem.W.Frag} {elts : List Expr} {kk : Nat} {tpos : Pos} (a e it : Addr) :
    Turn P w K (.Tuple elts kk tpos) (ItT K a) [e, it] e (fun i h => (∃ old, IsEnum h e it ((i : Nat) : Int) old) ∧ h.IsTupleIter it a i ∧ e ≠ it ∧ a ≠ it ∧ a ≠ e) where
  mem := by simp
  obj := fun i h st b hb => by
    obtain ⟨⟨old, he⟩, ⟨o, ho, hc, hd⟩, _⟩ := st
    rcases (by simpa using hb : b = e ∨ b = it) with rfl | rfl
    · exact ⟨_, he, fun v q => nomatch q⟩
    · exact ⟨o, ho, fun v q => by rw [hd] at q; cases q⟩
  keep := fun i h h' st k => let ⟨⟨old, he⟩, hi, r⟩ := st; ⟨⟨old, k e (by simp) _ he⟩, hi.at fun o q => k it (by simp) o q, r⟩
  item := by
    intro X hP hw hK hc i pins s σ H E I hf st hg
    subst hP hw hK
    obtain ⟨⟨old, he⟩, hit, hne, hai, hae⟩ := st
    obtain ⟨xs, x, hq, hx⟩ := hg
    obtain ⟨its, rv, p, hz⟩ := I.tuple hq
    have hlt : i < its.toArray.size := by
      have h1 := rv.length
      have h2 := (List.getElem?_eq_some_iff.mp hx).1
      rw [List.size_toArray]
      omega
    have hel : e < s.heap.objs.size := Heap.lt_size he
    have hil : it < s.heap.objs.size := by obtain ⟨_, q, _⟩ := hit; exact Heap.lt_size q
    have hh : X.A.in1.handled = none := I.ok.hd hc
    refine wpAny_pyNext_enum_itemD (Draws.tuple hh it a hai its.toArray) he ⟨hit, p⟩ hlt hne (by simp [hne, hae.symm]) fun u h' tk hu ho hit' hT hsz hk => ?_
    have hu : its[i]? = some u := by simpa using hu
    have ru : RelV x u := by
      obtain ⟨u', e1, r1⟩ := rv.get hx
      rw [hu] at e1
      cases e1
      exact r1
    refine ⟨_, rfl, wpAny_letOwnedTupleGo_enum (s := { s with heap := h', toks := tk + 1 }) ho fun h2 he2 sb => ?_⟩
    have nT : s.heap.objs.size ≠ e := Nat.ne_of_gt hel
    have new : ObjOk X.prog X.w (upd H s.heap.objs.size (.tup [.int (i : Nat), x])) h2 s.heap.objs.size (.tup [.int (i : Nat), x]) :=
      ⟨(by decide : 2 ≤ sizeLine), [.int i tk, u], .cons ⟨_, rfl⟩ (.cons ru .nil), ⟨_, (sb.2 _ nT).trans hT, rfl, _, rfl⟩⟩
    have keep : ∀ b ob, b ∉ [e, it] → s.heap.get? b = some ob → h2.get? b = some ob := fun b ob hb q => by
      have n1 : b ≠ e := fun z => hb (by simp [z])
      have n2 : b ≠ it := fun z => hb (by simp [z])
      exact (sb.2 b n1).trans (hk b ob n1 n2 q)
    have I1 : Inv X pins σ (upd H s.heap.objs.size (.tup [.int (i : Nat), x])) { s with heap := h2, toks := tk + 1 } := I.turnedNew (ch := [e, it]) keep hf (Nat.le_refl _) new
    refine ⟨.ref s.heap.objs.size, _, I1, rfl, ⟨_, x, rfl, I.fresh, rfl, fun ys hy => by rw [I.tuple_inj hy hq]; exact hx⟩, ⟨⟨u, ?_⟩, hit'.1.at fun o q => (sb.2 it (Ne.symm hne)).trans q, hne, hai, hae⟩, fun b hb => ?_⟩
    · rw [show ((i + 1 : Nat) : Int) = (i : Int) + 1 by omega]
      exact he2
    · rw [upd_ne]
      · exact (hf b hb).1
      · rcases (by simpa using hb : b = e ∨ b = it) with rfl | rfl
        · exact Nat.ne_of_lt hel
        · exact Nat.ne_of_lt hil
  done := by
    intro X hP hw hK hc i pins s σ H E I hf st hg
    subst hP hw hK
    obtain ⟨⟨old, he⟩, hit, hne, hai, hae⟩ := st
    obtain ⟨xs, hq, hx⟩ := hg
    obtain ⟨its, rv, p, hz⟩ := I.tuple hq
    obtain ⟨f0, f1, f2, f3, f4, f5⟩ := hf it (by simp)
    have hh : X.A.in1.handled = none := I.ok.hd hc
    have hl : i = its.toArray.size := by
      rw [List.size_toArray, ← rv.length]
      exact hx.symm
    subst hl
    exact wpAny_pyNext_enum_endD (Draws.tuple hh it a hai its.toArray) he ⟨hit, p⟩ fun h' eb => ⟨rfl, I.turned (t' := s.toks) (fun b o hb q => eb b o hb q) f0 f1 f3 f4 f5⟩
  self := fun A i s Q E st h => let ⟨⟨_, he⟩, _⟩ := st; wpAny_pyIter_enum he h

/-- what such a for asks -/
def iEn (K : PySem.W.Frag) (ta : TA) : TI := fun σ H R => ta σ H fun vs H1 => ∃ a xs, vs = [.ref a] ∧ SqT K H1 a xs ∧ R (ItT K a) H1
theorem pi_en {X : Cx} {e : Expr} {ta : TA} {p pos tpos : Pos} {elts : List Expr} {kk : Nat} (hg : Gl X "enumerate") (hm : X.mg "enumerate" = none) (ha : PA X [e] ta)
    (hs : starEach [e] X.env = [(false, eval e X.env)] := by rfl) : PI X (.Tuple elts kk tpos) (.Call (.Name "enumerate" p) [e] [] pos) (iEn X.K ta) := by
  refine ⟨fun pins s σ H R I h => ?_⟩
  refine Call_ (ld_blt I hg hm boot_enumerate (PyProof.Rows.callWith_type1 (thn (ha.run pos pins s σ H _ I h) fun us s1 ⟨vs, H1, I1, r1, a, xs, ex, hq, q⟩ => ?_) hs rfl))
  subst ex
  rw [r1.ref1]
  obtain ⟨its, rv, p', hz⟩ := I1.tuple hq
  have lt : a < s1.heap.objs.size := p'.lt
  refine call1 p' fun h' he hit hk => wpAny_pyIter_enum he ?_
  have I2 : Inv X pins σ H1 { s1 with heap := h' } := I1.kept (t' := s1.toks) hk
  refine ⟨s1.heap.objs.size + 1, [s1.heap.objs.size + 1, s1.heap.objs.size], _, _, H1, rfl, I2, turn a (s1.heap.objs.size + 1) s1.heap.objs.size,
    ⟨⟨.none, he⟩, hit, Nat.succ_ne_self _, Nat.ne_of_lt lt, Nat.ne_of_lt (Nat.lt_succ_of_lt lt)⟩, fun b hb => ?_, q⟩
  have le : s1.heap.objs.size ≤ b := by
    rcases (by simpa using hb : b = s1.heap.objs.size + 1 ∨ b = s1.heap.objs.size) with z | z
    · rw [z]
      exact Nat.le_succ _
    · rw [z]
      exact Nat.le_refl _
  exact I1.fpOk le (I1.hok.fresh le)
end KEnt

namespace KW
open PySem PySem.Spec PyProof.Rows L2 K1
def topS (i : Nat) : Stmt := PySem.Challenge.pw_steerloops_k01_whole_polynomials.main.body.getD i (.Pass ⟨0, 0, 0, 0⟩)
abbrev s_is_int : Stmt := topS 8
abbrev s_is_in : Stmt := topS 9
abbrev s_need_prime : Stmt := topS 10
abbrev s_inverse : Stmt := topS 11
abbrev s_is_free : Stmt := topS 14
abbrev s_is_poly : Stmt := topS 15
abbrev s_need_poly : Stmt := topS 16
abbrev s_trimmed : Stmt := topS 17
abbrev s_plus : Stmt := topS 18
abbrev s_times : Stmt := topS 19
abbrev s_parted : Stmt := topS 20
abbrev s_small : Stmt := topS 21
abbrev s_add : Stmt := topS 22
abbrev s_multiply : Stmt := topS 23
abbrev s_divide : Stmt := topS 24
abbrev s_w_taken : Stmt := topS 26
abbrev s_w_pick : Stmt := topS 27
abbrev s_w_alike : Stmt := topS 28
abbrev s_w_prime : Stmt := topS 29
abbrev s_w_trim : Stmt := topS 30
abbrev s_w_poly : Stmt := topS 31
abbrev s_w_some : Stmt := topS 32
abbrev s_w_sum : Stmt := topS 33
abbrev s_w_times : Stmt := topS 34
abbrev s_w_law : Stmt := topS 35
abbrev N_is_int : List Str := ["value"]
abbrev P_is_int : List Str := ["value"]
theorem c_is_int : FnScope ["value"] ["value"] (defScope s_is_int) := ⟨rfl, rfl, rfl, by decide +kernel, rfl, by decide +kernel, by decide +kernel⟩
abbrev N_is_in : List Str := ["value", "least", "most"]
abbrev P_is_in : List Str := ["value", "least", "most"]
theorem c_is_in : FnScope ["value", "least", "most"] ["value", "least", "most"] (defScope s_is_in) := ⟨rfl, rfl, rfl, by decide +kernel, rfl, by decide +kernel, by decide +kernel⟩
abbrev N_need_prime : List Str := ["value"]
abbrev P_need_prime : List Str := ["value"]
theorem c_need_prime : FnScope ["value"] ["value"] (defScope s_need_prime) := ⟨rfl, rfl, rfl, by decide +kernel, rfl, by decide +kernel, by decide +kernel⟩
abbrev N_inverse : List Str := ["p", "number", "found", "turn"]
abbrev P_inverse : List Str := ["p", "number"]
theorem c_inverse : FnScope ["p", "number", "found", "turn"] ["p", "number"] (defScope s_inverse) := ⟨rfl, rfl, rfl, by decide +kernel, rfl, by decide +kernel, by decide +kernel⟩
abbrev N_is_free : List Str := ["p", "value", "one"]
abbrev P_is_free : List Str := ["p", "value"]
theorem c_is_free : FnScope ["p", "value", "one"] ["p", "value"] (defScope s_is_free) := ⟨rfl, rfl, rfl, by decide +kernel, rfl, by decide +kernel, by decide +kernel⟩
abbrev N_is_poly : List Str := ["p", "value"]
abbrev P_is_poly : List Str := ["p", "value"]
theorem c_is_poly : FnScope ["p", "value"] ["p", "value"] (defScope s_is_poly) := ⟨rfl, rfl, rfl, by decide +kernel, rfl, by decide +kernel, by decide +kernel⟩
abbrev N_need_poly : List Str := ["p", "value"]
abbrev P_need_poly : List Str := ["p", "value"]
theorem c_need_poly : FnScope ["p", "value"] ["p", "value"] (defScope s_need_poly) := ⟨rfl, rfl, rfl, by decide +kernel, rfl, by decide +kernel, by decide +kernel⟩
abbrev N_trimmed : List Str := ["some", "many"]
abbrev P_trimmed : List Str := ["some"]
theorem c_trimmed : FnScope ["some", "many"] ["some"] (defScope s_trimmed) := ⟨rfl, rfl, rfl, by decide +kernel, rfl, by decide +kernel, by decide +kernel⟩
abbrev N_plus : List Str := ["p", "one", "other", "many", "first", "second", "a", "b"]
abbrev P_plus : List Str := ["p", "one", "other"]
theorem c_plus : FnScope ["p", "one", "other", "many", "first", "second", "a", "b"] ["p", "one", "other"] (defScope s_plus) := ⟨rfl, rfl, rfl, by decide +kernel, rfl, by decide +kernel, by decide +kernel⟩
abbrev N_times : List Str := ["p", "one", "other", "found", "at", "a", "place", "b"]
abbrev P_times : List Str := ["p", "one", "other"]
theorem c_times : FnScope ["p", "one", "other", "found", "at", "a", "place", "b"] ["p", "one", "other"] (defScope s_times) := ⟨rfl, rfl, rfl, by decide +kernel, rfl, by decide +kernel, by decide +kernel⟩
abbrev N_parted : List Str := ["p", "one", "other", "rest", "found", "back", "at", "place", "b"]
abbrev P_parted : List Str := ["p", "one", "other"]
theorem c_parted : FnScope ["p", "one", "other", "rest", "found", "back", "at", "place", "b"] ["p", "one", "other"] (defScope s_parted) := ⟨rfl, rfl, rfl, by decide +kernel, rfl, by decide +kernel, by decide +kernel⟩
abbrev N_small : List Str := ["one"]
abbrev P_small : List Str := ["one"]
theorem c_small : FnScope ["one"] ["one"] (defScope s_small) := ⟨rfl, rfl, rfl, by decide +kernel, rfl, by decide +kernel, by decide +kernel⟩
abbrev N_add : List Str := ["p", "one", "other"]
abbrev P_add : List Str := ["p", "one", "other"]
theorem c_add : FnScope ["p", "one", "other"] ["p", "one", "other"] (defScope s_add) := ⟨rfl, rfl, rfl, by decide +kernel, rfl, by decide +kernel, by decide +kernel⟩
abbrev N_multiply : List Str := ["p", "one", "other"]
abbrev P_multiply : List Str := ["p", "one", "other"]
theorem c_multiply : FnScope ["p", "one", "other"] ["p", "one", "other"] (defScope s_multiply) := ⟨rfl, rfl, rfl, by decide +kernel, rfl, by decide +kernel, by decide +kernel⟩
abbrev N_divide : List Str := ["p", "one", "other"]
abbrev P_divide : List Str := ["p", "one", "other"]
theorem c_divide : FnScope ["p", "one", "other"] ["p", "one", "other"] (defScope s_divide) := ⟨rfl, rfl, rfl, by decide +kernel, rfl, by decide +kernel, by decide +kernel⟩
abbrev N_w_taken : List Str := ["_law_row", "_law_many", "_law_found", "_law_cell"]
abbrev P_w_taken : List Str := ["_law_row", "_law_many"]
theorem c_w_taken : FnScope ["_law_row", "_law_many", "_law_found", "_law_cell"] ["_law_row", "_law_many"] (defScope s_w_taken) := ⟨rfl, rfl, rfl, by decide +kernel, rfl, by decide +kernel, by decide +kernel⟩
abbrev N_w_pick : List Str := ["_law_row", "_law_things"]
abbrev P_w_pick : List Str := ["_law_row", "_law_things"]
theorem c_w_pick : FnScope ["_law_row", "_law_things"] ["_law_row", "_law_things"] (defScope s_w_pick) := ⟨rfl, rfl, rfl, by decide +kernel, rfl, by decide +kernel, by decide +kernel⟩
abbrev N_w_alike : List Str := ["_law_found", "_law_due", "_law_k"]
abbrev P_w_alike : List Str := ["_law_found", "_law_due"]
theorem c_w_alike : FnScope ["_law_found", "_law_due", "_law_k"] ["_law_found", "_law_due"] (defScope s_w_alike) := ⟨rfl, rfl, rfl, by decide +kernel, rfl, by decide +kernel, by decide +kernel⟩
abbrev N_w_prime : List Str := ["_law_row"]
abbrev P_w_prime : List Str := ["_law_row"]
theorem c_w_prime : FnScope ["_law_row"] ["_law_row"] (defScope s_w_prime) := ⟨rfl, rfl, rfl, by decide +kernel, rfl, by decide +kernel, by decide +kernel⟩
abbrev N_w_trim : List Str := ["_law_some_here", "_law_many", "_law_turn"]
abbrev P_w_trim : List Str := ["_law_some_here"]
theorem c_w_trim : FnScope ["_law_some_here", "_law_many", "_law_turn"] ["_law_some_here"] (defScope s_w_trim) := ⟨rfl, rfl, rfl, by decide +kernel, rfl, by decide +kernel, by decide +kernel⟩
abbrev N_w_poly : List Str := ["_law_row", "_law_p", "_law_most", "_law_at"]
abbrev P_w_poly : List Str := ["_law_row", "_law_p", "_law_most"]
theorem c_w_poly : FnScope ["_law_row", "_law_p", "_law_most", "_law_at"] ["_law_row", "_law_p", "_law_most"] (defScope s_w_poly) := ⟨rfl, rfl, rfl, by decide +kernel, rfl, by decide +kernel, by decide +kernel⟩
abbrev N_w_some : List Str := ["_law_row", "_law_p", "_law_most", "_law_one"]
abbrev P_w_some : List Str := ["_law_row", "_law_p", "_law_most"]
theorem c_w_some : FnScope ["_law_row", "_law_p", "_law_most", "_law_one"] ["_law_row", "_law_p", "_law_most"] (defScope s_w_some) := ⟨rfl, rfl, rfl, by decide +kernel, rfl, by decide +kernel, by decide +kernel⟩
abbrev N_w_sum : List Str := ["_law_p", "_law_one", "_law_other", "_law_many", "_law_first", "_law_second", "_law_at"]
abbrev P_w_sum : List Str := ["_law_p", "_law_one", "_law_other"]
theorem c_w_sum : FnScope ["_law_p", "_law_one", "_law_other", "_law_many", "_law_first", "_law_second", "_law_at"] ["_law_p", "_law_one", "_law_other"] (defScope s_w_sum) := ⟨rfl, rfl, rfl, by decide +kernel, rfl, by decide +kernel, by decide +kernel⟩
abbrev N_w_times : List Str := ["_law_p", "_law_one", "_law_other", "_law_found", "_law_at", "_law_place"]
abbrev P_w_times : List Str := ["_law_p", "_law_one", "_law_other"]
theorem c_w_times : FnScope ["_law_p", "_law_one", "_law_other", "_law_found", "_law_at", "_law_place"] ["_law_p", "_law_one", "_law_other"] (defScope s_w_times) := ⟨rfl, rfl, rfl, by decide +kernel, rfl, by decide +kernel, by decide +kernel⟩
abbrev N_w_law : List Str := ["_law_script", "_law_row", "_law_p", "_law_one", "_law_other", "_law_more", "_law_part", "_law_rest", "_law_whole"]
abbrev P_w_law : List Str := ["_law_script"]
theorem c_w_law : FnScope ["_law_script", "_law_row", "_law_p", "_law_one", "_law_other", "_law_more", "_law_part", "_law_rest", "_law_whole"] ["_law_script"] (defScope s_w_law) := ⟨rfl, rfl, rfl, by decide +kernel, rfl, by decide +kernel, by decide +kernel⟩
/-! ### heaps -/
theorem sm_upd {H : Hp} {p : Addr} {o : HO} (h : H p = none) : Same H (upd H p o) := fun b x e => by
  rw [upd_ne (ne_of_none e h)]
  exact e
theorem sm_tup {K : PySem.W.Frag} {H H' : Hp} {a : Addr} {xs : List V} (e : Same H H') (h : SqT K H a xs) : SqT K H' a xs := by
  rcases h with (h | ⟨o, h⟩) | h
  · exact .inl (.inl (e _ _ h))
  · exact .inl (.inr ⟨o, e _ _ h⟩)
  · exact .inr h
theorem sm_new {H0 H : Hp} {p : Addr} {o : HO} (e : Same H0 H) (n : H p = none) : Same H0 (upd H p o) := e.trans (sm_upd n)
/-- a thing that is younger than H0 is written -/
theorem sm_own {H0 H : Hp} {p : Addr} {o : HO} (e : Same H0 H) (n : H0 p = none) : Same H0 (upd H p o) := fun b x q => by
  rw [upd_ne (ne_of_none q n)]
  exact e _ _ q
theorem at_new {H : Hp} {p a : Addr} {o u : HO} (n : H p = none) (h : H a = some u) : upd H p o a = some u := by
  rw [upd_ne (ne_of_none h n)]
  exact h
/-- all but what stands at r is as it was -/
def SameX (r : Addr) (H H' : Hp) : Prop := ∀ b o, b ≠ r → H b = some o → H' b = some o
theorem SameX.of {r : Addr} {H H' : Hp} (e : Same H H') : SameX r H H' := fun b o _ q => e b o q
theorem SameX.trans {r : Addr} {H H1 H2 : Hp} (a : SameX r H H1) (b : SameX r H1 H2) : SameX r H H2 := fun c o n q => b c o n (a c o n q)
theorem SameX.set {r : Addr} {H : Hp} {o : HO} : SameX r H (upd H r o) := fun b x n q => by
  rw [upd_ne n]
  exact q
theorem SameX.seqT {K : PySem.W.Frag} {r a : Addr} {H H' : Hp} {xs ys : List V} (e : SameX r H H') (hr : H r = some (.lst ys)) (h : SqT K H a xs) : SqT K H' a xs := by
  rcases h with (h | ⟨o, h⟩) | h
  · exact .inl (.inl (e _ _ (ne_of h hr (by intro z; cases z)) h))
  · exact .inl (.inr ⟨o, e _ _ (ne_of h hr (by intro z; cases z)) h⟩)
  · exact .inr h
/-! ### ints -/
abbrev iv (xs : List Int) : List V := xs.map V.int
theorem iv_len (xs : List Int) : (iv xs).length = xs.length := List.length_map ..
theorem iv_at {xs : List Int} {j : Nat} (h : j < xs.length) : (iv xs)[j]? = some (.int (cf xs j)) := by
  rw [List.getElem?_map, cf_lt h]
  rfl
theorem iv_get {xs : List Int} {j : Nat} {v : V} (h : (iv xs)[j]? = some v) : j < xs.length ∧ v = .int (cf xs j) := by
  have l : j < xs.length := by
    have := (List.getElem?_eq_some_iff.mp h).1
    rwa [iv_len] at this
  refine ⟨l, ?_⟩
  rw [iv_at l] at h
  exact (Option.some.inj h).symm
theorem iv_ix {xs : List Int} {z : Int} {j : Nat} (e : z = (j : Int)) (h : j < xs.length) : atI (iv xs) z = some (.int (cf xs j)) := at_of e (iv_at h)
theorem ix_n {n : Nat} {z : Int} {j : Nat} (e : z = (j : Int)) (h : j < n) : ixN n z = some j := by
  unfold ixN
  rw [e, if_pos (by omega), if_pos (by omega)]
  rfl
theorem iv_set {xs : List Int} {j : Nat} {v : Int} : (iv xs).set j (.int v) = iv (xs.set j v) := by
  unfold iv
  rw [List.map_set]
theorem iv_inj {xs ys : List Int} (h : iv xs = iv ys) : xs = ys := by
  induction xs generalizing ys with
  | nil => cases ys with
    | nil => rfl
    | cons y r => cases h
  | cons x r ih => cases ys with
    | nil => cases h
    | cons y s =>
      injection h with h1 h2
      injection h1 with h3
      rw [h3, ih h2]
theorem cut_to {xs : List V} {m : Nat} : cutV xs none (some (m : Int)) = xs.take m := by
  unfold cutV
  rw [HT.sIx_none, HT.sIx_nat, List.drop_zero, Nat.sub_zero]
  by_cases h : m ≤ xs.length
  · rw [Nat.min_eq_left h]
  · rw [Nat.min_eq_right (by omega), List.take_of_length_le (Nat.le_refl _), List.take_of_length_le (by omega)]
theorem rep_zero (k : Nat) : (List.replicate k [V.int 0]).flatten = iv (List.replicate k 0) := by
  induction k with
  | zero => rfl
  | succ k ih =>
    rw [List.replicate_succ, List.flatten_cons, ih]
    rfl
theorem small {n : Nat} (h : n ≤ 1000) : n ≤ sizeLine := Nat.le_of_lt (small1000 h)
theorem blT {c : Prop} [Decidable c] (h : c) : V.bl (decide c) = V.bl true := by rw [decide_eq_true h]
theorem blF {c : Prop} [Decidable c] (h : ¬ c) : V.bl (decide c) = V.bl false := by rw [decide_eq_false h]
/-- a comprehension without a test keeps each item -/
theorem lcT {A B : Hp → Prop} {σ : L2.St} {H : Hp} (h : A H) : tYes σ H (fun b H3 => if b = true then A H3 else B H3) := by
  unfold tYes
  exact iteT h
/-! ### tuples of ints compared -/
abbrev dt (xs : List Int) : PyData := .tuple (xs.map .int)
theorem dp_all {K : PySem.W.Frag} {H : Hp} : ∀ xs : List Int, DpAll K H (iv xs) (xs.map .int)
  | [] => .nil
  | x :: r => .cons (.int x) (dp_all r)
theorem dp_t {K : PySem.W.Frag} {H : Hp} {a : Addr} {xs : List Int} (h : SqT K H a (iv xs)) : Dp K H (.ref a) (dt xs) := .tup h (dp_all xs)
theorem ty_t {K : PySem.W.Frag} {H : Hp} {a : Addr} {xs : List V} (h : SqT K H a xs) : TyX K H (.ref a) (.type "tuple") := by
  rcases h with (h | ⟨o, h⟩) | ⟨o, _, _, h1, h2, _⟩
  · exact .base (.tup h)
  · exact .fTuple h
  · exact .kTuple h1 h2
theorem lay_all : ∀ xs : List Int, PyData.canLayAll0 (xs.map .int) = true
  | [] => by simp [PyData.canLayAll0]
  | x :: r => by
    rw [List.map_cons, PyData.canLayAll0, lay_all r, PyData.canLay0]
    rfl
theorem dep_all : ∀ xs : List Int, PyData.depthAll (xs.map .int) = 0
  | [] => by simp [PyData.depthAll]
  | x :: r => by
    rw [List.map_cons, PyData.depthAll, dep_all r, PyData.depth]
    rfl
theorem sh_t (xs : List Int) : SeqAt.shaped (dt xs) = true := by
  unfold SeqAt.shaped dt
  rw [PyData.canLay0, lay_all, PyData.depth, dep_all]
  rfl
theorem eq_all : ∀ xs ys : List Int, PyData.eqvAll (xs.map .int) (ys.map .int) = decide (xs = ys)
  | [], [] => by simp [PyData.eqvAll]
  | [], _ :: _ => by simp [PyData.eqvAll]
  | _ :: _, [] => by simp [PyData.eqvAll]
  | x :: xs, y :: ys => by
    rw [List.map_cons, List.map_cons, PyData.eqvAll, eq_all xs ys, PyData.eqv]
    by_cases e : x = y
    · subst e
      by_cases e2 : xs = ys
      · subst e2; simp
      · simp [e2]
    · simp [e]
theorem eq_t (xs ys : List Int) : PyData.eqv (dt xs) (dt ys) = decide (xs = ys) := by
  unfold dt
  rw [PyData.eqv]
  exact eq_all xs ys
/-! ### the promises' common parts -/
/-- the built-in names that the text uses are not bound in the module -/
structure Bl (mg : Str → Option Value) : Prop where
  isinstance : mg "isinstance" = none
  tuple : mg "tuple" = none
  all : mg "all" = none
  len : mg "len" = none
  max : mg "max" = none
  zip : mg "zip" = none
  range : mg "range" = none
  enumerate : mg "enumerate" = none
  list : mg "list" = none
  int : mg "int" = none
  bool : mg "bool" = none
  str : mg "str" = none
/-- a def of the text as it stands -/
structure Df (K : PySem.W.Frag) (mg : Str → Option Value) (nm : Str) (st : Stmt) (ps : List Str) (f : Addr) (fd : FuncData) : Prop where
  F : Fun K nm nm st f fd
  b : Binds K fd ps []
  g : mg nm = some (.ref f)
/-- a new tuple of ints is handed back -/
def GiveT (K : PySem.W.Frag) (H : Hp) (Q : VK) (zs : List Int) : Prop := ∀ H' a, Same H H' → SqT K H' a (iv zs) → Q (.ref a) H'
end KW

namespace KW
open PySem PySem.Spec PyProof.Rows L2 K1
section
variable {P : Program} {w : World} {K : PySem.W.Frag} {mg : Str → Option Value} {base : Heap}
/-! ### is_int, is_in, need_prime, inverse, small -/
def sp_is_int : Sp := fun vs H Q _ => ∃ i : Int, vs = [.int i] ∧ Q (.bl true) H
theorem ok_is_int {f : Addr} {fd : FuncData} {k : Nat} (F : Fun K "is_int" "is_int" s_is_int f fd) (B : Bl mg) : FnOk P w K mg base CX0 (k + 1) f fd ["value"] sp_is_int := by
  refine F.ok c_is_int (fun vs H Q E h => ?_) (fun cdv A outer s H vs Q E hr h => ?_)
  · obtain ⟨i, rfl, _⟩ := h
    rfl
  · obtain ⟨i, rfl, q⟩ := h
    refine ⟨_, pss_one (ps_ret (pe_and
      (pe_callB call_isi (by rfl) B.isinstance (by decide +kernel) (pa_cons (pv 0) (pa_cons (pe_bltn (v := .ty "int") (by rfl) B.int (by decide +kernel) rfl) pa_nil)))
      (pe_one (pe_not (pe_callB call_isi (by rfl) B.isinstance (by decide +kernel) (pa_cons (pv 0) (pa_cons (pe_bltn (v := .ty "bool") (by rfl) B.bool (by decide +kernel) rfl) pa_nil))))))), ?_⟩
    refine ⟨.int i, rfl, .int i, .ty "int", _, _, true, rfl, .ty _, .base (.int i), kit_ty (by decide +kernel), true, rfl, iteT ?_⟩
    exact ⟨.int i, rfl, .int i, .ty "bool", _, _, false, rfl, .ty _, .base (.int i), kit_ty (by decide +kernel), false, rfl, q⟩
def sp_is_in : Sp := fun vs H Q _ => ∃ i lo hi : Int, vs = [.int i, .int lo, .int hi] ∧ lo ≤ i ∧ i ≤ hi ∧ Q (.bl true) H
theorem ok_is_in {f fI : Addr} {fd fdI : FuncData} {k : Nat} (F : Fun K "is_in" "is_in" s_is_in f fd) (B : Bl mg) (DI : Df K mg "is_int" s_is_int ["value"] fI fdI) :
    FnOk P w K mg base CX0 (k + 2) f fd ["value", "least", "most"] sp_is_in := by
  have GI : FnOk P w K mg base CX0 (k + 1) fI fdI ["value"] sp_is_int := ok_is_int DI.F B
  refine F.ok c_is_in (fun vs H Q E h => ?_) (fun cdv A outer s H vs Q E hr h => ?_)
  · obtain ⟨i, lo, hi, rfl, _⟩ := h
    rfl
  · obtain ⟨i, lo, hi, rfl, h1, h2, q⟩ := h
    refine ⟨_, pss_one (ps_ret (pe_and (pe_call GI hr (by rfl) DI.g DI.F.kp DI.b .nil pass0 (pa_cons (pv 0) pa_nil))
      (pe_one (pe_chain op_le op_le (pv 1) (pv 0) (pv 2))))), ?_⟩
    refine ⟨.int i, rfl, i, rfl, true, rfl, iteT ⟨.int lo, rfl, .int i, rfl, lo, i, rfl, rfl, true, blT h1, iteT ⟨.int hi, rfl, i, hi, rfl, rfl, ?_⟩⟩⟩
    show Q (.bl (decide (i ≤ hi))) H
    rw [decide_eq_true h2]
    exact q
def PR : List Int := [2, 3, 5, 7, 11, 13, 17, 19, 23, 29, 31]
def sp_need_prime : Sp := fun vs H Q _ => ∃ p : Int, vs = [.int p] ∧ Pr p ∧ Q .non H
theorem ok_need_prime {f fI aP : Addr} {fd fdI : FuncData} {k : Nat} (F : Fun K "need_prime" "need_prime" s_need_prime f fd) (B : Bl mg) (DI : Df K mg "is_int" s_is_int ["value"] fI fdI)
    (gP : mg "PRIMES" = some (.ref aP)) (hP : ∀ H : Hp, SqT K H aP (iv PR)) : FnOk P w K mg base CX0 (k + 2) f fd ["value"] sp_need_prime := by
  have GI : FnOk P w K mg base CX0 (k + 1) fI fdI ["value"] sp_is_int := ok_is_int DI.F B
  refine F.ok c_need_prime (fun vs H Q E h => ?_) (fun cdv A outer s H vs Q E hr h => ?_)
  · obtain ⟨i, rfl, _⟩ := h
    rfl
  · obtain ⟨p, rfl, hp, q⟩ := h
    refine ⟨_, pss_one (ps_if (PW.pt (pw_or (pt_not (pt_val (pe_call GI hr (by rfl) DI.g DI.F.kp DI.b .nil pass0 (pa_cons (pv 0) pa_nil))))
      (pw_or1 (pt_cmpR op_notIn_seq (pv 0) (pe_glob (v := .ref aP) (by rfl) gP rfl) (by rfl))))) pss_never pss_nil), ?_⟩
    refine ⟨.int p, rfl, p, rfl, true, rfl, iteF ⟨.int p, rfl, aP, iv PR, rfl, .inr (hP _), rfl, rfl, false, ?_, iteF q⟩⟩
    rcases hp with rfl | rfl | rfl | rfl | rfl <;> rfl
def sp_inverse : Sp := fun vs H Q _ => ∃ p x : Int, vs = [.int p, .int x] ∧ 2 ≤ p ∧ p ≤ 100 ∧ 0 ≤ x ∧ x < p ∧ Q (.int (invT p x (p - 2).toNat)) H
theorem ok_inverse {f : Addr} {fd : FuncData} {k : Nat} (F : Fun K "inverse" "inverse" s_inverse f fd) (B : Bl mg) : FnOk P w K mg base CX0 (k + 1) f fd ["p", "number"] sp_inverse := by
  refine F.ok c_inverse (fun vs H Q E h => ?_) (fun cdv A outer s H vs Q E hr h => ?_)
  · obtain ⟨i, x, rfl, _⟩ := h
    rfl
  · obtain ⟨p, x, rfl, p1, p2, x1, x2, q⟩ := h
    refine ⟨_, pss_cons (ps_set (i := 2) c_inverse.nd rfl (.inl rfl) pe_int)
      (pss_cons (ps_for PassesOwn.never rfl (pi_range1 (by rfl) B.range (pa_cons (pe_op op_sub (pv 0) pe_int) pa_nil)) (pg_name (i := 3) c_inverse.nd rfl (.inl rfl))
        (pss_one (ps_set (i := 2) c_inverse.nd rfl (.inl rfl) (pe_op op_mod (pe_op op_mul (pv 2) (pv 1)) (pv 0)))))
      (pss_one (ps_ret (pv 2)))), ?_⟩
    refine ⟨.int p, rfl, p, 2, rfl, rfl, p - 2, rfl, by omega, by omega, for_range (lo := 0) (n := (p - 2).toNat)
      (fun i σ H' => H' = H ∧ ∃ y, σ = [some (.int p), some (.int x), some (.int (invT p x i)), y]) ⟨rfl, none, rfl⟩ (fun i σ H' hi h => ?_) (fun σ H' h => ?_)⟩
    · obtain ⟨rfl, y, rfl⟩ := h
      refine ⟨.int (invT p x i), rfl, .int x, rfl, _, _, rfl, rfl, .inr ⟨by omega, by omega⟩, .int p, rfl, _, _, rfl, rfl, by omega, rfl, some (.int (0 + i)), rfl⟩
    · obtain ⟨rfl, y, rfl⟩ := h
      exact ⟨_, rfl, q⟩
def sp_small (K : PySem.W.Frag) : Sp := fun vs H Q _ => ∃ (a : Addr) (xs : List V), vs = [.ref a] ∧ SqT K H a xs ∧ xs.length ≤ 41 ∧ Q (.ref a) H
theorem ok_small {f : Addr} {fd : FuncData} {k : Nat} {tM : Tok} (F : Fun K "small" "small" s_small f fd) (B : Bl mg) (gM : mg "MOST_DEGREE" = some (.int 40 tM)) :
    FnOk P w K mg base CX0 (k + 1) f fd ["one"] (sp_small K) := by
  refine F.ok c_small (fun vs H Q E h => ?_) (fun cdv A outer s H vs Q E hr h => ?_)
  · obtain ⟨a, xs, rfl, _⟩ := h
    rfl
  · obtain ⟨a, xs, rfl, hS, hl, q⟩ := h
    refine ⟨_, pss_cons (ps_if (pt_cmpR op_gt (pe_callB call_len_seq (by rfl) B.len PySem.boot_len (pa_cons (pv 0) pa_nil))
        (pe_op op_add (pe_glob (v := .int 40) (by rfl) gM ⟨_, rfl⟩) pe_int) (nomark _)) pss_never pss_nil) (pss_one (ps_ret (pv 0))), ?_⟩
    refine ⟨.ref a, rfl, a, xs, rfl, .inr hS, 40, 1, rfl, rfl, _, _, rfl, rfl, false, blF (by omega), iteF ⟨_, rfl, q⟩⟩
end
end KW

namespace KW
open PySem PySem.Spec PyProof.Rows L2 K1
section
variable {P : Program} {w : World} {K : PySem.W.Frag} {mg : Str → Option Value} {base : Heap}
/-! ### is_free, is_poly, need_poly -/
def sp_free (K : PySem.W.Frag) : Sp := fun vs H Q _ => ∃ (p : Int) (a : Addr) (xs : List Int), vs = [.int p, .ref a] ∧ SqT K H a (iv xs) ∧ xs.length ≤ 41 ∧ Can p xs ∧ ∀ H', Same H H' → Q (.bl true) H'
theorem ok_is_free {f fI fN : Addr} {fd fdI fdN : FuncData} {k : Nat} (F : Fun K "is_free" "is_free" s_is_free f fd) (B : Bl mg) (DI : Df K mg "is_int" s_is_int ["value"] fI fdI)
    (DN : Df K mg "is_in" s_is_in ["value", "least", "most"] fN fdN) : FnOk P w K mg base CX0 (k + 3) f fd ["p", "value"] (sp_free K) := by
  have GN : FnOk P w K mg base CX0 (k + 2) fN fdN ["value", "least", "most"] sp_is_in := ok_is_in DN.F B DI
  refine F.ok c_is_free (fun vs H Q E h => ?_) (fun cdv A outer s H vs Q E hr h => ?_)
  · obtain ⟨p, a, xs, rfl, _⟩ := h
    rfl
  · obtain ⟨p, a, xs, rfl, hS, hl, hc, q⟩ := h
    refine ⟨_, pss_cons (ps_if (PW.pt (pw_or
        (pt_not (pt_val (pe_callB call_isi (by rfl) B.isinstance (by decide +kernel) (pa_cons (pv 1) (pa_cons (pe_bltn (v := .ty "tuple") (by rfl) B.tuple (by decide +kernel) rfl) pa_nil)))))
        (pw_or1 (pt_not (pt_val (pe_callB (cr_all rfl) (by rfl) B.all (by decide +kernel) (pa_cons
          (pe_lc (own := [("one", 2)]) (g := gName 2) (tt := tYes) rfl c_is_free.nd (pi_tup (pv 1)) (blkOk_by (N := N_is_free) (sc := defScope s_is_free) (by decide +kernel))
            (fun _ _ _ _ _ => pg_name (i := 2) c_is_free.nd rfl (Or.inl rfl)) (fun _ _ _ _ _ => pts_nil)
            (fun _ _ _ _ _ => pe_call GN hr (by rfl) DN.g DN.F.kp DN.b .nil pass0 (pa_cons (pv 2) (pa_cons pe_int (pa_cons (pe_op op_sub (pv 0) pe_int) pa_nil))))) pa_nil)))))))
        (pss_one (ps_ret pe_bl)) pss_nil)
      (pss_one (ps_ret (pe_or (pe_cmpR (op_eqD hr.units) (pv 1) (pe_tup pa_nil) (nomark _))
        (pe_one (pe_cmpR op_ne (pe_ix ix_tup (pv 1) (pe_un un_neg pe_int) (fun _ _ => rfl)) pe_int (nomark _)))))), ?_⟩
    refine ⟨.ref a, rfl, .ref a, .ty "tuple", _, _, true, rfl, .ty _, ty_t hS, kit_ty (by decide +kernel), true, rfl, iteF ?_⟩
    refine ⟨.ref a, rfl, a, rfl, ⟨_, hS⟩, fun D nD => lc_tup (K := K) (a := a) (xs := iv xs) (fun i H' => Same H H' ∧ H' D = some (.lst ((List.replicate i true).map V.bl)))
      ⟨sm_upd nD, upd_same⟩ (fun i H' _ h => sm_tup h.1 hS) (fun i x H' hx h => ?_) (fun H' h => ?_)⟩
    · obtain ⟨s1, eD⟩ := h
      obtain ⟨li, rfl⟩ := iv_get hx
      have rg := hc.rg _ (List.mem_of_getElem? (cf_lt li))
      refine ⟨rfl, lcT ?_⟩
      refine ⟨.int (cf xs i), rfl, .int p, rfl, p, 1, rfl, rfl, cf xs i, 0, p - 1, rfl, rg.1, by omega, _, eD, ?_, ?_, ?_⟩
      · rw [List.length_map, List.length_replicate]
        exact small1000 (by omega)
      · exact sm_own s1 nD
      · rw [upd_same, List.replicate_succ', List.map_append]
        rfl
    · obtain ⟨s1, eD⟩ := h
      refine ⟨D, _, rfl, .inl (.inl eD), true, ?_, iteF ?_⟩
      · have e : ∀ n : Nat, (List.replicate n true).all id = true := fun n => by
          rw [List.all_replicate]
          simp
        rw [e]
      · -- value == () or value[-1] != 0
        refine ⟨.ref a, rfl, Nat.zero_le _, fun t nt => ⟨dt xs, dt [], dp_t (sm_tup (sm_new s1 nt) hS), dp_t (xs := []) (.inl (.inl upd_same)), sh_t _, sh_t _, _, rfl, ?_⟩⟩
        rw [eq_t]
        refine ite2 (fun e => q _ (sm_new s1 nt)) (fun e => ?_)
        have h0 : xs.length ≠ 0 := fun z => e (decide_eq_true (List.eq_nil_of_length_eq_zero z))
        refine ⟨.ref a, rfl, 1, rfl, a, iv xs, -1, .int (cf xs (xs.length - 1)), rfl, rfl, sm_tup (sm_new s1 nt) hS, ?_, rfl, ?_⟩
        · have hz : iv xs = (iv xs).take (xs.length - 1) ++ [.int (cf xs (xs.length - 1))] := by
            have l1 : xs.length - 1 < xs.length := by omega
            have g := iv_at l1
            have := List.take_add_one (l := iv xs) (i := xs.length - 1)
            rw [g, show xs.length - 1 + 1 = (iv xs).length by rw [iv_len]; omega, List.take_length] at this
            exact this
          rw [hz]
          exact atI_last _ _
        · have hn : cf xs (xs.length - 1) ≠ 0 := hc.last.resolve_left h0
          rw [decide_eq_false (fun z => hn (V.int.inj z))]
          exact q _ (sm_new s1 nt)
theorem ok_is_poly {f fI fN fF : Addr} {fd fdI fdN fdF : FuncData} {k : Nat} {tM : Tok} (F : Fun K "is_poly" "is_poly" s_is_poly f fd) (B : Bl mg) (DI : Df K mg "is_int" s_is_int ["value"] fI fdI)
    (DN : Df K mg "is_in" s_is_in ["value", "least", "most"] fN fdN) (DF : Df K mg "is_free" s_is_free ["p", "value"] fF fdF) (gM : mg "MOST_DEGREE" = some (.int 40 tM)) : FnOk P w K mg base CX0 (k + 4) f fd ["p", "value"] (sp_free K) := by
  have GF : FnOk P w K mg base CX0 (k + 3) fF fdF ["p", "value"] (sp_free K) := ok_is_free DF.F B DI DN
  refine F.ok c_is_poly (fun vs H Q E h => ?_) (fun cdv A outer s H vs Q E hr h => ?_)
  · obtain ⟨p, a, xs, rfl, _⟩ := h
    rfl
  · obtain ⟨p, a, xs, rfl, hS, hl, hc, q⟩ := h
    refine ⟨_, pss_one (ps_ret (pe_and (pe_call GF hr (by rfl) DF.g DF.F.kp DF.b .nil pass0 (pa_cons (pv 0) (pa_cons (pv 1) pa_nil)))
      (pe_one (pe_cmpR op_le (pe_callB call_len_seq (by rfl) B.len PySem.boot_len (pa_cons (pv 1) pa_nil)) (pe_op op_add (pe_glob (v := .int 40) (by rfl) gM ⟨_, rfl⟩) pe_int) (nomark _))))), ?_⟩
    refine ⟨.int p, rfl, .ref a, rfl, p, a, xs, rfl, hS, hl, hc, fun H' s1 => ⟨true, rfl, iteT ⟨.ref a, rfl, a, iv xs, rfl, .inr (sm_tup s1 hS), 40, 1, rfl, rfl, _, _, rfl, rfl, ?_⟩⟩⟩
    show Q (.bl (decide (((iv xs).length : Int) ≤ 40 + 1))) H'
    rw [decide_eq_true (by rw [iv_len]; omega)]
    exact q _ s1
def sp_need (K : PySem.W.Frag) : Sp := fun vs H Q _ => ∃ (p : Int) (a : Addr) (xs : List Int), vs = [.int p, .ref a] ∧ SqT K H a (iv xs) ∧ xs.length ≤ 41 ∧ Can p xs ∧ ∀ H', Same H H' → Q .non H'
theorem ok_need_poly {f fI fN fF fG : Addr} {fd fdI fdN fdF fdG : FuncData} {k : Nat} {tM : Tok} (F : Fun K "need_poly" "need_poly" s_need_poly f fd) (B : Bl mg) (DI : Df K mg "is_int" s_is_int ["value"] fI fdI)
    (DN : Df K mg "is_in" s_is_in ["value", "least", "most"] fN fdN) (DF : Df K mg "is_free" s_is_free ["p", "value"] fF fdF) (DG : Df K mg "is_poly" s_is_poly ["p", "value"] fG fdG)
    (gM : mg "MOST_DEGREE" = some (.int 40 tM)) : FnOk P w K mg base CX0 (k + 5) f fd ["p", "value"] (sp_need K) := by
  have GG : FnOk P w K mg base CX0 (k + 4) fG fdG ["p", "value"] (sp_free K) := ok_is_poly DG.F B DI DN DF gM
  refine F.ok c_need_poly (fun vs H Q E h => ?_) (fun cdv A outer s H vs Q E hr h => ?_)
  · obtain ⟨p, a, xs, rfl, _⟩ := h
    rfl
  · obtain ⟨p, a, xs, rfl, hS, hl, hc, q⟩ := h
    refine ⟨_, pss_one (ps_if (pt_not (pt_val (pe_call GG hr (by rfl) DG.g DG.F.kp DG.b .nil pass0 (pa_cons (pv 0) (pa_cons (pv 1) pa_nil))))) pss_never pss_nil), ?_⟩
    exact ⟨.int p, rfl, .ref a, rfl, p, a, xs, rfl, hS, hl, hc, fun H' s1 => ⟨true, rfl, iteF (q _ s1)⟩⟩
end
end KW

namespace KW
open PySem PySem.Spec PyProof.Rows L2 K1
section
variable {P : Program} {w : World} {K : PySem.W.Frag} {mg : Str → Option Value} {base : Heap}
/-! ### trimmed -/
def sp_trimmed (K : PySem.W.Frag) : Sp := fun vs H Q _ => ∃ (a : Addr) (xs : List Int), vs = [.ref a] ∧ SqL K H a (iv xs) ∧ xs.length ≤ 1000 ∧ GiveT K H Q (trim xs)
theorem ok_trimmed {f : Addr} {fd : FuncData} {k : Nat} (F : Fun K "trimmed" "trimmed" s_trimmed f fd) (B : Bl mg) : FnOk P w K mg base CX0 (k + 1) f fd ["some"] (sp_trimmed K) := by
  refine F.ok c_trimmed (fun vs H Q E h => ?_) (fun cdv A outer s H vs Q E hr h => ?_)
  · obtain ⟨a, xs, rfl, _⟩ := h
    rfl
  · obtain ⟨a, xs, rfl, hS, hl, q⟩ := h
    refine ⟨_, pss_cons (ps_set (i := 1) c_trimmed.nd rfl (.inl rfl) (pe_callB call_len_seq (by rfl) B.len PySem.boot_len (pa_cons (pv 0) pa_nil)))
      (pss_cons (ps_while PassesOwn.never (PW.pt (pw_and (pt_cmpR op_gt (pv 1) pe_int (nomark _))
          (pw_and1 (pt_cmpR op_eq (pe_ix ix_list (pv 0) (pe_op op_sub (pv 1) pe_int) (fun _ _ => rfl)) pe_int (nomark _)))))
        (pss_one (ps_aug (i := 1) c_trimmed.nd rfl (.inl rfl) pe_int ip_sub)))
      (pss_one (ps_ret (pe_callTy call_tuple_of (by rfl) B.tuple (by decide +kernel) (pa_cons (pe_slice sl_list (pv 0) po_none (po_some (pv 1))) pa_nil))))), ?_⟩
    refine ⟨.ref a, rfl, a, iv xs, rfl, .inl hS, fun m σ H' => H' = H ∧ σ = [some (.ref a), some (.int (m : Nat))] ∧ tl xs m = tl xs xs.length ∧ m ≤ xs.length, ⟨xs.length, rfl, ?_, rfl, Nat.le_refl _⟩, fun m σ H' h => ?_⟩
    · rw [iv_len]
      rfl
    obtain ⟨rfl, rfl, e, le⟩ := h
    have done : tl xs m = m → ∀ D : Ends, D.rt = Q → tRet (tCB (fun vs H Q => ∃ p ys, vs = [.ref p] ∧ ((SqL K H p ys ∧ ∀ l, H l = none → Q (.ref l) (upd H l (.tup ys))) ∨ (SqT K H p ys ∧ Q (.ref p) H)))
        (tCons (tSl (rSlL K) (tVar 0) tNoPart (tPart (tVar 1))) tNil)) D [some (.ref a), some (.int (m : Nat))] H' := fun em D eD => by
      refine ⟨.ref a, rfl, .int m, rfl, m, rfl, a, iv xs, rfl, hS, fun l nl => ⟨l, _, rfl, .inl ⟨.inl (.inl upd_same), fun t nt => ?_⟩⟩⟩
      rw [eD]
      refine q _ _ (sm_new (sm_upd nl) nt) ?_
      rw [cut_to]
      unfold trim
      rw [← e, em, show iv (xs.take m) = (iv xs).take m from List.map_take ..]
      exact .inl (.inl upd_same)
    refine ⟨.int m, rfl, _, _, rfl, rfl, _, rfl, ?_⟩
    cases m with
    | zero =>
      rw [decide_eq_false (by omega)]
      exact iteF (iteF (done rfl _ rfl))
    | succ n =>
      rw [decide_eq_true (by omega)]
      refine iteT ⟨.ref a, rfl, .int ((n + 1 : Nat) : Int), rfl, _, 1, rfl, rfl, a, iv xs, _, .int (cf xs n), rfl, rfl, hS, iv_ix (j := n) (by omega) (by omega), rfl, _, rfl, ?_⟩
      by_cases z : cf xs n = 0
      · rw [z, decide_eq_true rfl]
        refine iteT ⟨fun σ' H2 => H2 = H' ∧ σ' = [some (.ref a), some (.int (n : Nat))], fun σ' H2 h2 => ⟨n, Nat.lt_succ_self _, h2.1, h2.2, ?_, by omega⟩, ?_⟩
        · rw [← e]
          show _ = if cf xs n = 0 then tl xs n else n + 1
          rw [if_pos z]
        · refine ⟨_, rfl, _, 1, rfl, rfl, rfl, ?_⟩
          show [some (V.ref a), some (V.int (((n + 1 : Nat) : Int) - 1))] = _
          rw [show ((n + 1 : Nat) : Int) - 1 = (n : Nat) by omega]
      · rw [decide_eq_false (fun y => z (V.int.inj y))]
        refine iteF (done ?_ _ rfl)
        show (if cf xs n = 0 then tl xs n else n + 1) = n + 1
        rw [if_neg z]
/-! ### plus -/
theorem pad_at {xs : List Int} {m j : Nat} (h : j < m) (hm : xs.length ≤ m) : (iv xs ++ iv (List.replicate (m - xs.length) 0))[j]? = some (.int (cf xs j)) := by
  by_cases q : j < xs.length
  · rw [List.getElem?_append_left (by rw [iv_len]; exact q)]
    exact iv_at q
  · rw [List.getElem?_append_right (by rw [iv_len]; omega), iv_len, iv_at (by rw [List.length_replicate]; omega), cf_rep, cf_ge (by omega)]
theorem pad_len {xs : List Int} {m : Nat} (hm : xs.length ≤ m) : (iv xs ++ iv (List.replicate (m - xs.length) 0)).length = m := by
  rw [List.length_append, iv_len, iv_len, List.length_replicate]
  omega
theorem sum_next {p : Int} {xs ys : List Int} {i : Nat} (h : i < max xs.length ys.length) : iv ((sumL p xs ys).take i) ++ [.int ((cf xs i + cf ys i) % p)] = iv ((sumL p xs ys).take (i + 1)) := by
  rw [List.take_add_one, sumL_at h]
  unfold iv
  rw [List.map_append]
  rfl
theorem sum_all (p : Int) (xs ys : List Int) : (sumL p xs ys).take (max xs.length ys.length) = sumL p xs ys := List.take_of_length_le (by rw [sumL_len]; exact Nat.le_refl _)
def sp_plus (K : PySem.W.Frag) : Sp := fun vs H Q _ => ∃ (p : Int) (a b : Addr) (xs ys : List Int), vs = [.int p, .ref a, .ref b] ∧ 0 < p ∧ SqT K H a (iv xs) ∧ SqT K H b (iv ys) ∧ xs.length ≤ 400 ∧ ys.length ≤ 400 ∧ GiveT K H Q (plusL p xs ys)
theorem ok_plus {f fT : Addr} {fd fdT : FuncData} {k : Nat} (F : Fun K "plus" "plus" s_plus f fd) (B : Bl mg) (DT : Df K mg "trimmed" s_trimmed ["some"] fT fdT) : FnOk P w K mg base CX0 (k + 2) f fd ["p", "one", "other"] (sp_plus K) := by
  have GT : FnOk P w K mg base CX0 (k + 1) fT fdT ["some"] (sp_trimmed K) := ok_trimmed DT.F B
  refine F.ok c_plus (fun vs H Q E h => ?_) (fun cdv A outer s H vs Q E hr h => ?_)
  · obtain ⟨p, a, b, xs, ys, rfl, _⟩ := h
    rfl
  · obtain ⟨p, a, b, xs, ys, rfl, hp, hA, hB, la, lb, q⟩ := h
    refine ⟨_, pss_cons (ps_set (i := 3) c_plus.nd rfl (.inl rfl) (pe_callB (call_max2 rfl) (by rfl) B.max (by decide +kernel)
        (pa_cons (pe_callB call_len_seq (by rfl) B.len PySem.boot_len (pa_cons (pv 1) pa_nil)) (pa_cons (pe_callB call_len_seq (by rfl) B.len PySem.boot_len (pa_cons (pv 2) pa_nil)) pa_nil))))
      (pss_cons (ps_par (i := 4) (j := 5) rfl c_plus.nd rfl rfl (by decide) rfl rfl
          (pa_cons (pe_lst (StX.pa_star (pv 1) (StX.pa_star (pe_op op_rep (pe_lst (pa_cons pe_int pa_nil)) (pe_op op_sub (pv 3) (pe_callB call_len_seq (by rfl) B.len PySem.boot_len (pa_cons (pv 1) pa_nil)))) pa_nil)))
          (pa_cons (pe_lst (StX.pa_star (pv 2) (StX.pa_star (pe_op op_rep (pe_lst (pa_cons pe_int pa_nil)) (pe_op op_sub (pv 3) (pe_callB call_len_seq (by rfl) B.len PySem.boot_len (pa_cons (pv 2) pa_nil)))) pa_nil))) pa_nil)) (by rfl))
      (pss_one (ps_ret (pe_call GT hr (by rfl) DT.g DT.F.kp DT.b .nil pass0 (pa_cons
        (pe_lc (own := [("a", 6), ("b", 7)]) (g := gTup K 2 (gCons (gName 6) (gCons (gName 7) gNil))) (tt := tYes) rfl c_plus.nd (pi_zip (by rfl) B.zip (pa_cons (pv 4) (pa_cons (pv 5) pa_nil))) (blkOk_by (N := N_plus) (sc := defScope s_plus) (by decide +kernel))
          (fun _ _ _ _ _ => pg_tup rfl (pgs_cons (pg_name (i := 6) c_plus.nd rfl (Or.inl rfl)) (pgs_cons (pg_name (i := 7) c_plus.nd rfl (Or.inl rfl)) pgs_nil)))
          (fun _ _ _ _ _ => pts_nil) (fun _ _ _ _ _ => pe_op op_mod (pe_op op_add (pv 6) (pv 7)) (pv 0))) pa_nil))))), ?_⟩
    -- many
    refine ⟨.ref a, rfl, a, iv xs, rfl, .inr hA, .ref b, rfl, b, iv ys, rfl, .inr hB, _, _, rfl, ?_⟩
    have em : (if ((iv ys).length : Int) > ((iv xs).length : Int) then ((iv ys).length : Int) else ((iv xs).length : Int)) = (max xs.length ys.length : Nat) := by
      rw [iv_len, iv_len]
      split <;> omega
    rw [em]
    generalize hm : max xs.length ys.length = m
    have lx : xs.length ≤ m := by omega
    have ly : ys.length ≤ m := by omega
    have lm : m ≤ 400 := by omega
    -- [*one, *[0] * (many - len(one))]
    refine ⟨.ref a, rfl, a, iv xs, rfl, .inl hA, small (by decide), fun z1 n1 => ⟨.int m, rfl, .ref a, rfl, a, iv xs, rfl, .inr (sm_tup (sm_upd n1) hA), m, (iv xs).length, rfl, rfl, z1, _, _, rfl, rfl, upd_same, by rw [iv_len]; omega, by rw [iv_len]; omega,
      small (by rw [iv_len, List.length_singleton]; omega), fun r1 m1 => ⟨r1, _, rfl, .inr (.inl (.inl upd_same)), ?_⟩⟩⟩
    dsimp only [tNil]
    have e1 : ((m : Int) - ((iv xs).length : Int)).toNat = m - xs.length := by rw [iv_len]; omega
    rw [e1, rep_zero, List.append_nil]
    refine ⟨small (by rw [pad_len lx]; omega), fun fst nf => ?_⟩
    have s3 : Same H (upd (upd (upd H z1 (.lst [.int 0])) r1 (.lst (iv (List.replicate (m - xs.length) 0)))) fst (.lst (iv xs ++ iv (List.replicate (m - xs.length) 0)))) := sm_new (sm_new (sm_upd n1) m1) nf
    have g3 : (upd (upd (upd H z1 (.lst [.int 0])) r1 (.lst (iv (List.replicate (m - xs.length) 0)))) fst (.lst (iv xs ++ iv (List.replicate (m - xs.length) 0)))) fst = some (.lst (iv xs ++ iv (List.replicate (m - xs.length) 0))) := upd_same
    generalize (upd (upd (upd H z1 (.lst [.int 0])) r1 (.lst (iv (List.replicate (m - xs.length) 0)))) fst (.lst (iv xs ++ iv (List.replicate (m - xs.length) 0)))) = H3 at s3 g3
    refine ⟨.ref b, rfl, b, iv ys, rfl, .inl (sm_tup s3 hB), small (by decide), fun z2 n2 => ⟨.int m, rfl, .ref b, rfl, b, iv ys, rfl, .inr (sm_tup (sm_new s3 n2) hB), m, (iv ys).length, rfl, rfl, z2, _, _, rfl, rfl, upd_same, by rw [iv_len]; omega, by rw [iv_len]; omega,
      small (by rw [iv_len, List.length_singleton]; omega), fun r2 m2 => ⟨r2, _, rfl, .inr (.inl (.inl upd_same)), ?_⟩⟩⟩
    dsimp only [tNil]
    have e2 : ((m : Int) - ((iv ys).length : Int)).toNat = m - ys.length := by rw [iv_len]; omega
    rw [e2, rep_zero, List.append_nil]
    refine ⟨small (by rw [pad_len ly]; omega), fun snd ns => ?_⟩
    have s6 : Same H3 (upd (upd (upd H3 z2 (.lst [.int 0])) r2 (.lst (iv (List.replicate (m - ys.length) 0)))) snd (.lst (iv ys ++ iv (List.replicate (m - ys.length) 0)))) := sm_new (sm_new (sm_upd n2) m2) ns
    have g6 : (upd (upd (upd H3 z2 (.lst [.int 0])) r2 (.lst (iv (List.replicate (m - ys.length) 0)))) snd (.lst (iv ys ++ iv (List.replicate (m - ys.length) 0)))) snd = some (.lst (iv ys ++ iv (List.replicate (m - ys.length) 0))) := upd_same
    generalize (upd (upd (upd H3 z2 (.lst [.int 0])) r2 (.lst (iv (List.replicate (m - ys.length) 0)))) snd (.lst (iv ys ++ iv (List.replicate (m - ys.length) 0)))) = H6 at s6 g6
    have f6 := s6 _ _ g3
    refine ⟨.ref fst, .ref snd, rfl, ?_⟩
    -- the comprehension
    refine ⟨.ref fst, rfl, .ref snd, rfl, fst, snd, _, _, rfl, .inl (.inl f6), .inl (.inl g6), fun D nD => lc_it (walk_zip (n := m) (by rw [pad_len lx, pad_len ly]; omega))
      (fun i H' => Same H6 H' ∧ H' D = some (.lst (iv ((sumL p xs ys).take i)))) ⟨sm_upd nD, upd_same⟩ (fun i H' _ h => ⟨.inl (.inl (h.1 _ _ f6)), .inl (.inl (h.1 _ _ g6))⟩) (fun i v H' H'' hi h hy => ?_) (fun H' h => ?_)⟩
    · obtain ⟨s7, eD⟩ := h
      obtain ⟨T, x, y, rfl, nT, rfl, hx, hy⟩ := hy
      obtain rfl := Option.some.inj ((pad_at hi lx).symm.trans hx)
      obtain rfl := Option.some.inj ((pad_at hi ly).symm.trans hy)
      refine ⟨T, _, rfl, .inl (.inl upd_same), rfl, _, _, rfl, _, _, rfl, rfl, rfl, lcT ?_⟩
      refine ⟨_, rfl, _, rfl, _, _, rfl, rfl, .int p, rfl, _, _, rfl, rfl, hp, _, at_new nT eD, ?_, ?_, ?_⟩
      · rw [iv_len, List.length_take]
        exact small1000 (by omega)
      · exact sm_own (sm_new s7 nT) nD
      · rw [upd_same, sum_next (by omega)]
    · obtain ⟨s7, eD⟩ := h
      rw [← hm, sum_all] at eD
      refine ⟨D, sumL p xs ys, rfl, .inl (.inl eD), by rw [sumL_len]; omega, fun H' r sr hR => q _ _ (s3.trans (s6.trans (s7.trans sr))) hR⟩
end
end KW

namespace KW
open PySem PySem.Spec PyProof.Rows L2 K1
section
variable {P : Program} {w : World} {K : PySem.W.Frag} {mg : Str → Option Value} {base : Heap}
/-! ### times -/
def sp_times (K : PySem.W.Frag) : Sp := fun vs H Q _ => ∃ (p : Int) (a b : Addr) (xs ys : List Int), vs = [.int p, .ref a, .ref b] ∧ 0 < p ∧ p ≤ 100 ∧ Rg p xs ∧ SqT K H a (iv xs) ∧ SqT K H b (iv ys) ∧ xs.length ≤ 400 ∧ ys.length ≤ 400 ∧
  GiveT K H Q (timesL p xs ys)
theorem times_nil {p : Int} {xs ys : List Int} (h : xs = [] ∨ ys = []) : timesL p xs ys = [] := by
  unfold timesL
  rw [if_pos]
  rcases h with rfl | rfl
  · exact .inl rfl
  · exact .inr rfl
theorem times_prod {p : Int} {xs ys : List Int} (h1 : xs ≠ []) (h2 : ys ≠ []) : timesL p xs ys = trim (prodL p xs ys) := by
  unfold timesL
  rw [if_neg]
  rintro (h | h)
  · exact h1 (List.eq_nil_of_length_eq_zero h)
  · exact h2 (List.eq_nil_of_length_eq_zero h)
theorem ok_times {f fT : Addr} {fd fdT : FuncData} {k : Nat} (F : Fun K "times" "times" s_times f fd) (B : Bl mg) (DT : Df K mg "trimmed" s_trimmed ["some"] fT fdT) : FnOk P w K mg base CX0 (k + 2) f fd ["p", "one", "other"] (sp_times K) := by
  have GT : FnOk P w K mg base CX0 (k + 1) fT fdT ["some"] (sp_trimmed K) := ok_trimmed DT.F B
  refine F.ok c_times (fun vs H Q E h => ?_) (fun cdv A outer s H vs Q E hr h => ?_)
  · obtain ⟨p, a, b, xs, ys, rfl, _⟩ := h
    rfl
  · obtain ⟨p, a, b, xs, ys, rfl, hp, hp2, hx, hA, hB, la, lb, q⟩ := h
    refine ⟨_, pss_cons (ps_if (PW.pt (pw_or (pt_cmpR (op_eqD hr.units) (pv 1) (pe_tup pa_nil) (nomark _)) (pw_or1 (pt_cmpR (op_eqD hr.units) (pv 2) (pe_tup pa_nil) (nomark _))))) (pss_one (ps_ret (pe_tup pa_nil))) pss_nil)
      (pss_cons (ps_set (i := 3) c_times.nd rfl (.inl rfl) (pe_op op_rep (pe_lst (pa_cons pe_int pa_nil))
        (pe_op op_sub (pe_op op_add (pe_callB call_len_seq (by rfl) B.len PySem.boot_len (pa_cons (pv 1) pa_nil)) (pe_callB call_len_seq (by rfl) B.len PySem.boot_len (pa_cons (pv 2) pa_nil))) pe_int)))
      (pss_cons (ps_for PassesOwn.never rfl (KEnt.pi_en (by rfl) B.enumerate (pa_cons (pv 1) pa_nil)) (pg_tup rfl (pgs_cons (pg_name (i := 4) c_times.nd rfl (.inl rfl)) (pgs_cons (pg_name (i := 5) c_times.nd rfl (.inl rfl)) pgs_nil)))
        (pss_one (ps_for PassesOwn.never rfl (KEnt.pi_en (by rfl) B.enumerate (pa_cons (pv 2) pa_nil)) (pg_tup rfl (pgs_cons (pg_name (i := 6) c_times.nd rfl (.inl rfl)) (pgs_cons (pg_name (i := 7) c_times.nd rfl (.inl rfl)) pgs_nil)))
          (pss_one (ps_asg (pe_op op_mod (pe_op op_add (pe_ix ix_list (pv 3) (pe_op op_add (pv 4) (pv 6)) (fun _ _ => rfl)) (pe_op op_mul (pv 5) (pv 7))) (pv 0)) (pg_sub (pv 3) (pe_op op_add (pv 4) (pv 6)) set_list))))))
      (pss_one (ps_ret (pe_call GT hr (by rfl) DT.g DT.F.kp DT.b .nil pass0 (pa_cons (pv 3) pa_nil)))))), ?_⟩
    refine ⟨.ref a, rfl, Nat.zero_le _, fun t1 n1 => ⟨dt xs, dt [], dp_t (sm_tup (sm_upd n1) hA), dp_t (xs := []) (.inl (.inl upd_same)), sh_t _, sh_t _, _, rfl, ?_⟩⟩
    have s1 : Same H (upd H t1 (.tup [])) := sm_upd n1
    generalize upd H t1 (.tup []) = H1 at s1
    rw [eq_t]
    refine ite2 (fun e => iteT ⟨Nat.zero_le _, fun t nt => q _ t (sm_new s1 nt) ?_⟩) (fun ex => ?_)
    · rw [times_nil (.inl (of_decide_eq_true e))]
      exact .inl (.inl upd_same)
    refine ⟨.ref b, rfl, Nat.zero_le _, fun t2 n2 => ⟨dt ys, dt [], dp_t (sm_tup (sm_new s1 n2) hB), dp_t (xs := []) (.inl (.inl upd_same)), sh_t _, sh_t _, _, rfl, ?_⟩⟩
    have s2 : Same H (upd H1 t2 (.tup [])) := sm_new s1 n2
    generalize upd H1 t2 (.tup []) = H2 at s2
    rw [eq_t]
    refine ite2 (fun e => ⟨Nat.zero_le _, fun t nt => q _ t (sm_new s2 nt) ?_⟩) (fun ey => ?_)
    · rw [times_nil (.inr (of_decide_eq_true e))]
      exact .inl (.inl upd_same)
    have nx : xs ≠ [] := fun z => ex (decide_eq_true z)
    have ny : ys ≠ [] := fun z => ey (decide_eq_true z)
    have lx : 0 < xs.length := List.length_pos_iff.mpr nx
    have ly : 0 < ys.length := List.length_pos_iff.mpr ny
    rw [times_prod nx ny] at q
    -- found
    refine ⟨small (by decide), fun z1 m1 => ⟨.ref a, rfl, a, iv xs, rfl, .inr (sm_tup (sm_new s2 m1) hA), .ref b, rfl, b, iv ys, rfl, .inr (sm_tup (sm_new s2 m1) hB), _, _, rfl, rfl, _, 1, rfl, rfl, z1, _, _, rfl, rfl, upd_same,
      by rw [iv_len, iv_len]; omega, by rw [iv_len, iv_len]; omega, small (by rw [iv_len, iv_len, List.length_singleton]; omega), fun fo nfo => ?_⟩⟩
    rw [show (((iv xs).length : Int) + ((iv ys).length : Int) - 1).toNat = xs.length + ys.length - 1 by rw [iv_len, iv_len]; omega, rep_zero]
    have nf2 : H fo = none := (sm_new s2 m1).free nfo
    have s3 : Same H (upd (upd H2 z1 (.lst [.int 0])) fo (.lst (iv (List.replicate (xs.length + ys.length - 1) 0)))) := sm_new (sm_new s2 m1) nfo
    have g3 : (upd (upd H2 z1 (.lst [.int 0])) fo (.lst (iv (List.replicate (xs.length + ys.length - 1) 0)))) fo = some (.lst (iv (outT p xs ys 0 (List.replicate (xs.length + ys.length - 1) 0)))) := upd_same
    generalize (upd (upd H2 z1 (.lst [.int 0])) fo (.lst (iv (List.replicate (xs.length + ys.length - 1) 0)))) = H3 at s3 g3
    generalize hZ : List.replicate (xs.length + ys.length - 1) (0 : Int) = Z at g3
    have lZ : Z.length = xs.length + ys.length - 1 := by rw [← hZ, List.length_replicate]
    -- for at, a in enumerate(one)
    refine ⟨.ref a, rfl, a, iv xs, rfl, sm_tup s3 hA, for_it KEnt.walk (fun i σ H' => Same H H' ∧ H' fo = some (.lst (iv (outT p xs ys i Z))) ∧ ∃ y4 y5 y6 y7, σ = [some (.int p), some (.ref a), some (.ref b), some (.ref fo), y4, y5, y6, y7])
      ⟨s3, g3, none, none, none, none, rfl⟩ (fun i σ H' _ h => sm_tup h.1 hA) (fun i v σ H' H'' hi h hy => ?_) (fun σ H' h => ?_)⟩
    · obtain ⟨s4, g4, y4, y5, y6, y7, rfl⟩ := h
      obtain ⟨T, x, y, rfl, nT, rfl, hx1, hx2⟩ := hy
      obtain ⟨hi, rfl⟩ := iv_get hx2
      cases hx1
      refine ⟨T, _, rfl, .inl (.inl upd_same), rfl, _, _, rfl, _, _, rfl, rfl, ?_⟩
      have s5 : Same H (upd H' T (.tup [.int (i : Nat), .int (cf xs i)])) := sm_new s4 nT
      have g5 := at_new (o := .tup [.int (i : Nat), .int (cf xs i)]) nT g4
      generalize upd H' T (.tup [.int (i : Nat), .int (cf xs i)]) = H5 at s5 g5
      have bx := hx.cf hp i
      have lo : (outT p xs ys i Z).length = xs.length + ys.length - 1 := by rw [outT_len, lZ]
      -- for place, b in enumerate(other)
      refine ⟨.ref b, rfl, b, iv ys, rfl, sm_tup s5 hB, for_it KEnt.walk (fun j σ H' => Same H H' ∧ H' fo = some (.lst (iv (inT p (cf xs i) i ys j (outT p xs ys i Z)))) ∧
          ∃ y6 y7, σ = [some (.int p), some (.ref a), some (.ref b), some (.ref fo), some (.int (i : Nat)), some (.int (cf xs i)), y6, y7])
        ⟨s5, g5, y6, y7, rfl⟩ (fun j σ H' _ h => sm_tup h.1 hB) (fun j v σ H' H'' hj h hy => ?_) (fun σ H' h => ?_)⟩
      · obtain ⟨s6, g6, z6, z7, rfl⟩ := h
        obtain ⟨T2, x, y, rfl, nT2, rfl, hx1, hx2⟩ := hy
        obtain ⟨hj, rfl⟩ := iv_get hx2
        cases hx1
        refine ⟨T2, _, rfl, .inl (.inl upd_same), rfl, _, _, rfl, _, _, rfl, rfl, ?_⟩
        have s7 : Same H (upd H' T2 (.tup [.int (j : Nat), .int (cf ys j)])) := sm_new s6 nT2
        have g7 := at_new (o := .tup [.int (j : Nat), .int (cf ys j)]) nT2 g6
        generalize upd H' T2 (.tup [.int (j : Nat), .int (cf ys j)]) = H7 at s7 g7
        have lt : i + j < (inT p (cf xs i) i ys j (outT p xs ys i Z)).length := by rw [inT_len, lo]; omega
        refine ⟨.ref fo, rfl, .int (i : Nat), rfl, .int (j : Nat), rfl, _, _, rfl, rfl, fo, _, _, _, rfl, rfl, .inl (.inl g7), iv_ix (j := i + j) (by omega) lt, .int (cf xs i), rfl, .int (cf ys j), rfl, _, _, rfl, rfl, .inl ⟨by omega, by omega⟩,
          _, _, rfl, rfl, .int p, rfl, _, _, rfl, rfl, hp, .ref fo, rfl, .int (i : Nat), rfl, .int (j : Nat), rfl, _, _, rfl, rfl, fo, _, _, i + j, rfl, rfl, g7, ix_n (by omega) (by rw [iv_len]; exact lt), ?_⟩
        refine ⟨sm_own s7 nf2, ?_, _, _, rfl⟩
        rw [upd_same, iv_set]
        rfl
      · obtain ⟨s6, g6, z6, z7, rfl⟩ := h
        rw [iv_len] at g6
        exact ⟨s6, g6, _, _, _, _, rfl⟩
    · obtain ⟨s4, g4, y4, y5, y6, y7, rfl⟩ := h
      rw [iv_len, ← hZ] at g4
      exact ⟨.ref fo, rfl, fo, prodL p xs ys, rfl, .inl (.inl g4), by rw [prodL_len]; omega, fun H' r sr hR => q _ _ (s4.trans sr) hR⟩
end
end KW

namespace KW
open PySem PySem.Spec PyProof.Rows L2 K1
section
variable {P : Program} {w : World} {K : PySem.W.Frag} {mg : Str → Option Value} {base : Heap}
/-! ### the law's own trim, sum, times -/
def sp_wtrim (K : PySem.W.Frag) : Sp := fun vs H Q _ => ∃ (a : Addr) (xs : List Int), vs = [.ref a] ∧ (SqL K H a (iv xs) ∨ SqT K H a (iv xs)) ∧ xs.length ≤ 1000 ∧ GiveT K H Q (trim xs)
theorem wtrim_step {xs : List Int} {n m i : Nat} (e : tl xs m = tl xs n) (d : m ≤ n - i ∨ tl xs m = m) (hm : m ≠ 0) (z : cf xs (m - 1) = 0) : tl xs (m - 1) = tl xs n ∧ m - 1 ≤ n - (i + 1) := by
  obtain ⟨k, rfl⟩ : ∃ k, m = k + 1 := ⟨m - 1, by omega⟩
  rw [Nat.add_sub_cancel] at z ⊢
  have e2 : tl xs (k + 1) = tl xs k := by
    show (if cf xs k = 0 then tl xs k else k + 1) = _
    rw [if_pos z]
  refine ⟨e2.symm.trans e, ?_⟩
  rcases d with d | d
  · omega
  · have := tl_le xs k
    omega
theorem wtrim_stay {xs : List Int} {m : Nat} (z : m ≠ 0 → cf xs (m - 1) ≠ 0) : tl xs m = m := by
  cases m with
  | zero => rfl
  | succ k =>
    have z := z (Nat.succ_ne_zero _)
    rw [Nat.add_sub_cancel] at z
    show (if cf xs k = 0 then tl xs k else k + 1) = _
    rw [if_neg z]
theorem ok_wtrim {f : Addr} {fd : FuncData} {k : Nat} (F : Fun K "_law_trim" "_law_trim" s_w_trim f fd) (B : Bl mg) : FnOk P w K mg base CX0 (k + 1) f fd ["_law_some_here"] (sp_wtrim K) := by
  refine F.ok c_w_trim (fun vs H Q E h => ?_) (fun cdv A outer s H vs Q E hr h => ?_)
  · obtain ⟨a, xs, rfl, _⟩ := h
    rfl
  · obtain ⟨a, xs, rfl, hS, hl, q⟩ := h
    refine ⟨_, pss_cons (ps_set (i := 1) c_w_trim.nd rfl (.inl rfl) (pe_callB call_len_seq (by rfl) B.len PySem.boot_len (pa_cons (pv 0) pa_nil)))
      (pss_cons (ps_for PassesOwn.never rfl (pi_range1 (by rfl) B.range (pa_cons (pe_callB call_len_seq (by rfl) B.len PySem.boot_len (pa_cons (pv 0) pa_nil)) pa_nil)) (pg_name (i := 2) c_w_trim.nd rfl (.inl rfl))
        (pss_one (ps_if (PW.pt (pw_and (pt_cmpR op_gt (pv 1) pe_int (nomark _))
            (pw_and1 (pt_cmpR op_eq (pe_ix ix_seq (pv 0) (pe_op op_sub (pv 1) pe_int) (fun _ _ => rfl)) pe_int (nomark _)))))
          (pss_one (ps_set (i := 1) c_w_trim.nd rfl (.inl rfl) (pe_op op_sub (pv 1) pe_int))) pss_nil)))
      (pss_one (ps_ret (pe_callTy call_tuple_of (by rfl) B.tuple (by decide +kernel) (pa_cons (pe_slice (sl_list.or sl_tupA) (pv 0) po_none (po_some (pv 1))) pa_nil))))), ?_⟩
    refine ⟨.ref a, rfl, a, iv xs, rfl, hS, .ref a, rfl, a, iv xs, rfl, hS, _, rfl, by rw [iv_len]; omega, by rw [iv_len]; omega, for_range (lo := 0) (n := _)
      (fun i σ H' => H' = H ∧ ∃ m : Nat, (∃ y, σ = [some (.ref a), some (.int (m : Nat)), y]) ∧ tl xs m = tl xs xs.length ∧ m ≤ xs.length ∧ (m ≤ xs.length - i ∨ tl xs m = m))
      ⟨rfl, xs.length, ⟨none, ?_⟩, rfl, Nat.le_refl _, .inl (Nat.le_refl _)⟩ (fun i σ H' hi h => ?_) (fun σ H' h => ?_)⟩
    · rw [iv_len]
      rfl
    · obtain ⟨rfl, m, ⟨y, rfl⟩, e, lm, d⟩ := h
      refine ⟨.int m, rfl, _, _, rfl, rfl, _, rfl, ?_⟩
      by_cases m0 : m = 0
      · subst m0
        rw [decide_eq_false (by omega)]
        exact iteF (iteF ⟨rfl, 0, ⟨_, rfl⟩, e, lm, .inr rfl⟩)
      · rw [decide_eq_true (by omega)]
        have at1 : atI (iv xs) ((m : Int) - 1) = some (.int (cf xs (m - 1))) := iv_ix (j := m - 1) (by omega) (by omega)
        refine iteT ⟨.ref a, rfl, .int (m : Nat), rfl, _, 1, rfl, rfl, ?_⟩
        have yes : cf xs (m - 1) = 0 → ∃ k : Nat, (∃ y, [some (V.ref a), some (V.int ((m : Int) - 1)), some (V.int (0 + (i : Nat)))] = [some (V.ref a), some (V.int (k : Nat)), y]) ∧ tl xs k = tl xs xs.length ∧ k ≤ xs.length ∧ (k ≤ xs.length - (i + 1) ∨ tl xs k = k) := fun z => by
          obtain ⟨h1, h2⟩ := wtrim_step e d m0 z
          refine ⟨m - 1, ⟨some (V.int (0 + (i : Nat))), ?_⟩, h1, by omega, .inl h2⟩
          rw [show (m : Int) - 1 = ((m - 1 : Nat) : Int) by omega]
        have no : cf xs (m - 1) ≠ 0 → ∃ k : Nat, (∃ y, [some (V.ref a), some (V.int (m : Nat)), some (V.int (0 + (i : Nat)))] = [some (V.ref a), some (V.int (k : Nat)), y]) ∧ tl xs k = tl xs xs.length ∧ k ≤ xs.length ∧ (k ≤ xs.length - (i + 1) ∨ tl xs k = k) :=
          fun z => ⟨m, ⟨_, rfl⟩, e, lm, .inr (wtrim_stay fun _ => z)⟩
        rcases hS with hS | hS
        · refine .inl ⟨a, iv xs, _, _, rfl, rfl, hS, at1, rfl, _, rfl, ?_⟩
          by_cases z : cf xs (m - 1) = 0
          · rw [z, decide_eq_true rfl]
            exact iteT ⟨_, rfl, _, _, rfl, rfl, rfl, yes z⟩
          · rw [decide_eq_false (fun y => z (V.int.inj y))]
            exact iteF ⟨rfl, no z⟩
        · refine .inr (.inl ⟨a, iv xs, _, _, rfl, rfl, hS, at1, rfl, _, rfl, ?_⟩)
          by_cases z : cf xs (m - 1) = 0
          · rw [z, decide_eq_true rfl]
            exact iteT ⟨_, rfl, _, _, rfl, rfl, rfl, yes z⟩
          · rw [decide_eq_false (fun y => z (V.int.inj y))]
            exact iteF ⟨rfl, no z⟩
    · obtain ⟨rfl, m, ⟨y, rfl⟩, e, lm, d⟩ := h
      have em : tl xs m = m := by
        rcases d with d | d
        · rw [Int.toNat_natCast, iv_len] at d
          have : m = 0 := by omega
          subst this
          rfl
        · exact d
      have et : trim xs = xs.take m := by
        unfold trim
        rw [← e, em]
      refine ⟨.ref a, rfl, .int (m : Nat), rfl, m, rfl, ?_⟩
      have new : ∀ (H2 : Hp) (t : Addr), H2 t = some (.tup (cutV (iv xs) none (some (m : Int)))) → SqT K H2 t (iv (trim xs)) := fun H2 t h => by
        rw [cut_to] at h
        rw [et, show iv (xs.take m) = (iv xs).take m from List.map_take ..]
        exact .inl (.inl h)
      rcases hS with hS | hS
      · exact .inl ⟨a, iv xs, rfl, hS, fun l nl => ⟨l, _, rfl, .inl ⟨.inl (.inl upd_same), fun t nt => q _ _ (sm_new (sm_upd nl) nt) (new _ _ upd_same)⟩⟩⟩
      · refine .inr ⟨a, iv xs, rfl, hS, fun hw => ⟨a, iv xs, rfl, .inr ⟨hS, q _ _ (Same.refl _) ?_⟩⟩, fun _ t nt => ⟨t, _, rfl, .inr ⟨.inl (.inl upd_same), q _ _ (sm_upd nt) (new _ _ upd_same)⟩⟩⟩
        have h2 := hw.2
        rw [HT.sIx_nat, iv_len] at h2
        rw [et, List.take_of_length_le (by omega)]
        exact hS
theorem ok_wsum {f fT : Addr} {fd fdT : FuncData} {k : Nat} (F : Fun K "_law_sum" "_law_sum" s_w_sum f fd) (B : Bl mg) (DT : Df K mg "_law_trim" s_w_trim ["_law_some_here"] fT fdT) :
    FnOk P w K mg base CX0 (k + 2) f fd ["_law_p", "_law_one", "_law_other"] (sp_plus K) := by
  have GT : FnOk P w K mg base CX0 (k + 1) fT fdT ["_law_some_here"] (sp_wtrim K) := ok_wtrim DT.F B
  refine F.ok c_w_sum (fun vs H Q E h => ?_) (fun cdv A outer s H vs Q E hr h => ?_)
  · obtain ⟨p, a, b, xs, ys, rfl, _⟩ := h
    rfl
  · obtain ⟨p, a, b, xs, ys, rfl, hp, hA, hB, la, lb, q⟩ := h
    refine ⟨_, pss_cons (ps_set (i := 3) c_w_sum.nd rfl (.inl rfl) (pe_callB (call_max2 rfl) (by rfl) B.max (by decide +kernel)
        (pa_cons (pe_callB call_len_seq (by rfl) B.len PySem.boot_len (pa_cons (pv 1) pa_nil)) (pa_cons (pe_callB call_len_seq (by rfl) B.len PySem.boot_len (pa_cons (pv 2) pa_nil)) pa_nil))))
      (pss_cons (ps_asg (pe_tup
          (pa_cons (pe_op op_cat (pe_callTy call_list_of (by rfl) B.list (by decide +kernel) (pa_cons (pv 1) pa_nil)) (pe_op op_rep (pe_lst (pa_cons pe_int pa_nil)) (pe_op op_sub (pv 3) (pe_callB call_len_seq (by rfl) B.len PySem.boot_len (pa_cons (pv 1) pa_nil)))))
          (pa_cons (pe_op op_cat (pe_callTy call_list_of (by rfl) B.list (by decide +kernel) (pa_cons (pv 2) pa_nil)) (pe_op op_rep (pe_lst (pa_cons pe_int pa_nil)) (pe_op op_sub (pv 3) (pe_callB call_len_seq (by rfl) B.len PySem.boot_len (pa_cons (pv 2) pa_nil))))) pa_nil)))
          (pg_tup rfl (pgs_cons (pg_name (i := 4) c_w_sum.nd rfl (.inr rfl)) (pgs_cons (pg_name (i := 5) c_w_sum.nd rfl (.inr rfl)) pgs_nil))))
      (pss_one (ps_ret (pe_call GT hr (by rfl) DT.g DT.F.kp DT.b .nil pass0 (pa_cons
        (pe_lc (own := [("_law_at", 6)]) (g := gName 6) (tt := tYes) rfl c_w_sum.nd (pi_range1 (by rfl) B.range (pa_cons (pv 3) pa_nil)) (blkOk_by (N := N_w_sum) (sc := defScope s_w_sum) (by decide +kernel))
          (fun _ _ _ _ _ => pg_name (i := 6) c_w_sum.nd rfl (Or.inl rfl)) (fun _ _ _ _ _ => pts_nil)
          (fun _ _ _ _ _ => pe_op op_mod (pe_callTy call_int1 (by rfl) B.int (by decide +kernel) (pa_cons (pe_op op_add (pe_ix (r := rIxL K) ix_list (pv 4) (pv 6) (fun _ _ => rfl)) (pe_ix (r := rIxL K) ix_list (pv 5) (pv 6) (fun _ _ => rfl))) pa_nil)) (pv 0))) pa_nil))))), ?_⟩
    refine ⟨.ref a, rfl, a, iv xs, rfl, .inr hA, .ref b, rfl, b, iv ys, rfl, .inr hB, _, _, rfl, ?_⟩
    have em : (if ((iv ys).length : Int) > ((iv xs).length : Int) then ((iv ys).length : Int) else ((iv xs).length : Int)) = (max xs.length ys.length : Nat) := by
      rw [iv_len, iv_len]
      split <;> omega
    rw [em]
    generalize hm : max xs.length ys.length = m
    have lx : xs.length ≤ m := by omega
    have ly : ys.length ≤ m := by omega
    have lm : m ≤ 400 := by omega
    refine ⟨.ref a, rfl, a, iv xs, rfl, .inr hA, fun l0 n0 => ⟨small (by decide), fun z nz => ⟨.int m, rfl, .ref a, rfl, a, iv xs, rfl, .inr (sm_tup (sm_new (sm_upd n0) nz) hA), m, (iv xs).length, rfl, rfl, z, _, _, rfl, rfl, upd_same, by rw [iv_len]; omega,
      by rw [iv_len]; omega, small (by rw [iv_len, List.length_singleton]; omega), fun r nr => ?_⟩⟩⟩
    rw [show ((m : Int) - ((iv xs).length : Int)).toNat = m - xs.length by rw [iv_len]; omega, rep_zero]
    refine ⟨l0, r, _, _, rfl, rfl, at_new nr (at_new nz upd_same), upd_same, small (by have := pad_len lx; rw [List.length_append] at this; omega), fun fst nf => ?_⟩
    have s3 : Same H (upd (upd (upd (upd H l0 (.lst (iv xs))) z (.lst [.int 0])) r (.lst (iv (List.replicate (m - xs.length) 0)))) fst (.lst (iv xs ++ iv (List.replicate (m - xs.length) 0)))) := sm_new (sm_new (sm_new (sm_upd n0) nz) nr) nf
    have g3 : (upd (upd (upd (upd H l0 (.lst (iv xs))) z (.lst [.int 0])) r (.lst (iv (List.replicate (m - xs.length) 0)))) fst (.lst (iv xs ++ iv (List.replicate (m - xs.length) 0)))) fst = some (.lst (iv xs ++ iv (List.replicate (m - xs.length) 0))) := upd_same
    generalize (upd (upd (upd (upd H l0 (.lst (iv xs))) z (.lst [.int 0])) r (.lst (iv (List.replicate (m - xs.length) 0)))) fst (.lst (iv xs ++ iv (List.replicate (m - xs.length) 0)))) = H3 at s3 g3
    refine ⟨.ref b, rfl, b, iv ys, rfl, .inr (sm_tup s3 hB), fun l1 n1 => ⟨small (by decide), fun z2 nz2 => ⟨.int m, rfl, .ref b, rfl, b, iv ys, rfl, .inr (sm_tup (sm_new (sm_new s3 n1) nz2) hB), m, (iv ys).length, rfl, rfl, z2, _, _, rfl, rfl, upd_same,
      by rw [iv_len]; omega, by rw [iv_len]; omega, small (by rw [iv_len, List.length_singleton]; omega), fun r2 nr2 => ?_⟩⟩⟩
    rw [show ((m : Int) - ((iv ys).length : Int)).toNat = m - ys.length by rw [iv_len]; omega, rep_zero]
    refine ⟨l1, r2, _, _, rfl, rfl, at_new nr2 (at_new nz2 upd_same), upd_same, small (by have := pad_len ly; rw [List.length_append] at this; omega), fun snd ns => ?_⟩
    have s6 : Same H3 (upd (upd (upd (upd H3 l1 (.lst (iv ys))) z2 (.lst [.int 0])) r2 (.lst (iv (List.replicate (m - ys.length) 0)))) snd (.lst (iv ys ++ iv (List.replicate (m - ys.length) 0)))) := sm_new (sm_new (sm_new (sm_upd n1) nz2) nr2) ns
    have g6 : (upd (upd (upd (upd H3 l1 (.lst (iv ys))) z2 (.lst [.int 0])) r2 (.lst (iv (List.replicate (m - ys.length) 0)))) snd (.lst (iv ys ++ iv (List.replicate (m - ys.length) 0)))) snd = some (.lst (iv ys ++ iv (List.replicate (m - ys.length) 0))) := upd_same
    generalize (upd (upd (upd (upd H3 l1 (.lst (iv ys))) z2 (.lst [.int 0])) r2 (.lst (iv (List.replicate (m - ys.length) 0)))) snd (.lst (iv ys ++ iv (List.replicate (m - ys.length) 0)))) = H6 at s6 g6
    have f6 := s6 _ _ g3
    refine ⟨(by decide : 2 ≤ sizeLine), fun tp ntp => ⟨tp, _, rfl, .inl (.inl upd_same), rfl, _, _, rfl, _, _, rfl, rfl, ?_⟩⟩
    have s7 : Same H6 (upd H6 tp (.tup [.ref fst, .ref snd])) := sm_upd ntp
    generalize upd H6 tp (.tup [.ref fst, .ref snd]) = H7 at s7
    have f7 := s7 _ _ f6
    have g7 := s7 _ _ g6
    refine ⟨.int m, rfl, m, rfl, by omega, by omega, fun D nD => lc_range (lo := 0) (n := _) (fun i H' => Same H7 H' ∧ H' D = some (.lst (iv ((sumL p xs ys).take i)))) ⟨sm_upd nD, upd_same⟩ (fun i H' hi h => ?_) (fun H' h => ?_)⟩
    · obtain ⟨s8, eD⟩ := h
      have hi : i < m := by omega
      refine ⟨rfl, lcT ⟨.ref fst, rfl, .int (0 + (i : Nat)), rfl, fst, _, _, _, rfl, rfl, .inl (.inl (s8 _ _ f7)), at_of (by omega) (pad_at hi lx), .ref snd, rfl, .int (0 + (i : Nat)), rfl, snd, _, _, _, rfl, rfl, .inl (.inl (s8 _ _ g7)), at_of (by omega) (pad_at hi ly),
        _, _, rfl, rfl, .inl ⟨_, rfl, .int p, rfl, _, _, rfl, rfl, hp, _, eD, ?_, sm_own s8 nD, ?_⟩⟩⟩
      · rw [iv_len, List.length_take]
        exact small1000 (by omega)
      · rw [upd_same, sum_next (by omega)]
    · obtain ⟨s8, eD⟩ := h
      rw [Int.toNat_natCast, ← hm, sum_all] at eD
      refine ⟨D, sumL p xs ys, rfl, .inl (.inl (.inl eD)), by rw [sumL_len]; omega, fun H' r sr hR => q _ _ (s3.trans (s6.trans (s7.trans (s8.trans sr)))) hR⟩
end
end KW

namespace KW
open PySem PySem.Spec PyProof.Rows L2 K1
section
variable {P : Program} {w : World} {K : PySem.W.Frag} {mg : Str → Option Value} {base : Heap}
/-! ### parted -/
def bk (p : Int) (ys : List Int) : Int := invT p (cf ys (ys.length - 1)) (p - 2).toNat
theorem bk_ok {p : Int} {ys : List Int} (hp : Pr p) (hy : Can p ys) (ly : 0 < ys.length) : Cg p (bk p ys * cf ys (ys.length - 1)) 1 := by
  have b := hy.rg.cf (by have := hp.pos; omega) (ys.length - 1)
  exact invT_ok hp b.1 b.2 (hy.last.resolve_left (by omega))
theorem invT_rg {p x : Int} (hp : 2 ≤ p) : ∀ n, 0 ≤ invT p x n ∧ invT p x n < p
  | 0 => ⟨by show (0 : Int) ≤ 1; decide, by show (1 : Int) < p; omega⟩
  | n + 1 => ⟨Int.emod_nonneg _ (by omega), Int.emod_lt_of_pos _ (by omega)⟩
theorem iv_last {xs : List Int} (h : 0 < xs.length) : atI (iv xs) (-1) = some (.int (cf xs (xs.length - 1))) := by
  have hz : iv xs = (iv xs).take (xs.length - 1) ++ [.int (cf xs (xs.length - 1))] := by
    have l1 : xs.length - 1 < xs.length := by omega
    have g := iv_at l1
    have := List.take_add_one (l := iv xs) (i := xs.length - 1)
    rw [g, show xs.length - 1 + 1 = (iv xs).length by rw [iv_len]; omega, List.take_length] at this
    exact this
  rw [hz]
  exact atI_last _ _
def sp_parted (K : PySem.W.Frag) : Sp := fun vs H Q _ => ∃ (p : Int) (a b : Addr) (xs ys : List Int), vs = [.int p, .ref a, .ref b] ∧ Pr p ∧ Can p xs ∧ Can p ys ∧ 0 < ys.length ∧ SqT K H a (iv xs) ∧ SqT K H b (iv ys) ∧ xs.length ≤ 400 ∧ ys.length ≤ 400 ∧
  ∀ (H' : Hp) (t c d : Addr), Same H H' → SqT K H' t [.ref c, .ref d] → SqT K H' c (iv (quoL p (bk p ys) xs ys)) → SqT K H' d (iv (resL p (bk p ys) xs ys)) → Q (.ref t) H'
theorem ok_parted {f fT fI : Addr} {fd fdT fdI : FuncData} {k : Nat} (F : Fun K "parted" "parted" s_parted f fd) (B : Bl mg) (DT : Df K mg "trimmed" s_trimmed ["some"] fT fdT) (DI : Df K mg "inverse" s_inverse ["p", "number"] fI fdI) :
    FnOk P w K mg base CX0 (k + 2) f fd ["p", "one", "other"] (sp_parted K) := by
  have GT : FnOk P w K mg base CX0 (k + 1) fT fdT ["some"] (sp_trimmed K) := ok_trimmed DT.F B
  have GI : FnOk P w K mg base CX0 (k + 1) fI fdI ["p", "number"] sp_inverse := ok_inverse DI.F B
  refine F.ok c_parted (fun vs H Q E h => ?_) (fun cdv A outer s H vs Q E hr h => ?_)
  · obtain ⟨p, a, b, xs, ys, rfl, _⟩ := h
    rfl
  · obtain ⟨p, a, b, xs, ys, rfl, hpr, hx, hy, ly, hA, hB, la, lb, q⟩ := h
    have pp := hpr.pos
    have hp : 0 < p := by omega
    refine ⟨_, pss_cons (ps_par (i := 3) (j := 4) rfl c_parted.nd rfl rfl (by decide) rfl rfl
        (pa_cons (pe_callTy call_list_of (by rfl) B.list (by decide +kernel) (pa_cons (pv 1) pa_nil))
        (pa_cons (pe_op op_rep (pe_lst (pa_cons pe_int pa_nil)) (pe_callB (call_max2 rfl) (by rfl) B.max (by decide +kernel) (pa_cons pe_int (pa_cons
          (pe_op op_add (pe_op op_sub (pe_callB call_len_seq (by rfl) B.len PySem.boot_len (pa_cons (pv 1) pa_nil)) (pe_callB call_len_seq (by rfl) B.len PySem.boot_len (pa_cons (pv 2) pa_nil))) pe_int) pa_nil)))) pa_nil)) (by rfl))
      (pss_cons (ps_set (i := 5) c_parted.nd rfl (.inl rfl) (pe_call GI hr (by rfl) DI.g DI.F.kp DI.b .nil pass0 (pa_cons (pv 0) (pa_cons (pe_ix ix_tup (pv 2) (pe_un un_neg pe_int) (fun _ _ => rfl)) pa_nil))))
      (pss_cons (ps_for PassesOwn.never rfl (pi_range3 (by rfl) B.range (pa_cons (pe_op op_sub (pe_callB call_len_seq (by rfl) B.len PySem.boot_len (pa_cons (pv 4) pa_nil)) pe_int) (pa_cons (pe_un un_neg pe_int) (pa_cons (pe_un un_neg pe_int) pa_nil))))
          (pg_name (i := 6) c_parted.nd rfl (.inl rfl))
        (pss_cons (ps_asg (pe_op op_mod (pe_op op_mul (pe_ix ix_list (pv 3) (pe_op op_sub (pe_op op_add (pv 6) (pe_callB call_len_seq (by rfl) B.len PySem.boot_len (pa_cons (pv 2) pa_nil))) pe_int) (fun _ _ => rfl)) (pv 5)) (pv 0)) (pg_sub (pv 4) (pv 6) set_list))
        (pss_one (ps_for PassesOwn.never rfl (KEnt.pi_en (by rfl) B.enumerate (pa_cons (pv 2) pa_nil)) (pg_tup rfl (pgs_cons (pg_name (i := 7) c_parted.nd rfl (.inl rfl)) (pgs_cons (pg_name (i := 8) c_parted.nd rfl (.inl rfl)) pgs_nil)))
          (pss_one (ps_asg (pe_op op_mod (pe_op op_sub (pe_ix ix_list (pv 3) (pe_op op_add (pv 6) (pv 7)) (fun _ _ => rfl)) (pe_op op_mul (pe_ix ix_list (pv 4) (pv 6) (fun _ _ => rfl)) (pv 8))) (pv 0)) (pg_sub (pv 3) (pe_op op_add (pv 6) (pv 7)) set_list)))))))
      (pss_one (ps_ret (pe_tup (pa_cons (pe_call GT hr (by rfl) DT.g DT.F.kp DT.b .nil pass0 (pa_cons (pv 4) pa_nil)) (pa_cons (pe_call GT hr (by rfl) DT.g DT.F.kp DT.b .nil pass0 (pa_cons (pv 3) pa_nil)) pa_nil))))))), ?_⟩
    -- rest, found
    refine ⟨.ref a, rfl, a, iv xs, rfl, .inr hA, fun re nre => ⟨small (by decide), fun z nz => ⟨.ref a, rfl, a, iv xs, rfl, .inr (sm_tup (sm_new (sm_upd nre) nz) hA), .ref b, rfl, b, iv ys, rfl, .inr (sm_tup (sm_new (sm_upd nre) nz) hB), _, _, rfl, rfl, _, 1, rfl, rfl, _, _, rfl, ?_⟩⟩⟩
    have em : (if ((iv xs).length : Int) - ((iv ys).length : Int) + 1 > 0 then ((iv xs).length : Int) - ((iv ys).length : Int) + 1 else 0) = (dLen xs ys : Nat) := by
      rw [iv_len, iv_len]
      unfold dLen
      split <;> omega
    rw [em]
    generalize hL : dLen xs ys = L
    have lL : L + ys.length ≤ xs.length + 1 ∨ L = 0 := by unfold dLen at hL; omega
    have lL2 : L ≤ xs.length := by unfold dLen at hL; omega
    refine ⟨z, _, _, rfl, rfl, upd_same, by omega, by omega, small (by rw [List.length_singleton, Int.toNat_natCast]; omega), fun fo nfo => ?_⟩
    rw [Int.toNat_natCast, rep_zero]
    have nr : H re = none := nre
    have nf : H fo = none := (sm_new (sm_upd nre) nz).free nfo
    have ne : re ≠ fo := ne_of_none (at_new nz upd_same) nfo
    have s3 : Same H (upd (upd (upd H re (.lst (iv xs))) z (.lst [.int 0])) fo (.lst (iv (List.replicate L 0)))) := sm_new (sm_new (sm_upd nre) nz) nfo
    have g3 : (upd (upd (upd H re (.lst (iv xs))) z (.lst [.int 0])) fo (.lst (iv (List.replicate L 0)))) fo = some (.lst (iv (dT p (bk p ys) xs ys L 0).1)) := upd_same
    have r3 : (upd (upd (upd H re (.lst (iv xs))) z (.lst [.int 0])) fo (.lst (iv (List.replicate L 0)))) re = some (.lst (iv (dT p (bk p ys) xs ys L 0).2)) := at_new nfo (at_new nz upd_same)
    generalize (upd (upd (upd H re (.lst (iv xs))) z (.lst [.int 0])) fo (.lst (iv (List.replicate L 0)))) = H3 at s3 g3 r3
    refine ⟨.ref re, .ref fo, rfl, ?_⟩
    -- back
    have by1 := hy.rg.cf hp (ys.length - 1)
    refine ⟨.int p, rfl, .ref b, rfl, 1, rfl, b, iv ys, -1, _, rfl, rfl, sm_tup s3 hB, iv_last ly, p, cf ys (ys.length - 1), rfl, pp.1, by omega, by1.1, by1.2, ?_⟩
    show tSeq _ _ _ [some (V.int p), some (V.ref a), some (V.ref b), some (V.ref re), some (V.ref fo), some (V.int (bk p ys)), none, none, none] H3
    have bb : 0 ≤ bk p ys ∧ bk p ys < p := invT_rg pp.1 _
    have hb := bk_ok hpr hy ly
    have lF0 : (dT p (bk p ys) xs ys L 0).1.length = L := List.length_replicate
    have inv : ∀ i, i ≤ L → DInv p xs ys L i (dT p (bk p ys) xs ys L i) := fun i hi => by
      have := dT_inv (back := bk p ys) hp hx.rg ly hb i (by rw [hL]; exact hi)
      rwa [hL] at this
    -- for at in range(len(found) - 1, -1, -1)
    refine ⟨.ref fo, rfl, fo, _, rfl, .inl (.inl (.inl g3)), _, 1, rfl, rfl, 1, rfl, 1, rfl, _, -1, -1, _, rfl, RgC.neg (by rw [iv_len, lF0]; omega) (by rw [iv_len, lF0]; omega) (by omega) (by omega), ?_⟩
    rw [iv_len, lF0]
    have eL : ((L : Int) - 1 - -1).toNat = L := by omega
    rw [eL]
    refine for_rangeC (lo := (L : Int) - 1) (c := -1) (n := L) (fun i σ H' => Same H H' ∧ H' fo = some (.lst (iv (dT p (bk p ys) xs ys L i).1)) ∧ H' re = some (.lst (iv (dT p (bk p ys) xs ys L i).2)) ∧
        ∃ y6 y7 y8, σ = [some (.int p), some (.ref a), some (.ref b), some (.ref re), some (.ref fo), some (.int (bk p ys)), y6, y7, y8])
      ⟨s3, g3, r3, none, none, none, rfl⟩ (fun i σ H' hi h => ?_) (fun σ H' h => ?_)
    · obtain ⟨s4, g4, r4, y6, y7, y8, rfl⟩ := h
      obtain ⟨zz, ez⟩ : ∃ zz : Nat, zz = L - 1 - i := ⟨_, rfl⟩
      have e1 : (L : Int) - 1 + (i : Nat) * (-1) = (zz : Nat) := by omega
      rw [e1]
      have D := inv i (by omega)
      have hs : dT p (bk p ys) xs ys L (i + 1) = dStep p (bk p ys) ys zz (dT p (bk p ys) xs ys L i) := by rw [ez]; rfl
      rw [hs]
      generalize dT p (bk p ys) xs ys L i = S at D g4 r4
      obtain ⟨S1, S2⟩ := S
      dsimp only at g4 r4
      have l1 : S1.length = L := D.l1
      have l2 : S2.length = xs.length := D.l2
      have rg2 : Rg p S2 := D.r2
      have lz : zz + ys.length ≤ xs.length := by omega
      have hd : dStep p (bk p ys) ys zz (S1, S2) = (S1.set zz (cf S2 (zz + ys.length - 1) * bk p ys % p), inT p (-(cf S2 (zz + ys.length - 1) * bk p ys % p)) zz ys ys.length S2) := rfl
      rw [hd]
      refine ⟨.ref re, rfl, .int (zz : Nat), rfl, .ref b, rfl, b, iv ys, rfl, .inr (sm_tup s4 hB), _, _, rfl, rfl, _, 1, rfl, rfl, re, _, _, _, rfl, rfl, .inl (.inl r4), iv_ix (j := zz + ys.length - 1) (by rw [iv_len]; omega) (by omega),
        .int (bk p ys), rfl, _, _, rfl, rfl, .inr ⟨by omega, by omega⟩, .int p, rfl, _, _, rfl, rfl, hp, .ref fo, rfl, .int (zz : Nat), rfl, fo, _, _, zz, rfl, rfl, g4, ix_n rfl (by rw [iv_len]; omega), ?_⟩
      dsimp only
      generalize hc : cf S2 (zz + ys.length - 1) * bk p ys % p = c
      have c0 : 0 ≤ c := by rw [← hc]; exact Int.emod_nonneg _ (by omega)
      have c1 : c < p := by rw [← hc]; exact Int.emod_lt_of_pos _ hp
      rw [iv_set]
      have s5 : Same H (upd H' fo (.lst (iv (S1.set zz c)))) := sm_own s4 nf
      have g5 : (upd H' fo (.lst (iv (S1.set zz c)))) fo = some (.lst (iv (S1.set zz c))) := upd_same
      have r5 : (upd H' fo (.lst (iv (S1.set zz c)))) re = some (.lst (iv S2)) := by rw [upd_ne ne]; exact r4
      generalize upd H' fo (.lst (iv (S1.set zz c))) = H5 at s5 g5 r5
      have lS : zz < (S1.set zz c).length := by rw [List.length_set]; omega
      have cS : cf (S1.set zz c) zz = c := by rw [cf_set (by omega), if_pos rfl]
      -- for place, b in enumerate(other)
      refine ⟨.ref b, rfl, b, iv ys, rfl, sm_tup s5 hB, for_it KEnt.walk (fun j σ H' => Same H H' ∧ H' fo = some (.lst (iv (S1.set zz c))) ∧ H' re = some (.lst (iv (inT p (-c) zz ys j S2))) ∧
          ∃ y7 y8, σ = [some (.int p), some (.ref a), some (.ref b), some (.ref re), some (.ref fo), some (.int (bk p ys)), some (.int (zz : Nat)), y7, y8])
        ⟨s5, g5, r5, y7, y8, rfl⟩ (fun j σ H' _ h => sm_tup h.1 hB) (fun j v σ H' H'' hj h hy2 => ?_) (fun σ H' h => ?_)⟩
      · obtain ⟨s6, g6, r6, z7, z8, rfl⟩ := h
        obtain ⟨T2, x, y, rfl, nT2, rfl, hx1, hx2⟩ := hy2
        obtain ⟨hj, rfl⟩ := iv_get hx2
        cases hx1
        refine ⟨T2, _, rfl, .inl (.inl upd_same), rfl, _, _, rfl, _, _, rfl, rfl, ?_⟩
        have s7 : Same H (upd H' T2 (.tup [.int (j : Nat), .int (cf ys j)])) := sm_new s6 nT2
        have g7 := at_new (o := .tup [.int (j : Nat), .int (cf ys j)]) nT2 g6
        have r7 := at_new (o := .tup [.int (j : Nat), .int (cf ys j)]) nT2 r6
        generalize upd H' T2 (.tup [.int (j : Nat), .int (cf ys j)]) = H7 at s7 g7 r7
        have lt : zz + j < (inT p (-c) zz ys j S2).length := by rw [inT_len]; omega
        have at2 := iv_ix (xs := S1.set zz c) (z := (zz : Nat)) (j := zz) rfl lS
        rw [cS] at at2
        refine ⟨.ref re, rfl, .int (zz : Nat), rfl, .int (j : Nat), rfl, _, _, rfl, rfl, re, _, _, _, rfl, rfl, .inl (.inl r7), iv_ix (j := zz + j) (by omega) lt, .ref fo, rfl, .int (zz : Nat), rfl, fo, _, _, _, rfl, rfl, .inl (.inl g7), at2,
          .int (cf ys j), rfl, _, _, rfl, rfl, .inl ⟨by omega, by omega⟩, _, _, rfl, rfl, .int p, rfl, _, _, rfl, rfl, hp, .ref re, rfl, .int (zz : Nat), rfl, .int (j : Nat), rfl, _, _, rfl, rfl, re, _, _, zz + j, rfl, rfl, r7, ix_n (by omega) (by rw [iv_len]; exact lt), ?_⟩
        refine ⟨sm_own s7 nr, ?_, ?_, _, _, rfl⟩
        · rw [upd_ne ne.symm]
          exact g7
        · rw [upd_same, iv_set, show cf (inT p (-c) zz ys j S2) (zz + j) - c * cf ys j = cf (inT p (-c) zz ys j S2) (zz + j) + -c * cf ys j by rw [Int.neg_mul, Int.sub_eq_add_neg]]
          rfl
      · obtain ⟨s6, g6, r6, z7, z8, rfl⟩ := h
        rw [iv_len] at r6
        exact ⟨s6, g6, r6, _, _, _, rfl⟩
    · obtain ⟨s4, g4, r4, y6, y7, y8, rfl⟩ := h
      have D := inv L (Nat.le_refl _)
      refine ⟨.ref fo, rfl, fo, _, rfl, .inl (.inl g4), by rw [D.l1]; omega, fun H5 c5 s5 h5 => ⟨.ref re, rfl, re, _, rfl, .inl (.inl (s5 _ _ r4)), by rw [D.l2]; omega, fun H6 c6 s6 h6 => ⟨(by decide : 2 ≤ sizeLine), fun t nt => ?_⟩⟩⟩
      refine q _ t c5 c6 (s4.trans (s5.trans (s6.trans (sm_upd nt)))) (.inl (.inl upd_same)) ?_ ?_
      · have := sm_tup (sm_upd (o := .tup [.ref c5, .ref c6]) nt) (sm_tup s6 h5)
        unfold quoL divL
        rw [hL]
        exact this
      · have := sm_tup (sm_upd (o := .tup [.ref c5, .ref c6]) nt) h6
        unfold resL divL
        rw [hL]
        exact this
end
end KW

namespace KW
open PySem PySem.Spec PyProof.Rows L2 K1
section
variable {P : Program} {w : World} {K : PySem.W.Frag} {mg : Str → Option Value} {base : Heap}
/-! ### _law_alike: of an int and itself, of two tuples of the same ints -/
theorem blN {c : Prop} [Decidable c] (h : c) : V.bl (!decide c) = V.bl false := by rw [decide_eq_true h] <;> rfl
theorem kit2 {K : PySem.W.Frag} {n : String} {b : Bool} (h : kitB n "tuple" = some b) (h2 : kitB n "list" = some false) : PySem.W.kitAny K (.type n) [.type "tuple", .type "list"] = some b :=
  kitAny_cons (b := b) (kit_ty h) (fun e => by subst e; exact kitAny_cons (kit_ty h2) (fun _ => kitAny_nil) (fun z => nomatch z)) (fun e => e)
def sp_alikeI : Sp := fun vs H Q _ => ∃ i : Int, vs = [.int i, .int i] ∧ ∀ H', Same H H' → Q (.bl true) H'
theorem ok_alikeI {f : Addr} {fd : FuncData} {k : Nat} (F : Fun K "_law_alike" "_law_alike" s_w_alike f fd) (B : Bl mg) : FnOk P w K mg base CX0 (k + 1) f fd ["_law_found", "_law_due"] sp_alikeI := by
  refine F.ok c_w_alike (fun vs H Q E h => ?_) (fun cdv A outer s H vs Q E hr h => ?_)
  · obtain ⟨i, rfl, _⟩ := h
    rfl
  · obtain ⟨i, rfl, q⟩ := h
    refine ⟨_, pss_cons (ps_if (pt_val (pe_callB call_isiT (by rfl) B.isinstance (by decide +kernel) (pa_cons (pv 1) (pa_cons (pe_tup (pa_cons (pe_bltn (v := .ty "tuple") (by rfl) B.tuple (by decide +kernel) rfl)
          (pa_cons (pe_bltn (v := .ty "list") (by rfl) B.list (by decide +kernel) rfl) pa_nil))) pa_nil)))) pss_never pss_nil)
      (pss_cons (ps_if (PW.pt (pw_or (pt_cmp (pc_isN (pv 1)) rfl) (pw_or1 (pt_val (pe_callB call_isi (by rfl) B.isinstance (by decide +kernel) (pa_cons (pv 1) (pa_cons (pe_bltn (v := .ty "str") (by rfl) B.str (by decide +kernel) rfl) pa_nil))))))) pss_never pss_nil)
      (pss_one (ps_ret (pe_and (pe_callB call_isi (by rfl) B.isinstance (by decide +kernel) (pa_cons (pv 0) (pa_cons (pe_bltn (v := .ty "int") (by rfl) B.int (by decide +kernel) rfl) pa_nil)))
        (pe_and (pe_cmpR op_eq (pe_callB call_isi (by rfl) B.isinstance (by decide +kernel) (pa_cons (pv 0) (pa_cons (pe_bltn (v := .ty "bool") (by rfl) B.bool (by decide +kernel) rfl) pa_nil)))
            (pe_callB call_isi (by rfl) B.isinstance (by decide +kernel) (pa_cons (pv 1) (pa_cons (pe_bltn (v := .ty "bool") (by rfl) B.bool (by decide +kernel) rfl) pa_nil))) (nomark _))
          (pe_one (pe_cmpR op_eq (pv 0) (pv 1) (nomark _)))))))), ?_⟩
    refine ⟨.int i, rfl, (by decide : 2 ≤ sizeLine), fun t nt => ⟨.int i, t, _, _, _, false, rfl, upd_same, .cons (.ty _) (.cons (.ty _) .nil), .base (.int i), kit2 (by decide +kernel) (by decide +kernel), false, rfl, iteF ?_⟩⟩
    refine ⟨.int i, rfl, false, blF (by intro h; cases h), iteF ⟨.int i, rfl, .int i, .ty "str", _, _, false, rfl, .ty _, .base (.int i), kit_ty (by decide +kernel), false, rfl, iteF ?_⟩⟩
    refine ⟨.int i, rfl, .int i, .ty "int", _, _, true, rfl, .ty _, .base (.int i), kit_ty (by decide +kernel), true, rfl, iteT ?_⟩
    refine ⟨.int i, rfl, .int i, .ty "bool", _, _, false, rfl, .ty _, .base (.int i), kit_ty (by decide +kernel), .int i, rfl, .int i, .ty "bool", _, _, false, rfl, .ty _, .base (.int i), kit_ty (by decide +kernel), rfl, true, blT rfl, iteT ?_⟩
    refine ⟨.int i, rfl, .int i, rfl, rfl, ?_⟩
    rw [decide_eq_true rfl]
    exact q _ (sm_upd nt)
theorem sh_l : SeqAt.shaped (.list []) = true := by
  unfold SeqAt.shaped
  rw [PyData.canLay0, PyData.canLayAll0, PyData.depth, PyData.depthAll]
  rfl
theorem eq_l : PyData.eqv (.list []) (.list []) = true := by
  rw [PyData.eqv, PyData.eqvAll]
def sp_alikeT (K : PySem.W.Frag) : Sp := fun vs H Q _ => ∃ (a b : Addr) (xs : List Int), vs = [.ref a, .ref b] ∧ SqT K H a (iv xs) ∧ SqT K H b (iv xs) ∧ xs.length ≤ 400 ∧ ∀ H', Same H H' → Q (.bl true) H'
theorem ok_alikeT {f : Addr} {fd : FuncData} {k : Nat} (D : Df K mg "_law_alike" s_w_alike ["_law_found", "_law_due"] f fd) (B : Bl mg) : FnOk P w K mg base CX0 (k + 2) f fd ["_law_found", "_law_due"] (sp_alikeT K) := by
  have GI : FnOk P w K mg base CX0 (k + 1) f fd ["_law_found", "_law_due"] sp_alikeI := ok_alikeI D.F B
  refine D.F.ok c_w_alike (fun vs H Q E h => ?_) (fun cdv A outer s H vs Q E hr h => ?_)
  · obtain ⟨a, b, xs, rfl, _⟩ := h
    rfl
  · obtain ⟨a, b, xs, rfl, hA, hB, hl, q⟩ := h
    refine ⟨_, pss_cons (ps_if (pt_val (pe_callB call_isiT (by rfl) B.isinstance (by decide +kernel) (pa_cons (pv 1) (pa_cons (pe_tup (pa_cons (pe_bltn (v := .ty "tuple") (by rfl) B.tuple (by decide +kernel) rfl)
          (pa_cons (pe_bltn (v := .ty "list") (by rfl) B.list (by decide +kernel) rfl) pa_nil))) pa_nil))))
        (pss_cons (ps_if (PW.pt (pw_or (pt_not (pt_val (pe_callB call_isiT (by rfl) B.isinstance (by decide +kernel) (pa_cons (pv 0) (pa_cons (pe_tup (pa_cons (pe_bltn (v := .ty "tuple") (by rfl) B.tuple (by decide +kernel) rfl)
              (pa_cons (pe_bltn (v := .ty "list") (by rfl) B.list (by decide +kernel) rfl) pa_nil))) pa_nil)))))
            (pw_or1 (pt_cmpR op_ne (pe_callB call_isi (by rfl) B.isinstance (by decide +kernel) (pa_cons (pv 0) (pa_cons (pe_bltn (v := .ty "list") (by rfl) B.list (by decide +kernel) rfl) pa_nil)))
              (pe_callB call_isi (by rfl) B.isinstance (by decide +kernel) (pa_cons (pv 1) (pa_cons (pe_bltn (v := .ty "list") (by rfl) B.list (by decide +kernel) rfl) pa_nil))) (nomark _))))) pss_never pss_nil)
        (pss_cons (ps_if (pt_cmpR op_ne (pe_callB call_len_seq (by rfl) B.len PySem.boot_len (pa_cons (pv 0) pa_nil)) (pe_callB call_len_seq (by rfl) B.len PySem.boot_len (pa_cons (pv 1) pa_nil)) (nomark _)) pss_never pss_nil)
        (pss_one (ps_ret (pe_cmpR (op_eqD hr.units)
          (pe_lc (own := [("_law_k", 2)]) (g := gName 2) rfl c_w_alike.nd (pi_range1 (by rfl) B.range (pa_cons (pe_callB call_len_seq (by rfl) B.len PySem.boot_len (pa_cons (pv 1) pa_nil)) pa_nil)) (blkOk_by (N := N_w_alike) (sc := defScope s_w_alike) (by decide +kernel))
            (fun _ _ _ _ _ => pg_name (i := 2) c_w_alike.nd rfl (Or.inl rfl))
            (fun _ _ _ _ _ => pts_one (pt_not (pt_val (pe_call GI hr (by rfl) D.g D.F.kp D.b .nil pass0 (pa_cons (pe_ix (r := rIxT K) ix_tup (pv 0) (pv 2) (fun _ _ => rfl)) (pa_cons (pe_ix (r := rIxT K) ix_tup (pv 1) (pv 2) (fun _ _ => rfl)) pa_nil))))))
            (fun _ _ _ _ _ => pv 2)) (pe_lst pa_nil) (nomark _)))))) pss_nil)
      pss_never, ?_⟩
    refine ⟨.ref b, rfl, (by decide : 2 ≤ sizeLine), fun t nt => ⟨.ref b, t, _, _, _, true, rfl, upd_same, .cons (.ty _) (.cons (.ty _) .nil), ty_t (sm_tup (sm_upd nt) hB), kit2 (by decide +kernel) (by decide +kernel), true, rfl, iteT ?_⟩⟩
    have s1 : Same H (upd H t (.tup [.ty "tuple", .ty "list"])) := sm_upd nt
    generalize upd H t (.tup [.ty "tuple", .ty "list"]) = H1 at s1
    refine ⟨.ref a, rfl, (by decide : 2 ≤ sizeLine), fun t2 nt2 => ⟨.ref a, t2, _, _, _, true, rfl, upd_same, .cons (.ty _) (.cons (.ty _) .nil), ty_t (sm_tup (sm_new s1 nt2) hA), kit2 (by decide +kernel) (by decide +kernel), true, rfl, iteF ?_⟩⟩
    have s2 : Same H (upd H1 t2 (.tup [.ty "tuple", .ty "list"])) := sm_new s1 nt2
    generalize upd H1 t2 (.tup [.ty "tuple", .ty "list"]) = H2 at s2
    refine ⟨.ref a, rfl, .ref a, .ty "list", _, _, false, rfl, .ty _, ty_t (sm_tup s2 hA), kit_ty (by decide +kernel), .ref b, rfl, .ref b, .ty "list", _, _, false, rfl, .ty _, ty_t (sm_tup s2 hB), kit_ty (by decide +kernel), rfl, false, blN rfl, iteF ?_⟩
    refine ⟨.ref a, rfl, a, iv xs, rfl, .inr (sm_tup s2 hA), .ref b, rfl, b, iv xs, rfl, .inr (sm_tup s2 hB), rfl, false, blN rfl, iteF ?_⟩
    refine ⟨.ref b, rfl, b, iv xs, rfl, .inr (sm_tup s2 hB), _, rfl, by rw [iv_len]; omega, by rw [iv_len]; omega, fun D nD => lc_range (lo := 0) (n := _) (fun i H' => Same H2 H' ∧ H' D = some (.lst [])) ⟨sm_upd nD, upd_same⟩ (fun i H' hi h => ?_) (fun H' h => ?_)⟩
    · obtain ⟨s3, eD⟩ := h
      have hi : i < xs.length := by rw [iv_len] at hi; omega
      refine ⟨rfl, .ref a, rfl, .int (0 + (i : Nat)), rfl, a, _, _, _, rfl, rfl, sm_tup (s2.trans s3) hA, iv_ix (j := i) (by omega) hi, .ref b, rfl, .int (0 + (i : Nat)), rfl, b, _, _, _, rfl, rfl, sm_tup (s2.trans s3) hB, iv_ix (j := i) (by omega) hi,
        _, rfl, fun H'' s4 => ⟨true, rfl, iteF ⟨s3.trans s4, s4 _ _ eD⟩⟩⟩
    · obtain ⟨s3, eD⟩ := h
      refine ⟨Nat.zero_le _, fun l nl => ⟨.list [], .list [], .lst (.inl (.inl (at_new nl eD))) .nil, .lst (.inl (.inl upd_same)) .nil, sh_l, sh_l, ?_⟩⟩
      rw [eq_l]
      exact q _ (s2.trans (sm_new s3 nl))
end
end KW

namespace KW
open PySem PySem.Spec PyProof.Rows L2 K1
section
variable {P : Program} {w : World} {K : PySem.W.Frag} {mg : Str → Option Value} {base : Heap}
/-! ### _law_times -/
theorem ok_wtimes {f fT : Addr} {fd fdT : FuncData} {k : Nat} (F : Fun K "_law_times" "_law_times" s_w_times f fd) (B : Bl mg) (DT : Df K mg "_law_trim" s_w_trim ["_law_some_here"] fT fdT) :
    FnOk P w K mg base CX0 (k + 2) f fd ["_law_p", "_law_one", "_law_other"] (sp_times K) := by
  have GT : FnOk P w K mg base CX0 (k + 1) fT fdT ["_law_some_here"] (sp_wtrim K) := ok_wtrim DT.F B
  refine F.ok c_w_times (fun vs H Q E h => ?_) (fun cdv A outer s H vs Q E hr h => ?_)
  · obtain ⟨p, a, b, xs, ys, rfl, _⟩ := h
    rfl
  · obtain ⟨p, a, b, xs, ys, rfl, hp, hp2, hx, hA, hB, la, lb, q⟩ := h
    refine ⟨_, pss_cons (ps_if (PW.pt (pw_or (pt_cmpR (op_eqD hr.units) (pv 1) (pe_tup pa_nil) (nomark _)) (pw_or1 (pt_cmpR (op_eqD hr.units) (pv 2) (pe_tup pa_nil) (nomark _))))) (pss_one (ps_ret (pe_tup pa_nil))) pss_nil)
      (pss_cons (ps_set (i := 3) c_w_times.nd rfl (.inl rfl) (pe_op op_rep (pe_lst (pa_cons pe_int pa_nil))
        (pe_op op_sub (pe_op op_add (pe_callB call_len_seq (by rfl) B.len PySem.boot_len (pa_cons (pv 1) pa_nil)) (pe_callB call_len_seq (by rfl) B.len PySem.boot_len (pa_cons (pv 2) pa_nil))) pe_int)))
      (pss_cons (ps_for PassesOwn.never rfl (pi_range1 (by rfl) B.range (pa_cons (pe_callB call_len_seq (by rfl) B.len PySem.boot_len (pa_cons (pv 1) pa_nil)) pa_nil)) (pg_name (i := 4) c_w_times.nd rfl (.inl rfl))
        (pss_one (ps_for PassesOwn.never rfl (pi_range1 (by rfl) B.range (pa_cons (pe_callB call_len_seq (by rfl) B.len PySem.boot_len (pa_cons (pv 2) pa_nil)) pa_nil)) (pg_name (i := 5) c_w_times.nd rfl (.inl rfl))
          (pss_one (ps_asg (pe_op op_mod (pe_callTy call_int1 (by rfl) B.int (by decide +kernel) (pa_cons (pe_op op_add (pe_ix ix_list (pv 3) (pe_op op_add (pv 4) (pv 5)) (fun _ _ => rfl))
              (pe_op op_mul (pe_ix ix_tup (pv 1) (pv 4) (fun _ _ => rfl)) (pe_ix ix_tup (pv 2) (pv 5) (fun _ _ => rfl)))) pa_nil)) (pv 0)) (pg_sub (pv 3) (pe_op op_add (pv 4) (pv 5)) set_list))))))
      (pss_one (ps_ret (pe_call GT hr (by rfl) DT.g DT.F.kp DT.b .nil pass0 (pa_cons (pv 3) pa_nil)))))), ?_⟩
    refine ⟨.ref a, rfl, Nat.zero_le _, fun t1 n1 => ⟨dt xs, dt [], dp_t (sm_tup (sm_upd n1) hA), dp_t (xs := []) (.inl (.inl upd_same)), sh_t _, sh_t _, _, rfl, ?_⟩⟩
    have s1 : Same H (upd H t1 (.tup [])) := sm_upd n1
    generalize upd H t1 (.tup []) = H1 at s1
    rw [eq_t]
    refine ite2 (fun e => iteT ⟨Nat.zero_le _, fun t nt => q _ t (sm_new s1 nt) ?_⟩) (fun ex => ?_)
    · rw [times_nil (.inl (of_decide_eq_true e))]
      exact .inl (.inl upd_same)
    refine ⟨.ref b, rfl, Nat.zero_le _, fun t2 n2 => ⟨dt ys, dt [], dp_t (sm_tup (sm_new s1 n2) hB), dp_t (xs := []) (.inl (.inl upd_same)), sh_t _, sh_t _, _, rfl, ?_⟩⟩
    have s2 : Same H (upd H1 t2 (.tup [])) := sm_new s1 n2
    generalize upd H1 t2 (.tup []) = H2 at s2
    rw [eq_t]
    refine ite2 (fun e => ⟨Nat.zero_le _, fun t nt => q _ t (sm_new s2 nt) ?_⟩) (fun ey => ?_)
    · rw [times_nil (.inr (of_decide_eq_true e))]
      exact .inl (.inl upd_same)
    have nx : xs ≠ [] := fun z => ex (decide_eq_true z)
    have ny : ys ≠ [] := fun z => ey (decide_eq_true z)
    have lx : 0 < xs.length := List.length_pos_iff.mpr nx
    have ly : 0 < ys.length := List.length_pos_iff.mpr ny
    rw [times_prod nx ny] at q
    refine ⟨small (by decide), fun z1 m1 => ⟨.ref a, rfl, a, iv xs, rfl, .inr (sm_tup (sm_new s2 m1) hA), .ref b, rfl, b, iv ys, rfl, .inr (sm_tup (sm_new s2 m1) hB), _, _, rfl, rfl, _, 1, rfl, rfl, z1, _, _, rfl, rfl, upd_same,
      by rw [iv_len, iv_len]; omega, by rw [iv_len, iv_len]; omega, small (by rw [iv_len, iv_len, List.length_singleton]; omega), fun fo nfo => ?_⟩⟩
    rw [show (((iv xs).length : Int) + ((iv ys).length : Int) - 1).toNat = xs.length + ys.length - 1 by rw [iv_len, iv_len]; omega, rep_zero]
    have nf2 : H fo = none := (sm_new s2 m1).free nfo
    have s3 : Same H (upd (upd H2 z1 (.lst [.int 0])) fo (.lst (iv (List.replicate (xs.length + ys.length - 1) 0)))) := sm_new (sm_new s2 m1) nfo
    have g3 : (upd (upd H2 z1 (.lst [.int 0])) fo (.lst (iv (List.replicate (xs.length + ys.length - 1) 0)))) fo = some (.lst (iv (outT p xs ys 0 (List.replicate (xs.length + ys.length - 1) 0)))) := upd_same
    generalize (upd (upd H2 z1 (.lst [.int 0])) fo (.lst (iv (List.replicate (xs.length + ys.length - 1) 0)))) = H3 at s3 g3
    generalize hZ : List.replicate (xs.length + ys.length - 1) (0 : Int) = Z at g3
    have lZ : Z.length = xs.length + ys.length - 1 := by rw [← hZ, List.length_replicate]
    -- for at in range(len(one))
    refine ⟨.ref a, rfl, a, iv xs, rfl, .inr (sm_tup s3 hA), _, rfl, by rw [iv_len]; omega, by rw [iv_len]; omega, for_range (lo := 0) (n := _) (fun i σ H' => Same H H' ∧ H' fo = some (.lst (iv (outT p xs ys i Z))) ∧
        ∃ y4 y5, σ = [some (.int p), some (.ref a), some (.ref b), some (.ref fo), y4, y5])
      ⟨s3, g3, none, none, rfl⟩ (fun i σ H' hi h => ?_) (fun σ H' h => ?_)⟩
    · obtain ⟨s4, g4, y4, y5, rfl⟩ := h
      have hi : i < xs.length := by rw [iv_len] at hi; omega
      have bx := hx.cf hp i
      have lo : (outT p xs ys i Z).length = xs.length + ys.length - 1 := by rw [outT_len, lZ]
      -- for place in range(len(other))
      refine ⟨.ref b, rfl, b, iv ys, rfl, .inr (sm_tup s4 hB), _, rfl, by rw [iv_len]; omega, by rw [iv_len]; omega, for_range (lo := 0) (n := _) (fun j σ H' => Same H H' ∧ H' fo = some (.lst (iv (inT p (cf xs i) i ys j (outT p xs ys i Z)))) ∧
          ∃ y5, σ = [some (.int p), some (.ref a), some (.ref b), some (.ref fo), some (.int (0 + (i : Nat))), y5])
        ⟨s4, g4, y5, rfl⟩ (fun j σ H' hj h => ?_) (fun σ H' h => ?_)⟩
      · obtain ⟨s7, g7, z5, rfl⟩ := h
        have hj : j < ys.length := by rw [iv_len] at hj; omega
        have lt : i + j < (inT p (cf xs i) i ys j (outT p xs ys i Z)).length := by rw [inT_len, lo]; omega
        refine ⟨.ref fo, rfl, .int (0 + (i : Nat)), rfl, .int (0 + (j : Nat)), rfl, _, _, rfl, rfl, fo, _, _, _, rfl, rfl, .inl (.inl g7), iv_ix (j := i + j) (by omega) lt,
          .ref a, rfl, .int (0 + (i : Nat)), rfl, a, _, _, _, rfl, rfl, sm_tup s7 hA, iv_ix (j := i) (by omega) hi, .ref b, rfl, .int (0 + (j : Nat)), rfl, b, _, _, _, rfl, rfl, sm_tup s7 hB, iv_ix (j := j) (by omega) hj, _, _, rfl, rfl, .inl ⟨by omega, by omega⟩,
          _, _, rfl, rfl, .inl ⟨_, rfl, .int p, rfl, _, _, rfl, rfl, hp, .ref fo, rfl, .int (0 + (i : Nat)), rfl, .int (0 + (j : Nat)), rfl, _, _, rfl, rfl, fo, _, _, i + j, rfl, rfl, g7, ix_n (by omega) (by rw [iv_len]; exact lt), ?_⟩⟩
        refine ⟨sm_own s7 nf2, ?_, _, rfl⟩
        rw [upd_same, iv_set]
        rfl
      · obtain ⟨s6, g6, z5, rfl⟩ := h
        rw [Int.toNat_natCast, iv_len] at g6
        exact ⟨s6, g6, _, _, rfl⟩
    · obtain ⟨s4, g4, y4, y5, rfl⟩ := h
      rw [Int.toNat_natCast, iv_len, ← hZ] at g4
      exact ⟨.ref fo, rfl, fo, prodL p xs ys, rfl, .inl (.inl (.inl g4)), by rw [prodL_len]; omega, fun H' r sr hR => q _ _ (s4.trans sr) hR⟩
end
end KW

namespace KW
open PySem PySem.Spec PyProof.Rows L2 K1
section
variable {P : Program} {w : World} {K : PySem.W.Frag} {mg : Str → Option Value} {base : Heap}
/-! ### the draws: the row of four is the one thing that is written -/
def Scr (K : PySem.W.Frag) (H : Hp) (s : Addr) (ns : List Int) : Prop :=
  (∃ o, H s = some (.frz o (.lst (iv ns)))) ∨ (∃ (o : Obj) (its : Array Value) (n : Nat), K.lookup s = some o ∧ o.cls = .type "list" ∧ o.dict = none ∧ o.data = .seq its n ∧ its.size ≤ sizeLine ∧ Vals (iv ns) its.toList)
theorem Scr.seq {H : Hp} {s : Addr} {ns : List Int} (h : Scr K H s ns) : SqL K H s (iv ns) := by
  rcases h with ⟨o, h⟩ | h
  · exact .inl (.inr ⟨o, h⟩)
  · exact .inr h
theorem Scr.sx {H H' : Hp} {s r : Addr} {ns : List Int} {xs : List V} (h : Scr K H s ns) (e : SameX r H H') (hr : H r = some (.lst xs)) : Scr K H' s ns := by
  rcases h with ⟨o, h⟩ | h
  · exact .inl ⟨o, e _ _ (ne_of h hr (by intro z; cases z)) h⟩
  · exact .inr h
def Row (K : PySem.W.Frag) (H : Hp) (r : Addr) : Prop := ∃ (s : Addr) (ns : List Int) (i m c : Int), H r = some (.lst [.ref s, .int i, .int m, .int c]) ∧ Scr K H s ns ∧ ns.length ≤ 63 ∧ 0 ≤ i
/-- another list is written, or new things are laid -/
theorem Row.sx {H H' : Hp} {r D : Addr} {xs : List V} (h : Row K H r) (e : SameX D H H') (n : r ≠ D) (hD : H D = some (.lst xs)) : Row K H' r := by
  obtain ⟨s, ns, i, m, c, h1, h2, h3, h4⟩ := h
  exact ⟨s, ns, i, m, c, e _ _ n h1, h2.sx e hD, h3, h4⟩
theorem Row.same {H H' : Hp} {r : Addr} (h : Row K H r) (e : Same H H') : Row K H' r := by
  obtain ⟨s, ns, i, m, c, h1, h2, h3, h4⟩ := h
  exact ⟨s, ns, i, m, c, e _ _ h1, h2.sx (SameX.of (r := r) e) h1, h3, h4⟩
theorem Row.lst {H : Hp} {r : Addr} (h : Row K H r) : ∃ xs, H r = some (.lst xs) := let ⟨_, _, _, _, _, h1, _⟩ := h; ⟨_, h1⟩
def sp_taken (K : PySem.W.Frag) : Sp := fun vs H Q _ => ∃ (r : Addr) (many : Int), vs = [.ref r, .int many] ∧ Row K H r ∧ 0 < many ∧ many < 1000 ∧ ∀ (H' : Hp) (v : Int), SameX r H H' → Row K H' r → 0 ≤ v → v < many → Q (.int v) H'
theorem ok_taken {f : Addr} {fd : FuncData} {k : Nat} (F : Fun K "_law_taken" "_law_taken" s_w_taken f fd) (B : Bl mg) : FnOk P w K mg base CX0 (k + 1) f fd ["_law_row", "_law_many"] (sp_taken K) := by
  refine F.ok c_w_taken (fun vs H Q E h => ?_) (fun cdv A outer s H vs Q E hr h => ?_)
  · obtain ⟨r, m, rfl, _⟩ := h
    rfl
  · obtain ⟨r, many, rfl, ⟨sc, ns, i, m, c, hR, hS, hl, hi⟩, m0, m1, q⟩ := h
    refine ⟨_, pss_cons (ps_if (pt_cmpR op_gt (pe_ix ix_list (pv 0) pe_int (fun _ _ => rfl)) pe_int (nomark _))
        (pss_cons (ps_set (i := 2) c_w_taken.nd rfl (.inl rfl) (pe_op op_mod (pe_callTy call_int1 (by rfl) B.int (by decide +kernel) (pa_cons (pe_ix ix_list (pv 0) pe_int (fun _ _ => rfl)) pa_nil)) (pv 1)))
        (pss_cons (ps_asg (pe_op op_fdiv (pe_ix ix_list (pv 0) pe_int (fun _ _ => rfl)) (pv 1)) (pg_sub (pv 0) pe_int set_list))
        (pss_one (ps_ret (pv 2))))) pss_nil)
      (pss_cons (ps_asg (pe_op op_add (pe_ix ix_list (pv 0) pe_int (fun _ _ => rfl)) pe_int) (pg_sub (pv 0) pe_int set_list))
      (pss_cons (ps_if (pt_cmpR op_gt (pe_ix ix_list (pv 0) pe_int (fun _ _ => rfl)) (pe_callB call_len_seq (by rfl) B.len PySem.boot_len (pa_cons (pe_ix ix_list (pv 0) pe_int (fun _ _ => rfl)) pa_nil)) (nomark _))
        (pss_cons (ps_asg (pe_op op_mod (pe_callTy call_int1 (by rfl) B.int (by decide +kernel) (pa_cons (pe_op op_add (pe_op op_mul (pe_ix ix_list (pv 0) pe_int (fun _ _ => rfl)) pe_int) pe_int) pa_nil)) pe_int) (pg_sub (pv 0) pe_int set_list))
        (pss_one (ps_ret (pe_op op_mod (pe_callTy call_int1 (by rfl) B.int (by decide +kernel) (pa_cons (pe_op op_fdiv (pe_ix ix_list (pv 0) pe_int (fun _ _ => rfl)) pe_int) pa_nil)) (pv 1))))) pss_nil)
      (pss_cons (ps_set (i := 3) c_w_taken.nd rfl (.inl rfl) (pe_ix ix_list (pe_ix ix_list (pv 0) pe_int (fun _ _ => rfl)) (pe_op op_sub (pe_ix ix_list (pv 0) pe_int (fun _ _ => rfl)) pe_int) (fun _ _ => rfl)))
      (pss_cons (ps_asg (pe_op op_mod (pe_callTy call_int1 (by rfl) B.int (by decide +kernel) (pa_cons (pe_op op_add (pe_op op_add (pe_op op_mul (pe_ix ix_list (pv 0) pe_int (fun _ _ => rfl)) pe_int) (pv 3)) pe_int) pa_nil)) pe_int) (pg_sub (pv 0) pe_int set_list))
      (pss_cons (ps_if (pt_cmpR op_ge (pv 3) (pe_op op_pow pe_int pe_int) (nomark _))
        (pss_one (ps_asg (pe_op op_fdiv (pv 3) (pv 1)) (pg_sub (pv 0) pe_int set_list))) pss_nil)
      (pss_one (ps_ret (pe_op op_mod (pe_callTy call_int1 (by rfl) B.int (by decide +kernel) (pa_cons (pv 3) pa_nil)) (pv 1))))))))), ?_⟩
    have fin : ∀ (H' : Hp) (i' m' c' v : Int), SameX r H H' → H' r = some (.lst [.ref sc, .int i', .int m', .int c']) → 0 ≤ i' → Q (.int (v % many)) H' := fun H' i' m' c' v sx h1 h2 =>
      q H' _ sx ⟨sc, ns, i', m', c', h1, hS.sx sx hR, hl, h2⟩ (Int.emod_nonneg _ (by omega)) (Int.emod_lt_of_pos _ m0)
    refine ⟨.ref r, rfl, r, _, 3, _, rfl, rfl, .inl (.inl hR), rfl, _, _, rfl, rfl, _, rfl, ite2 (fun _ => ?_) (fun _ => ?_)⟩
    · -- a great cell's rest
      refine ⟨.ref r, rfl, r, _, 3, _, rfl, rfl, .inl (.inl hR), rfl, .inl ⟨_, rfl, .int many, rfl, _, _, rfl, rfl, m0, .ref r, rfl, r, _, 3, _, rfl, rfl, .inl (.inl hR), rfl, .int many, rfl, _, _, rfl, rfl, ⟨m0, by omega⟩, .ref r, rfl,
        r, _, 3, 3, rfl, rfl, hR, rfl, ?_⟩⟩
      exact ⟨_, rfl, fin _ i m (c / many) c SameX.set upd_same hi⟩
    · refine ⟨.ref r, rfl, r, _, 1, _, rfl, rfl, .inl (.inl hR), rfl, _, _, rfl, rfl, .ref r, rfl, r, _, 1, 1, rfl, rfl, hR, rfl, ?_⟩
      have x1 : SameX r H (upd H r (.lst [.ref sc, .int (i + 1), .int m, .int c])) := SameX.set
      have r1 : (upd H r (.lst [.ref sc, .int (i + 1), .int m, .int c])) r = some (.lst [.ref sc, .int (i + 1), .int m, .int c]) := upd_same
      show tSeq _ _ _ _ (upd H r (.lst [.ref sc, .int (i + 1), .int m, .int c]))
      generalize upd H r (.lst [.ref sc, .int (i + 1), .int m, .int c]) = H1 at x1 r1
      have S1 : SqL K H1 sc (iv ns) := (hS.sx x1 hR).seq
      refine ⟨.ref r, rfl, r, _, 1, _, rfl, rfl, .inl (.inl r1), rfl, .ref r, rfl, r, _, 0, _, rfl, rfl, .inl (.inl r1), rfl, sc, iv ns, rfl, .inl S1, _, _, rfl, rfl, _, rfl, ite2 (fun _ => ?_) (fun ge => ?_)⟩
      · -- behind the script's end
        refine ⟨.ref r, rfl, r, _, 2, _, rfl, rfl, .inl (.inl r1), rfl, _, 48271, rfl, rfl, .inr ⟨by decide, by decide⟩, _, 11, rfl, rfl, .inl ⟨_, rfl, _, 2147483647, rfl, rfl, (by decide : (0 : Int) < 2147483647), .ref r, rfl, r, _, 2, 2, rfl, rfl, r1, rfl, ?_⟩⟩
        refine ⟨.ref r, rfl, r, _, 2, _, rfl, rfl, .inl (.inl upd_same), rfl, _, 7, rfl, rfl, ⟨by decide, by decide⟩, .inl ⟨_, rfl, .int many, rfl, _, _, rfl, rfl, m0, ?_⟩⟩
        exact fin _ (i + 1) _ c _ (x1.trans SameX.set) upd_same (by omega)
      · have ge2 : ¬ ((ns.length : Int) < i + 1) := fun z => ge (by rw [decide_eq_true]; rw [iv_len]; exact z)
        refine ⟨.ref r, rfl, r, _, 0, _, rfl, rfl, .inl (.inl r1), rfl, .ref r, rfl, r, _, 1, _, rfl, rfl, .inl (.inl r1), rfl, _, 1, rfl, rfl, sc, iv ns, _, _, rfl, rfl, S1, iv_ix (j := i.toNat) (by omega) (by omega), ?_⟩
        generalize cf ns i.toNat = x
        refine ⟨.ref r, rfl, r, _, 2, _, rfl, rfl, .inl (.inl r1), rfl, _, 48271, rfl, rfl, .inr ⟨by decide, by decide⟩, .int x, rfl, _, _, rfl, rfl, _, 11, rfl, rfl, .inl ⟨_, rfl, _, 2147483647, rfl, rfl, (by decide : (0 : Int) < 2147483647), .ref r, rfl, r, _, 2, 2, rfl, rfl, r1, rfl, ?_⟩⟩
        refine ⟨.int x, rfl, 10, 18, rfl, rfl, ⟨by decide, by decide, by decide⟩, _, _, rfl, rfl, _, rfl, ite2 (fun _ => ?_) (fun _ => ?_)⟩
        · refine ⟨.int x, rfl, .int many, rfl, _, _, rfl, rfl, ⟨m0, by omega⟩, .ref r, rfl, r, _, 3, 3, rfl, rfl, upd_same, rfl, ?_⟩
          exact ⟨.int x, rfl, .inl ⟨_, rfl, .int many, rfl, _, _, rfl, rfl, m0, fin _ (i + 1) _ _ x ((x1.trans SameX.set).trans SameX.set) upd_same (by omega)⟩⟩
        · exact ⟨.int x, rfl, .inl ⟨_, rfl, .int many, rfl, _, _, rfl, rfl, m0, fin _ (i + 1) _ _ x (x1.trans SameX.set) upd_same (by omega)⟩⟩
end
end KW

namespace KW
open PySem PySem.Spec PyProof.Rows L2 K1
section
variable {P : Program} {w : World} {K : PySem.W.Frag} {mg : Str → Option Value} {base : Heap}
/-! ### _law_pick, _law_prime, _law_poly, _law_some -/
def sp_pick (K : PySem.W.Frag) : Sp := fun vs H Q _ => ∃ (r t : Addr) (xs : List Int), vs = [.ref r, .ref t] ∧ Row K H r ∧ H t = some (.lst (iv xs)) ∧ t ≠ r ∧ 0 < xs.length ∧ xs.length ≤ 100 ∧ ∀ (H' : Hp) (j : Nat), SameX r H H' → Row K H' r → j < xs.length → Q (.int (cf xs j)) H'
theorem ok_pick {f fT : Addr} {fd fdT : FuncData} {k : Nat} (F : Fun K "_law_pick" "_law_pick" s_w_pick f fd) (B : Bl mg) (DT : Df K mg "_law_taken" s_w_taken ["_law_row", "_law_many"] fT fdT) :
    FnOk P w K mg base CX0 (k + 2) f fd ["_law_row", "_law_things"] (sp_pick K) := by
  have GT : FnOk P w K mg base CX0 (k + 1) fT fdT ["_law_row", "_law_many"] (sp_taken K) := ok_taken DT.F B
  refine F.ok c_w_pick (fun vs H Q E h => ?_) (fun cdv A outer s H vs Q E hr h => ?_)
  · obtain ⟨r, m, xs, rfl, _⟩ := h
    rfl
  · obtain ⟨r, t, xs, rfl, hR, hT, ne, l0, l1, q⟩ := h
    refine ⟨_, pss_one (ps_ret (pe_ix ix_list (pv 1) (pe_call GT hr (by rfl) DT.g DT.F.kp DT.b .nil pass0 (pa_cons (pv 0) (pa_cons (pe_callB call_len_seq (by rfl) B.len PySem.boot_len (pa_cons (pv 1) pa_nil)) pa_nil))) (fun _ _ => rfl))), ?_⟩
    refine ⟨.ref t, rfl, .ref r, rfl, .ref t, rfl, t, iv xs, rfl, .inl (.inl (.inl hT)), r, _, rfl, hR, by rw [iv_len]; omega, by rw [iv_len]; omega, fun H' v sx R' v0 v1 => ?_⟩
    rw [iv_len] at v1
    exact ⟨t, iv xs, v, _, rfl, rfl, .inl (.inl (sx _ _ ne hT)), iv_ix (j := v.toNat) (by omega) (by omega), q H' v.toNat sx R' (by omega)⟩
def sp_prime (K : PySem.W.Frag) : Sp := fun vs H Q _ => ∃ r : Addr, vs = [.ref r] ∧ Row K H r ∧ ∀ (H' : Hp) (p : Int), SameX r H H' → Row K H' r → Pr p → Q (.int p) H'
def menu : List Int := [2, 2, 3, 3, 5, 7, 13]
theorem menu_pr {j : Nat} (h : j < menu.length) : Pr (cf menu j) := by
  have key : ∀ i, i < 7 → cf menu i = 2 ∨ cf menu i = 3 ∨ cf menu i = 5 ∨ cf menu i = 7 ∨ cf menu i = 13 := by decide
  exact key j h
theorem ok_prime {f fP fT : Addr} {fd fdP fdT : FuncData} {k : Nat} (F : Fun K "_law_prime" "_law_prime" s_w_prime f fd) (B : Bl mg) (DT : Df K mg "_law_taken" s_w_taken ["_law_row", "_law_many"] fT fdT)
    (DP : Df K mg "_law_pick" s_w_pick ["_law_row", "_law_things"] fP fdP) : FnOk P w K mg base CX0 (k + 3) f fd ["_law_row"] (sp_prime K) := by
  have GP : FnOk P w K mg base CX0 (k + 2) fP fdP ["_law_row", "_law_things"] (sp_pick K) := ok_pick DP.F B DT
  refine F.ok c_w_prime (fun vs H Q E h => ?_) (fun cdv A outer s H vs Q E hr h => ?_)
  · obtain ⟨r, rfl, _⟩ := h
    rfl
  · obtain ⟨r, rfl, hR, q⟩ := h
    refine ⟨_, pss_one (ps_ret (pe_call GP hr (by rfl) DP.g DP.F.kp DP.b .nil pass0 (pa_cons (pv 0) (pa_cons (pe_lst (pa_cons pe_int (pa_cons pe_int (pa_cons pe_int (pa_cons pe_int (pa_cons pe_int (pa_cons pe_int (pa_cons pe_int pa_nil)))))))) pa_nil)))), ?_⟩
    refine ⟨.ref r, rfl, (by decide : 7 ≤ sizeLine), fun t nt => ⟨r, t, menu, rfl, hR.same (sm_upd nt), upd_same, ?_, by decide, by decide, fun H' j sx R' hj => ?_⟩⟩
    · obtain ⟨xs, h⟩ := hR.lst
      exact (ne_of_none h nt).symm
    · exact q H' _ ((SameX.of (sm_upd nt)).trans sx) R' (menu_pr hj)
def sp_poly (K : PySem.W.Frag) : Sp := fun vs H Q _ => ∃ (r : Addr) (p most : Int), vs = [.ref r, .int p, .int most] ∧ Row K H r ∧ 2 ≤ p ∧ p ≤ 100 ∧ 0 ≤ most ∧ most ≤ 100 ∧
  ∀ (H' : Hp) (a : Addr) (xs : List Int), SameX r H H' → Row K H' r → SqT K H' a (iv xs) → Can p xs → (xs.length : Int) ≤ most + 1 → Q (.ref a) H'
theorem ok_poly {f fR fT : Addr} {fd fdR fdT : FuncData} {k : Nat} (F : Fun K "_law_poly" "_law_poly" s_w_poly f fd) (B : Bl mg) (DT : Df K mg "_law_taken" s_w_taken ["_law_row", "_law_many"] fT fdT)
    (DR : Df K mg "_law_trim" s_w_trim ["_law_some_here"] fR fdR) : FnOk P w K mg base CX0 (k + 2) f fd ["_law_row", "_law_p", "_law_most"] (sp_poly K) := by
  have GT : FnOk P w K mg base CX0 (k + 1) fT fdT ["_law_row", "_law_many"] (sp_taken K) := ok_taken DT.F B
  have GR : FnOk P w K mg base CX0 (k + 1) fR fdR ["_law_some_here"] (sp_wtrim K) := ok_wtrim DR.F B
  refine F.ok c_w_poly (fun vs H Q E h => ?_) (fun cdv A outer s H vs Q E hr h => ?_)
  · obtain ⟨r, p, m, rfl, _⟩ := h
    rfl
  · obtain ⟨r, p, most, rfl, hR, p1, p2, m1, m2, q⟩ := h
    refine ⟨_, pss_one (ps_ret (pe_call GR hr (by rfl) DR.g DR.F.kp DR.b .nil pass0 (pa_cons
      (pe_lc (own := [("_law_at", 3)]) (g := gName 3) (tt := tYes) rfl c_w_poly.nd (pi_range1 (by rfl) B.range (pa_cons (pe_call GT hr (by rfl) DT.g DT.F.kp DT.b .nil pass0 (pa_cons (pv 0) (pa_cons (pe_op op_add (pv 2) pe_int) pa_nil))) pa_nil))
        (blkOk_by (N := N_w_poly) (sc := defScope s_w_poly) (by decide +kernel)) (fun _ _ _ _ _ => pg_name (i := 3) c_w_poly.nd rfl (Or.inl rfl)) (fun _ _ _ _ _ => pts_nil)
        (fun _ _ _ _ _ => pe_call GT hr (by rfl) DT.g DT.F.kp DT.b .nil pass0 (pa_cons (pv 0) (pa_cons (pv 1) pa_nil)))) pa_nil))), ?_⟩
    refine ⟨.ref r, rfl, .int most, rfl, most, 2, rfl, rfl, r, _, rfl, hR, by omega, by omega, fun H1 n x1 R1 n0 n1 => ⟨n, rfl, by omega, by omega, fun D nD => ?_⟩⟩
    obtain ⟨rs, hrs⟩ := hR.lst
    obtain ⟨rs1, hrs1⟩ := R1.lst
    have nr : r ≠ D := ne_of_none hrs1 nD
    refine lc_range (lo := 0) (n := _) (fun i H' => SameX r H H' ∧ Row K H' r ∧ ∃ acc, H' D = some (.lst (iv acc)) ∧ acc.length = i ∧ Rg p acc) ⟨x1.trans (SameX.of (sm_upd nD)), R1.same (sm_upd nD), [], upd_same, rfl, fun _ z => nomatch z⟩
      (fun i H' hi h => ?_) (fun H' h => ?_)
    · obtain ⟨x2, R2, acc, eD, la, ra⟩ := h
      refine ⟨rfl, lcT ⟨.ref r, rfl, .int p, rfl, r, p, rfl, R2, by omega, by omega, fun H2 v x3 R3 v0 v1 => ⟨iv acc, x3 _ _ nr.symm eD, ?_, ?_, ?_, acc ++ [v], ?_, ?_, ?_⟩⟩⟩
      · rw [iv_len]
        exact small1000 (by omega)
      · exact fun b o nb e => by
          have e1 := x1 _ _ nb e
          rw [upd_ne (ne_of_none e1 nD)]
          exact x3 _ _ nb (x2 _ _ nb e)
      · exact R3.sx (D := D) SameX.set nr (x3 _ _ nr.symm eD)
      · rw [upd_same]
        unfold iv
        rw [List.map_append]
        rfl
      · rw [List.length_append, la]
        rfl
      · exact fun y hy => by
          rcases List.mem_append.mp hy with hy | hy
          · exact ra y hy
          · rw [List.mem_singleton.mp hy]
            exact ⟨v0, v1⟩
    · obtain ⟨x2, R2, acc, eD, la, ra⟩ := h
      refine ⟨D, acc, rfl, .inl (.inl (.inl eD)), by omega, fun H' a sa hA => q H' a (trim acc) (x2.trans (SameX.of sa)) (R2.same sa) hA (trim_can ra) ?_⟩
      have := trim_le acc
      omega
def sp_some (K : PySem.W.Frag) : Sp := fun vs H Q _ => ∃ (r : Addr) (p most : Int), vs = [.ref r, .int p, .int most] ∧ Row K H r ∧ 2 ≤ p ∧ p ≤ 100 ∧ 0 ≤ most ∧ most ≤ 100 ∧
  ∀ (H' : Hp) (a : Addr) (xs : List Int), SameX r H H' → Row K H' r → SqT K H' a (iv xs) → Can p xs → (xs.length : Int) ≤ most + 1 → 0 < xs.length → Q (.ref a) H'
theorem ok_some {f fP fR fT : Addr} {fd fdP fdR fdT : FuncData} {k : Nat} (F : Fun K "_law_some" "_law_some" s_w_some f fd) (B : Bl mg) (DT : Df K mg "_law_taken" s_w_taken ["_law_row", "_law_many"] fT fdT)
    (DR : Df K mg "_law_trim" s_w_trim ["_law_some_here"] fR fdR) (DP : Df K mg "_law_poly" s_w_poly ["_law_row", "_law_p", "_law_most"] fP fdP) : FnOk P w K mg base CX0 (k + 3) f fd ["_law_row", "_law_p", "_law_most"] (sp_some K) := by
  have GP : FnOk P w K mg base CX0 (k + 2) fP fdP ["_law_row", "_law_p", "_law_most"] (sp_poly K) := ok_poly DP.F B DT DR
  refine F.ok c_w_some (fun vs H Q E h => ?_) (fun cdv A outer s H vs Q E hr h => ?_)
  · obtain ⟨r, p, m, rfl, _⟩ := h
    rfl
  · obtain ⟨r, p, most, rfl, hR, p1, p2, m1, m2, q⟩ := h
    refine ⟨_, pss_cons (ps_set (i := 3) c_w_some.nd rfl (.inl rfl) (pe_call GP hr (by rfl) DP.g DP.F.kp DP.b .nil pass0 (pa_cons (pv 0) (pa_cons (pv 1) (pa_cons (pv 2) pa_nil)))))
      (pss_one (ps_ret (pe_ifExp (pt_cmpR (op_neD hr.units) (pv 3) (pe_tup pa_nil) (nomark _)) (pv 3) (pe_tup (pa_cons pe_int pa_nil))))), ?_⟩
    refine ⟨.ref r, rfl, .int p, rfl, .int most, rfl, r, p, most, rfl, hR, p1, p2, m1, m2, fun H1 a xs x1 R1 hA hc hl => ?_⟩
    refine ⟨.ref a, rfl, Nat.zero_le _, fun t nt => ⟨dt xs, dt [], dp_t (sm_tup (sm_upd nt) hA), dp_t (xs := []) (.inl (.inl upd_same)), sh_t _, sh_t _, _, rfl, ?_⟩⟩
    have s1 : Same H1 (upd H1 t (.tup [])) := sm_upd nt
    generalize upd H1 t (.tup []) = H2 at s1
    rw [eq_t]
    by_cases e : xs = []
    · rw [decide_eq_true e]
      refine iteF ⟨(by decide : 1 ≤ sizeLine), fun u nu => q _ u [1] (x1.trans (SameX.of (sm_new s1 nu))) (R1.same (sm_new s1 nu)) (.inl (.inl upd_same)) ⟨fun y hy => ?_, .inr (by decide)⟩ (by show (1 : Int) ≤ most + 1; omega) (by decide)⟩
      rw [List.mem_singleton.mp hy]
      exact ⟨by decide, by omega⟩
    · rw [decide_eq_false e]
      exact iteT ⟨.ref a, rfl, q _ a xs (x1.trans (SameX.of s1)) (R1.same s1) (sm_tup s1 hA) hc hl (List.length_pos_iff.mpr e)⟩
end
end KW

namespace KW
open PySem PySem.Spec PyProof.Rows L2 K1
/-! ### add, multiply, divide -/
/-- what the three lean on -/
structure Base (K : PySem.W.Frag) (mg : Str → Option Value) : Prop where
  bl : Bl mg
  is_int : ∃ f fd, Df K mg "is_int" s_is_int ["value"] f fd
  is_in : ∃ f fd, Df K mg "is_in" s_is_in ["value", "least", "most"] f fd
  need_prime : ∃ f fd, Df K mg "need_prime" s_need_prime ["value"] f fd
  inverse : ∃ f fd, Df K mg "inverse" s_inverse ["p", "number"] f fd
  is_free : ∃ f fd, Df K mg "is_free" s_is_free ["p", "value"] f fd
  is_poly : ∃ f fd, Df K mg "is_poly" s_is_poly ["p", "value"] f fd
  need_poly : ∃ f fd, Df K mg "need_poly" s_need_poly ["p", "value"] f fd
  trimmed : ∃ f fd, Df K mg "trimmed" s_trimmed ["some"] f fd
  plus : ∃ f fd, Df K mg "plus" s_plus ["p", "one", "other"] f fd
  times : ∃ f fd, Df K mg "times" s_times ["p", "one", "other"] f fd
  parted : ∃ f fd, Df K mg "parted" s_parted ["p", "one", "other"] f fd
  small : ∃ f fd, Df K mg "small" s_small ["one"] f fd
  primes : ∃ a, mg "PRIMES" = some (.ref a) ∧ ∀ H : Hp, SqT K H a (iv PR)
  most : ∃ t, mg "MOST_DEGREE" = some (.int 40 t)
section
variable {P : Program} {w : World} {K : PySem.W.Frag} {mg : Str → Option Value} {base : Heap}
def sp_add (K : PySem.W.Frag) : Sp := fun vs H Q _ => ∃ (p : Int) (a b : Addr) (xs ys : List Int), vs = [.int p, .ref a, .ref b] ∧ Pr p ∧ Can p xs ∧ Can p ys ∧ SqT K H a (iv xs) ∧ SqT K H b (iv ys) ∧ xs.length ≤ 41 ∧ ys.length ≤ 41 ∧ GiveT K H Q (plusL p xs ys)
theorem ok_add {f : Addr} {fd : FuncData} {k : Nat} (F : Fun K "add" "add" s_add f fd) (T : Base K mg) : FnOk P w K mg base CX0 (k + 6) f fd ["p", "one", "other"] (sp_add K) := by
  obtain ⟨f1, d1, D1⟩ := T.is_int
  obtain ⟨f2, d2, D2⟩ := T.is_in
  obtain ⟨f3, d3, D3⟩ := T.need_prime
  obtain ⟨f5, d5, D5⟩ := T.is_free
  obtain ⟨f6, d6, D6⟩ := T.is_poly
  obtain ⟨f7, d7, D7⟩ := T.need_poly
  obtain ⟨f8, d8, D8⟩ := T.trimmed
  obtain ⟨f9, d9, D9⟩ := T.plus
  obtain ⟨aP, gP, hP⟩ := T.primes
  obtain ⟨tM, gM⟩ := T.most
  have GP : FnOk P w K mg base CX0 (k + 5) f3 d3 ["value"] sp_need_prime := (ok_need_prime (k := 0) D3.F T.bl D1 gP hP).mono (by omega)
  have GN : FnOk P w K mg base CX0 (k + 5) f7 d7 ["p", "value"] (sp_need K) := (ok_need_poly (k := 0) D7.F T.bl D1 D2 D5 D6 gM).mono (by omega)
  have GA : FnOk P w K mg base CX0 (k + 5) f9 d9 ["p", "one", "other"] (sp_plus K) := (ok_plus (k := 0) D9.F T.bl D8).mono (by omega)
  refine F.ok c_add (fun vs H Q E h => ?_) (fun cdv A outer s H vs Q E hr h => ?_)
  · obtain ⟨p, a, b, xs, ys, rfl, _⟩ := h
    rfl
  · obtain ⟨p, a, b, xs, ys, rfl, hp, hx, hy, hA, hB, la, lb, q⟩ := h
    refine ⟨_, pss_cons (ps_expr (pe_call GP hr (by rfl) D3.g D3.F.kp D3.b .nil pass0 (pa_cons (pv 0) pa_nil)))
      (pss_cons (ps_expr (pe_call GN hr (by rfl) D7.g D7.F.kp D7.b .nil pass0 (pa_cons (pv 0) (pa_cons (pv 1) pa_nil))))
      (pss_cons (ps_expr (pe_call GN hr (by rfl) D7.g D7.F.kp D7.b .nil pass0 (pa_cons (pv 0) (pa_cons (pv 2) pa_nil))))
      (pss_one (ps_ret (pe_call GA hr (by rfl) D9.g D9.F.kp D9.b .nil pass0 (pa_cons (pv 0) (pa_cons (pv 1) (pa_cons (pv 2) pa_nil)))))))), ?_⟩
    refine ⟨.int p, rfl, p, rfl, hp, .int p, rfl, .ref a, rfl, p, a, xs, rfl, hA, la, hx, fun H1 s1 => ⟨.int p, rfl, .ref b, rfl, p, b, ys, rfl, sm_tup s1 hB, lb, hy, fun H2 s2 => ?_⟩⟩
    have s3 := s1.trans s2
    exact ⟨.int p, rfl, .ref a, rfl, .ref b, rfl, p, a, b, xs, ys, rfl, by have := hp.pos; omega, sm_tup s3 hA, sm_tup s3 hB, by omega, by omega, fun H' c sc hC => q H' c (s3.trans sc) hC⟩
def sp_mult (K : PySem.W.Frag) : Sp := fun vs H Q _ => ∃ (p : Int) (a b : Addr) (xs ys : List Int), vs = [.int p, .ref a, .ref b] ∧ Pr p ∧ Can p xs ∧ Can p ys ∧ SqT K H a (iv xs) ∧ SqT K H b (iv ys) ∧ xs.length ≤ 20 ∧ ys.length ≤ 20 ∧ GiveT K H Q (timesL p xs ys)
theorem ok_multiply {f : Addr} {fd : FuncData} {k : Nat} (F : Fun K "multiply" "multiply" s_multiply f fd) (T : Base K mg) : FnOk P w K mg base CX0 (k + 6) f fd ["p", "one", "other"] (sp_mult K) := by
  obtain ⟨f1, d1, D1⟩ := T.is_int
  obtain ⟨f2, d2, D2⟩ := T.is_in
  obtain ⟨f3, d3, D3⟩ := T.need_prime
  obtain ⟨f5, d5, D5⟩ := T.is_free
  obtain ⟨f6, d6, D6⟩ := T.is_poly
  obtain ⟨f7, d7, D7⟩ := T.need_poly
  obtain ⟨f8, d8, D8⟩ := T.trimmed
  obtain ⟨f9, d9, D9⟩ := T.times
  obtain ⟨f10, d10, D10⟩ := T.small
  obtain ⟨aP, gP, hP⟩ := T.primes
  obtain ⟨tM, gM⟩ := T.most
  have GP : FnOk P w K mg base CX0 (k + 5) f3 d3 ["value"] sp_need_prime := (ok_need_prime (k := 0) D3.F T.bl D1 gP hP).mono (by omega)
  have GN : FnOk P w K mg base CX0 (k + 5) f7 d7 ["p", "value"] (sp_need K) := (ok_need_poly (k := 0) D7.F T.bl D1 D2 D5 D6 gM).mono (by omega)
  have GA : FnOk P w K mg base CX0 (k + 5) f9 d9 ["p", "one", "other"] (sp_times K) := (ok_times (k := 0) D9.F T.bl D8).mono (by omega)
  have GS : FnOk P w K mg base CX0 (k + 5) f10 d10 ["one"] (sp_small K) := (ok_small (k := 0) D10.F T.bl gM).mono (by omega)
  refine F.ok c_multiply (fun vs H Q E h => ?_) (fun cdv A outer s H vs Q E hr h => ?_)
  · obtain ⟨p, a, b, xs, ys, rfl, _⟩ := h
    rfl
  · obtain ⟨p, a, b, xs, ys, rfl, hp, hx, hy, hA, hB, la, lb, q⟩ := h
    refine ⟨_, pss_cons (ps_expr (pe_call GP hr (by rfl) D3.g D3.F.kp D3.b .nil pass0 (pa_cons (pv 0) pa_nil)))
      (pss_cons (ps_expr (pe_call GN hr (by rfl) D7.g D7.F.kp D7.b .nil pass0 (pa_cons (pv 0) (pa_cons (pv 1) pa_nil))))
      (pss_cons (ps_expr (pe_call GN hr (by rfl) D7.g D7.F.kp D7.b .nil pass0 (pa_cons (pv 0) (pa_cons (pv 2) pa_nil))))
      (pss_one (ps_ret (pe_call GS hr (by rfl) D10.g D10.F.kp D10.b .nil pass0 (pa_cons (pe_call GA hr (by rfl) D9.g D9.F.kp D9.b .nil pass0 (pa_cons (pv 0) (pa_cons (pv 1) (pa_cons (pv 2) pa_nil)))) pa_nil)))))), ?_⟩
    have pp := hp.pos
    refine ⟨.int p, rfl, p, rfl, hp, .int p, rfl, .ref a, rfl, p, a, xs, rfl, hA, by omega, hx, fun H1 s1 => ⟨.int p, rfl, .ref b, rfl, p, b, ys, rfl, sm_tup s1 hB, by omega, hy, fun H2 s2 => ?_⟩⟩
    have s3 := s1.trans s2
    refine ⟨.int p, rfl, .ref a, rfl, .ref b, rfl, p, a, b, xs, ys, rfl, by omega, by omega, hx.rg, sm_tup s3 hA, sm_tup s3 hB, by omega, by omega, fun H' c sc hC => ⟨c, _, rfl, hC, ?_, q H' c (s3.trans sc) hC⟩⟩
    rw [iv_len]
    have := timesL_le p xs ys
    omega
def sp_divide (K : PySem.W.Frag) : Sp := fun vs H Q _ => ∃ (p : Int) (a b : Addr) (xs ys : List Int), vs = [.int p, .ref a, .ref b] ∧ Pr p ∧ Can p xs ∧ Can p ys ∧ 0 < ys.length ∧ SqT K H a (iv xs) ∧ SqT K H b (iv ys) ∧ xs.length ≤ 41 ∧ ys.length ≤ 41 ∧
  ∀ (H' : Hp) (t c d : Addr), Same H H' → SqT K H' t [.ref c, .ref d] → SqT K H' c (iv (quoL p (bk p ys) xs ys)) → SqT K H' d (iv (resL p (bk p ys) xs ys)) → Q (.ref t) H'
theorem ok_divide {f : Addr} {fd : FuncData} {k : Nat} (F : Fun K "divide" "divide" s_divide f fd) (T : Base K mg) : FnOk P w K mg base CX0 (k + 6) f fd ["p", "one", "other"] (sp_divide K) := by
  obtain ⟨f1, d1, D1⟩ := T.is_int
  obtain ⟨f2, d2, D2⟩ := T.is_in
  obtain ⟨f3, d3, D3⟩ := T.need_prime
  obtain ⟨f4, d4, D4⟩ := T.inverse
  obtain ⟨f5, d5, D5⟩ := T.is_free
  obtain ⟨f6, d6, D6⟩ := T.is_poly
  obtain ⟨f7, d7, D7⟩ := T.need_poly
  obtain ⟨f8, d8, D8⟩ := T.trimmed
  obtain ⟨f9, d9, D9⟩ := T.parted
  obtain ⟨aP, gP, hP⟩ := T.primes
  obtain ⟨tM, gM⟩ := T.most
  have GP : FnOk P w K mg base CX0 (k + 5) f3 d3 ["value"] sp_need_prime := (ok_need_prime (k := 0) D3.F T.bl D1 gP hP).mono (by omega)
  have GN : FnOk P w K mg base CX0 (k + 5) f7 d7 ["p", "value"] (sp_need K) := (ok_need_poly (k := 0) D7.F T.bl D1 D2 D5 D6 gM).mono (by omega)
  have GA : FnOk P w K mg base CX0 (k + 5) f9 d9 ["p", "one", "other"] (sp_parted K) := (ok_parted (k := 0) D9.F T.bl D8 D4).mono (by omega)
  refine F.ok c_divide (fun vs H Q E h => ?_) (fun cdv A outer s H vs Q E hr h => ?_)
  · obtain ⟨p, a, b, xs, ys, rfl, _⟩ := h
    rfl
  · obtain ⟨p, a, b, xs, ys, rfl, hp, hx, hy, ly, hA, hB, la, lb, q⟩ := h
    refine ⟨_, pss_cons (ps_expr (pe_call GP hr (by rfl) D3.g D3.F.kp D3.b .nil pass0 (pa_cons (pv 0) pa_nil)))
      (pss_cons (ps_expr (pe_call GN hr (by rfl) D7.g D7.F.kp D7.b .nil pass0 (pa_cons (pv 0) (pa_cons (pv 1) pa_nil))))
      (pss_cons (ps_expr (pe_call GN hr (by rfl) D7.g D7.F.kp D7.b .nil pass0 (pa_cons (pv 0) (pa_cons (pv 2) pa_nil))))
      (pss_cons (ps_if (pt_cmpR (op_eqD hr.units) (pv 2) (pe_tup pa_nil) (nomark _)) pss_never pss_nil)
      (pss_one (ps_ret (pe_call GA hr (by rfl) D9.g D9.F.kp D9.b .nil pass0 (pa_cons (pv 0) (pa_cons (pv 1) (pa_cons (pv 2) pa_nil))))))))), ?_⟩
    refine ⟨.int p, rfl, p, rfl, hp, .int p, rfl, .ref a, rfl, p, a, xs, rfl, hA, la, hx, fun H1 s1 => ⟨.int p, rfl, .ref b, rfl, p, b, ys, rfl, sm_tup s1 hB, lb, hy, fun H2 s2 => ?_⟩⟩
    have s3 := s1.trans s2
    refine ⟨.ref b, rfl, Nat.zero_le _, fun t nt => ⟨dt ys, dt [], dp_t (sm_tup (sm_new s3 nt) hB), dp_t (xs := []) (.inl (.inl upd_same)), sh_t _, sh_t _, _, rfl, ?_⟩⟩
    have s4 : Same H (upd H2 t (.tup [])) := sm_new s3 nt
    generalize upd H2 t (.tup []) = H4 at s4
    rw [eq_t, decide_eq_false (fun z => by rw [z] at ly; exact absurd ly (Nat.lt_irrefl _))]
    exact iteF ⟨.int p, rfl, .ref a, rfl, .ref b, rfl, p, a, b, xs, ys, rfl, hp, hx, hy, ly, sm_tup s4 hA, sm_tup s4 hB, by omega, by omega, fun H' t c d sc ht hc hd => q H' t c d (s4.trans sc) ht hc hd⟩
end
end KW

namespace KW
open PySem PySem.Spec PyProof.Rows L2 K1
/-! ### the law -/
structure Laws (K : PySem.W.Frag) (mg : Str → Option Value) : Prop where
  base : Base K mg
  add : ∃ f fd, Df K mg "add" s_add ["p", "one", "other"] f fd
  multiply : ∃ f fd, Df K mg "multiply" s_multiply ["p", "one", "other"] f fd
  divide : ∃ f fd, Df K mg "divide" s_divide ["p", "one", "other"] f fd
  taken : ∃ f fd, Df K mg "_law_taken" s_w_taken ["_law_row", "_law_many"] f fd
  pick : ∃ f fd, Df K mg "_law_pick" s_w_pick ["_law_row", "_law_things"] f fd
  alike : ∃ f fd, Df K mg "_law_alike" s_w_alike ["_law_found", "_law_due"] f fd
  prime : ∃ f fd, Df K mg "_law_prime" s_w_prime ["_law_row"] f fd
  trim : ∃ f fd, Df K mg "_law_trim" s_w_trim ["_law_some_here"] f fd
  poly : ∃ f fd, Df K mg "_law_poly" s_w_poly ["_law_row", "_law_p", "_law_most"] f fd
  some : ∃ f fd, Df K mg "_law_some" s_w_some ["_law_row", "_law_p", "_law_most"] f fd
  sum : ∃ f fd, Df K mg "_law_sum" s_w_sum ["_law_p", "_law_one", "_law_other"] f fd
  times : ∃ f fd, Df K mg "_law_times" s_w_times ["_law_p", "_law_one", "_law_other"] f fd
abbrev d2 (xs ys : List Int) : PyData := .tuple [dt xs, dt ys]
theorem sh_2 (xs ys : List Int) : SeqAt.shaped (d2 xs ys) = true := by
  have h : ∀ zs : List Int, PyData.depth (dt zs) = 1 := fun zs => by rw [PyData.depth, dep_all]
  have g : ∀ zs : List Int, PyData.canLay0 (dt zs) = true := fun zs => by rw [PyData.canLay0, lay_all]
  unfold SeqAt.shaped
  rw [PyData.canLay0, PyData.canLayAll0, PyData.canLayAll0, PyData.canLayAll0, g, g, PyData.depth, PyData.depthAll, PyData.depthAll, PyData.depthAll, h, h]
  rfl
theorem eq_2 (xs ys : List Int) : PyData.eqv (d2 xs ys) (d2 xs ys) = true := by
  rw [PyData.eqv, PyData.eqvAll, PyData.eqvAll, PyData.eqvAll, eq_t, eq_t, decide_eq_true rfl, decide_eq_true rfl]
  rfl
section
variable {P : Program} {w : World} {K : PySem.W.Frag} {mg : Str → Option Value} {base : Heap}
def sp_law (K : PySem.W.Frag) : Sp := fun vs H Q _ => ∃ (a : Addr) (ns : List Int), vs = [.ref a] ∧ Scr K H a ns ∧ ns.length ≤ 63 ∧ ∀ H', Q (.bl true) H'
theorem ok_law {f : Addr} {fd : FuncData} (F : Fun K "law" "law" s_w_law f fd) (T : Laws K mg) : FnOk P w K mg base CX0 7 f fd ["_law_script"] (sp_law K) := by
  have B := T.base.bl
  obtain ⟨fa, da, DA⟩ := T.add
  obtain ⟨fm, dm, DM⟩ := T.multiply
  obtain ⟨fv, dv, DV⟩ := T.divide
  obtain ⟨ft, dtk, DT⟩ := T.taken
  obtain ⟨fp, dp, DP⟩ := T.pick
  obtain ⟨fl, dl, DL⟩ := T.alike
  obtain ⟨fq, dq, DQ⟩ := T.prime
  obtain ⟨fr, dr, DR⟩ := T.trim
  obtain ⟨fo, dO, DO⟩ := T.poly
  obtain ⟨fs, ds, DS⟩ := T.some
  obtain ⟨fu, du, DU⟩ := T.sum
  obtain ⟨fx, dx, DX⟩ := T.times
  have GA : FnOk P w K mg base CX0 6 fa da ["p", "one", "other"] (sp_add K) := ok_add (k := 0) DA.F T.base
  have GM : FnOk P w K mg base CX0 6 fm dm ["p", "one", "other"] (sp_mult K) := ok_multiply (k := 0) DM.F T.base
  have GV : FnOk P w K mg base CX0 6 fv dv ["p", "one", "other"] (sp_divide K) := ok_divide (k := 0) DV.F T.base
  have GL : FnOk P w K mg base CX0 6 fl dl ["_law_found", "_law_due"] (sp_alikeT K) := (ok_alikeT (k := 0) DL B).mono (by decide)
  have GQ : FnOk P w K mg base CX0 6 fq dq ["_law_row"] (sp_prime K) := (ok_prime (k := 0) DQ.F B DT DP).mono (by decide)
  have GR : FnOk P w K mg base CX0 6 fr dr ["_law_some_here"] (sp_wtrim K) := (ok_wtrim (k := 0) DR.F B).mono (by decide)
  have GO : FnOk P w K mg base CX0 6 fo dO ["_law_row", "_law_p", "_law_most"] (sp_poly K) := (ok_poly (k := 0) DO.F B DT DR).mono (by decide)
  have GS : FnOk P w K mg base CX0 6 fs ds ["_law_row", "_law_p", "_law_most"] (sp_some K) := (ok_some (k := 0) DS.F B DT DR DO).mono (by decide)
  have GU : FnOk P w K mg base CX0 6 fu du ["_law_p", "_law_one", "_law_other"] (sp_plus K) := (ok_wsum (k := 0) DU.F B DR).mono (by decide)
  have GX : FnOk P w K mg base CX0 6 fx dx ["_law_p", "_law_one", "_law_other"] (sp_times K) := (ok_wtimes (k := 0) DX.F B DR).mono (by decide)
  refine F.ok c_w_law (fun vs H Q E h => ?_) (fun cdv A outer s H vs Q E hr h => ?_)
  · obtain ⟨a, ns, rfl, _⟩ := h
    rfl
  · obtain ⟨a, ns, rfl, hS, hl, q⟩ := h
    refine ⟨_, pss_cons (ps_set (i := 1) c_w_law.nd rfl (.inl rfl) (pe_lst (pa_cons (pv 0) (pa_cons pe_int (pa_cons pe_int (pa_cons pe_int pa_nil))))))
      (pss_cons (ps_set (i := 2) c_w_law.nd rfl (.inl rfl) (pe_call GQ hr (by rfl) DQ.g DQ.F.kp DQ.b .nil pass0 (pa_cons (pv 1) pa_nil)))
      (pss_cons (ps_par3 (i := 3) (j := 4) (l := 5) rfl c_w_law.nd rfl rfl rfl (by decide) (by decide) (by decide) rfl rfl rfl
        (pa_cons (pe_call GO hr (by rfl) DO.g DO.F.kp DO.b .nil pass0 (pa_cons (pv 1) (pa_cons (pv 2) (pa_cons pe_int pa_nil))))
        (pa_cons (pe_call GS hr (by rfl) DS.g DS.F.kp DS.b .nil pass0 (pa_cons (pv 1) (pa_cons (pv 2) (pa_cons pe_int pa_nil))))
        (pa_cons (pe_call GO hr (by rfl) DO.g DO.F.kp DO.b .nil pass0 (pa_cons (pv 1) (pa_cons (pv 2) (pa_cons pe_int pa_nil)))) pa_nil))) (by rfl))
      (pss_cons (ps_if (pt_not (pt_val (pe_call GL hr (by rfl) DL.g DL.F.kp DL.b .nil pass0
        (pa_cons (pe_call GA hr (by rfl) DA.g DA.F.kp DA.b .nil pass0 (pa_cons (pv 2) (pa_cons (pv 3) (pa_cons (pv 4) pa_nil))))
        (pa_cons (pe_call GU hr (by rfl) DU.g DU.F.kp DU.b .nil pass0 (pa_cons (pv 2) (pa_cons (pv 3) (pa_cons (pv 4) pa_nil)))) pa_nil))))) pss_never pss_nil)
      (pss_cons (ps_if (pt_not (pt_val (pe_call GL hr (by rfl) DL.g DL.F.kp DL.b .nil pass0
        (pa_cons (pe_call GM hr (by rfl) DM.g DM.F.kp DM.b .nil pass0 (pa_cons (pv 2) (pa_cons (pv 3) (pa_cons (pv 4) pa_nil))))
        (pa_cons (pe_call GX hr (by rfl) DX.g DX.F.kp DX.b .nil pass0 (pa_cons (pv 2) (pa_cons (pv 3) (pa_cons (pv 4) pa_nil)))) pa_nil))))) pss_never pss_nil)
      (pss_cons (ps_asg (pe_call GV hr (by rfl) DV.g DV.F.kp DV.b .nil pass0 (pa_cons (pv 2) (pa_cons (pv 3) (pa_cons (pv 4) pa_nil))))
        (pg_tup rfl (pgs_cons (pg_name (i := 6) c_w_law.nd rfl (.inl rfl)) (pgs_cons (pg_name (i := 7) c_w_law.nd rfl (.inl rfl)) pgs_nil))))
      (pss_cons (ps_if (PW.pt (pw_or (pt_cmpR (op_neD hr.units) (pe_call GU hr (by rfl) DU.g DU.F.kp DU.b .nil pass0 (pa_cons (pv 2)
            (pa_cons (pe_call GX hr (by rfl) DX.g DX.F.kp DX.b .nil pass0 (pa_cons (pv 2) (pa_cons (pv 6) (pa_cons (pv 4) pa_nil)))) (pa_cons (pv 7) pa_nil)))) (pv 3) (nomark _))
          (pw_or (pt_cmpR op_ge (pe_callB call_len_seq (by rfl) B.len PySem.boot_len (pa_cons (pv 7) pa_nil)) (pe_callB call_len_seq (by rfl) B.len PySem.boot_len (pa_cons (pv 4) pa_nil)) (nomark _))
          (pw_or1 (pt_cmpR (op_neD hr.units) (pv 7) (pe_call GR hr (by rfl) DR.g DR.F.kp DR.b .nil pass0 (pa_cons (pv 7) pa_nil)) (nomark _)))))) pss_never pss_nil)
      (pss_cons (ps_set (i := 8) c_w_law.nd rfl (.inl rfl) (pe_call GX hr (by rfl) DX.g DX.F.kp DX.b .nil pass0 (pa_cons (pv 2) (pa_cons (pv 5) (pa_cons (pv 4) pa_nil)))))
      (pss_cons (ps_if (pt_cmpR (op_neD hr.units) (pe_call GV hr (by rfl) DV.g DV.F.kp DV.b .nil pass0 (pa_cons (pv 2) (pa_cons (pv 8) (pa_cons (pv 4) pa_nil)))) (pe_tup (pa_cons (pv 5) (pa_cons (pe_tup pa_nil) pa_nil))) (nomark _)) pss_never pss_nil)
      (pss_one (ps_ret (pe_cmpR (op_eqD hr.units)
        (pe_call GM hr (by rfl) DM.g DM.F.kp DM.b .nil pass0 (pa_cons (pv 2) (pa_cons (pv 3) (pa_cons (pe_call GA hr (by rfl) DA.g DA.F.kp DA.b .nil pass0 (pa_cons (pv 2) (pa_cons (pv 4) (pa_cons (pv 5) pa_nil)))) pa_nil))))
        (pe_call GA hr (by rfl) DA.g DA.F.kp DA.b .nil pass0 (pa_cons (pv 2) (pa_cons (pe_call GM hr (by rfl) DM.g DM.F.kp DM.b .nil pass0 (pa_cons (pv 2) (pa_cons (pv 3) (pa_cons (pv 4) pa_nil))))
          (pa_cons (pe_call GM hr (by rfl) DM.g DM.F.kp DM.b .nil pass0 (pa_cons (pv 2) (pa_cons (pv 3) (pa_cons (pv 5) pa_nil)))) pa_nil)))) (nomark _)))))))))))), ?_⟩
    -- the row
    refine ⟨.ref a, rfl, (by decide : 4 ≤ sizeLine), fun r nr => ?_⟩
    have R1 : Row K (upd H r (.lst [.ref a, .int 0, .int 3401, .int 0])) r := by
      refine ⟨a, ns, 0, 3401, 0, upd_same, ?_, hl, Int.le_refl _⟩
      rcases hS with ⟨o, h⟩ | h
      · exact .inl ⟨o, at_new nr h⟩
      · exact .inr h
    generalize upd H r (.lst [.ref a, .int 0, .int 3401, .int 0]) = H1 at R1
    -- the draws
    refine ⟨.ref r, rfl, r, rfl, R1, fun H2 p x2 R2 hp => ?_⟩
    have pp := hp.pos
    have p0 : 0 < p := by omega
    refine ⟨.ref r, rfl, .int p, rfl, r, p, 6, rfl, R2, pp.1, by omega, by decide, by decide, fun H3 b xs x3 R3 hX cx lx => ?_⟩
    refine ⟨.ref r, rfl, .int p, rfl, r, p, 4, rfl, R3, pp.1, by omega, by decide, by decide, fun H4 c ys x4 R4 hY cy ly ly0 => ?_⟩
    refine ⟨.ref r, rfl, .int p, rfl, r, p, 4, rfl, R4, pp.1, by omega, by decide, by decide, fun H5 d zs x5 R5 hZ cz lz => ?_⟩
    refine ⟨.ref b, .ref c, .ref d, rfl, ?_⟩
    obtain ⟨_, h3⟩ := R3.lst
    obtain ⟨_, h4⟩ := R4.lst
    have hX := x5.seqT h4 (x4.seqT h3 hX)
    have hY := x5.seqT h4 hY
    clear R1 R2 R3 R4 R5 x2 x3 x4 x5 h3 h4
    have lx : xs.length ≤ 7 := by omega
    have ly : ys.length ≤ 5 := by omega
    have lz : zs.length ≤ 5 := by omega
    -- the sum
    refine ⟨.int p, rfl, .ref b, rfl, .ref c, rfl, p, b, c, xs, ys, rfl, hp, cx, cy, hX, hY, by omega, by omega, fun H6 e6 s6 g6 => ?_⟩
    refine ⟨.int p, rfl, .ref b, rfl, .ref c, rfl, p, b, c, xs, ys, rfl, p0, sm_tup s6 hX, sm_tup s6 hY, by omega, by omega, fun H7 e7 s7 g7 => ?_⟩
    refine ⟨e6, e7, plusL p xs ys, rfl, sm_tup s7 g6, g7, by have := plusL_le p xs ys; omega, fun H8 s8 => ⟨true, rfl, iteF ?_⟩⟩
    have t8 := s6.trans (s7.trans s8)
    have hX := sm_tup t8 hX
    have hY := sm_tup t8 hY
    have hZ := sm_tup t8 hZ
    clear t8 s6 s7 s8 g6 g7
    -- the product
    refine ⟨.int p, rfl, .ref b, rfl, .ref c, rfl, p, b, c, xs, ys, rfl, hp, cx, cy, hX, hY, by omega, by omega, fun H6 e6 s6 g6 => ?_⟩
    refine ⟨.int p, rfl, .ref b, rfl, .ref c, rfl, p, b, c, xs, ys, rfl, p0, by omega, cx.rg, sm_tup s6 hX, sm_tup s6 hY, by omega, by omega, fun H7 e7 s7 g7 => ?_⟩
    refine ⟨e6, e7, timesL p xs ys, rfl, sm_tup s7 g6, g7, by have := timesL_le p xs ys; omega, fun H9 s9 => ⟨true, rfl, iteF ?_⟩⟩
    have t9 := s6.trans (s7.trans s9)
    have hX := sm_tup t9 hX
    have hY := sm_tup t9 hY
    have hZ := sm_tup t9 hZ
    clear t9 s6 s7 s9 g6 g7
    -- the division
    have hb := bk_ok hp cy ly0
    have cq := quoL_can p0 cx.rg ly0 hb
    have cr := resL_can p0 cx.rg ly0 hb
    have lq := quoL_le p0 cx.rg ly0 hb
    have lr := resL_lt p0 cx.rg ly0 hb
    have back := div_back p0 cx ly0 hb
    refine ⟨.int p, rfl, .ref b, rfl, .ref c, rfl, p, b, c, xs, ys, rfl, hp, cx, cy, ly0, hX, hY, by omega, by omega, fun H10 t u v s10 hT hU hV => ?_⟩
    generalize quoL p (bk p ys) xs ys = qs at cq lq back hU
    generalize resL p (bk p ys) xs ys = rs at cr lr back hV
    refine ⟨t, _, rfl, hT, rfl, _, _, rfl, _, _, rfl, rfl, ?_⟩
    have hX := sm_tup s10 hX
    have hY := sm_tup s10 hY
    have hZ := sm_tup s10 hZ
    clear s10 hT
    refine ⟨.int p, rfl, .int p, rfl, .ref u, rfl, .ref c, rfl, p, u, c, qs, ys, rfl, p0, by omega, cq.rg, hU, hY, by omega, by omega, fun H11 e11 s11 g11 => ?_⟩
    refine ⟨.ref v, rfl, p, e11, v, timesL p qs ys, rs, rfl, p0, g11, sm_tup s11 hV, by have := timesL_le p qs ys; omega, by omega, fun H12 e12 s12 g12 => ?_⟩
    rw [back] at g12
    refine ⟨.ref b, rfl, dt xs, dt xs, dp_t g12, dp_t (sm_tup (s11.trans s12) hX), sh_t _, sh_t _, false, ?_, iteF ?_⟩
    · rw [eq_t, decide_eq_true rfl]
      rfl
    have s13 := s11.trans s12
    refine ⟨.ref v, rfl, v, iv rs, rfl, .inr (sm_tup s13 hV), .ref c, rfl, c, iv ys, rfl, .inr (sm_tup s13 hY), _, _, rfl, rfl, false, blF (by rw [iv_len, iv_len]; omega), iteF ?_⟩
    refine ⟨.ref v, rfl, .ref v, rfl, v, rs, rfl, .inr (sm_tup s13 hV), by omega, fun H14 e14 s14 g14 => ?_⟩
    rw [trim_id cr] at g14
    refine ⟨dt rs, dt rs, dp_t (sm_tup (s13.trans s14) hV), dp_t g14, sh_t _, sh_t _, false, ?_, iteF ?_⟩
    · rw [eq_t, decide_eq_true rfl]
      rfl
    have t14 := s13.trans s14
    have hX := sm_tup t14 hX
    have hY := sm_tup t14 hY
    have hZ := sm_tup t14 hZ
    clear t14 s13 s14 s11 s12 g11 g12 g14 hU hV
    -- a multiple
    refine ⟨.int p, rfl, .ref d, rfl, .ref c, rfl, p, d, c, zs, ys, rfl, p0, by omega, cz.rg, hZ, hY, by omega, by omega, fun H15 e15 s15 g15 => ?_⟩
    have hm := div_mult (back := bk p ys) p0 cz cy ly0 hb
    have lw := timesL_le p zs ys
    have cw := timesL_can p0 zs ys
    generalize timesL p zs ys = ws at g15 hm lw cw
    refine ⟨.int p, rfl, .ref e15, rfl, .ref c, rfl, p, e15, c, ws, ys, rfl, hp, cw, cy, ly0, g15, sm_tup s15 hY, by omega, by omega, fun H16 t u v s16 hT hU hV => ?_⟩
    rw [hm.1] at hU
    rw [hm.2] at hV
    refine ⟨.ref d, rfl, Nat.zero_le _, fun o no => ⟨(by decide : 2 ≤ sizeLine), fun o2 no2 => ?_⟩⟩
    have s17 : Same H16 (upd (upd H16 o (.tup [])) o2 (.tup [.ref d, .ref o])) := sm_new (sm_upd no) no2
    have g17 : (upd (upd H16 o (.tup [])) o2 (.tup [.ref d, .ref o])) o2 = some (.tup [.ref d, .ref o]) := upd_same
    have g18 : (upd (upd H16 o (.tup [])) o2 (.tup [.ref d, .ref o])) o = some (.tup (iv [])) := at_new no2 upd_same
    generalize upd (upd H16 o (.tup [])) o2 (.tup [.ref d, .ref o]) = H17 at s17 g17 g18
    have t17 := s15.trans (s16.trans s17)
    have hX := sm_tup t17 hX
    have hY := sm_tup t17 hY
    have hZ := sm_tup t17 hZ
    refine ⟨d2 zs [], d2 zs [], .tup (sm_tup s17 hT) (.cons (dp_t (sm_tup s17 hU)) (.cons (dp_t (sm_tup s17 hV)) .nil)), .tup (.inl (.inl g17)) (.cons (dp_t hZ) (.cons (dp_t (xs := []) (.inl (.inl g18))) .nil)), sh_2 _ _, sh_2 _ _, false, ?_, iteF ?_⟩
    · rw [eq_2]
      rfl
    clear t17 s15 s16 s17 g15 g17 g18 hT hU hV
    -- the product with a sum
    refine ⟨.int p, rfl, .ref b, rfl, .int p, rfl, .ref c, rfl, .ref d, rfl, p, c, d, ys, zs, rfl, hp, cy, cz, hY, hZ, by omega, by omega, fun H18 e18 s18 g18 => ?_⟩
    refine ⟨p, b, e18, xs, plusL p ys zs, rfl, hp, cx, plusL_can p0 _ _, sm_tup s18 hX, g18, by omega, by have := plusL_le p ys zs; omega, fun H19 e19 s19 g19 => ?_⟩
    have t19 := s18.trans s19
    have hX := sm_tup t19 hX
    have hY := sm_tup t19 hY
    have hZ := sm_tup t19 hZ
    refine ⟨.int p, rfl, .int p, rfl, .ref b, rfl, .ref c, rfl, p, b, c, xs, ys, rfl, hp, cx, cy, hX, hY, by omega, by omega, fun H20 e20 s20 g20 => ?_⟩
    refine ⟨.int p, rfl, .ref b, rfl, .ref d, rfl, p, b, d, xs, zs, rfl, hp, cx, cz, sm_tup s20 hX, sm_tup s20 hZ, by omega, by omega, fun H21 e21 s21 g21 => ?_⟩
    refine ⟨p, e20, e21, timesL p xs ys, timesL p xs zs, rfl, hp, timesL_can p0 _ _, timesL_can p0 _ _, sm_tup s21 g20, g21, by have := timesL_le p xs ys; omega, by have := timesL_le p xs zs; omega, fun H22 e22 s22 g22 => ?_⟩
    refine ⟨dt _, dt _, dp_t (sm_tup (s20.trans (s21.trans s22)) g19), dp_t g22, sh_t _, sh_t _, ?_⟩
    rw [eq_t, distrib p0, decide_eq_true rfl]
    exact q _
end
end KW

namespace KW
open PySem PySem.Spec PyProof.Rows L2 K1
/-- the script as the law finds it -/
theorem scr_of {K : PySem.W.Frag} {H : Hp} {a : Addr} {ns : List Int} (ho : Only H) (h : SqL K H a (ns.map V.int)) : Scr K H a ns := by
  rcases h with (h | ⟨o, h⟩) | h
  · rcases ho a with z | ⟨o, xs, z⟩
    · rw [h] at z
      cases z
    · rw [h] at z
      cases z
  · exact .inl ⟨o, h⟩
  · exact .inr h
/-- what the top has left, read off the written part -/
theorem all_mk {l : PySem.W.OpenLaw} {w : World} {K : PySem.W.Frag} {h : Heap} {mg : Str → Option Value} {fa : Addr} (X : K.In h) (G : h.Ns mainGlobals mg) (hfa : mg "law" = some (.ref fa))
    {f0 : Addr} {od0 an0 : Option Addr} {sl0 : Array (Option Value)} {oc0 kV0 dc0 pm0 cd0 ct0 : Value}
    {f1 : Addr} {od1 an1 : Option Addr} {sl1 : Array (Option Value)} {oc1 kV1 dc1 pm1 cd1 ct1 : Value}
    {f2 : Addr} {od2 an2 : Option Addr} {sl2 : Array (Option Value)} {oc2 kV2 dc2 pm2 cd2 ct2 : Value}
    {f3 : Addr} {od3 an3 : Option Addr} {sl3 : Array (Option Value)} {oc3 kV3 dc3 pm3 cd3 ct3 : Value}
    {f4 : Addr} {od4 an4 : Option Addr} {sl4 : Array (Option Value)} {oc4 kV4 dc4 pm4 cd4 ct4 : Value}
    {f5 : Addr} {od5 an5 : Option Addr} {sl5 : Array (Option Value)} {oc5 kV5 dc5 pm5 cd5 ct5 : Value}
    {f6 : Addr} {od6 an6 : Option Addr} {sl6 : Array (Option Value)} {oc6 kV6 dc6 pm6 cd6 ct6 : Value}
    {f7 : Addr} {od7 an7 : Option Addr} {sl7 : Array (Option Value)} {oc7 kV7 dc7 pm7 cd7 ct7 : Value}
    {f8 : Addr} {od8 an8 : Option Addr} {sl8 : Array (Option Value)} {oc8 kV8 dc8 pm8 cd8 ct8 : Value}
    {f9 : Addr} {od9 an9 : Option Addr} {sl9 : Array (Option Value)} {oc9 kV9 dc9 pm9 cd9 ct9 : Value}
    {f10 : Addr} {od10 an10 : Option Addr} {sl10 : Array (Option Value)} {oc10 kV10 dc10 pm10 cd10 ct10 : Value}
    {f11 : Addr} {od11 an11 : Option Addr} {sl11 : Array (Option Value)} {oc11 kV11 dc11 pm11 cd11 ct11 : Value}
    {f12 : Addr} {od12 an12 : Option Addr} {sl12 : Array (Option Value)} {oc12 kV12 dc12 pm12 cd12 ct12 : Value}
    {f13 : Addr} {od13 an13 : Option Addr} {sl13 : Array (Option Value)} {oc13 kV13 dc13 pm13 cd13 ct13 : Value}
    {f14 : Addr} {od14 an14 : Option Addr} {sl14 : Array (Option Value)} {oc14 kV14 dc14 pm14 cd14 ct14 : Value}
    {f15 : Addr} {od15 an15 : Option Addr} {sl15 : Array (Option Value)} {oc15 kV15 dc15 pm15 cd15 ct15 : Value}
    {f16 : Addr} {od16 an16 : Option Addr} {sl16 : Array (Option Value)} {oc16 kV16 dc16 pm16 cd16 ct16 : Value}
    {f17 : Addr} {od17 an17 : Option Addr} {sl17 : Array (Option Value)} {oc17 kV17 dc17 pm17 cd17 ct17 : Value}
    {f18 : Addr} {od18 an18 : Option Addr} {sl18 : Array (Option Value)} {oc18 kV18 dc18 pm18 cd18 ct18 : Value}
    {f19 : Addr} {od19 an19 : Option Addr} {sl19 : Array (Option Value)} {oc19 kV19 dc19 pm19 cd19 ct19 : Value}
    {f20 : Addr} {od20 an20 : Option Addr} {sl20 : Array (Option Value)} {oc20 kV20 dc20 pm20 cd20 ct20 : Value}
    {f21 : Addr} {od21 an21 : Option Addr} {sl21 : Array (Option Value)} {oc21 kV21 dc21 pm21 cd21 ct21 : Value}
    {f22 : Addr} {od22 an22 : Option Addr} {sl22 : Array (Option Value)} {oc22 kV22 dc22 pm22 cd22 ct22 : Value}
    {f23 : Addr} {od23 an23 : Option Addr} {sl23 : Array (Option Value)} {oc23 kV23 dc23 pm23 cd23 ct23 : Value}
    {f24 : Addr} {od24 an24 : Option Addr} {sl24 : Array (Option Value)} {oc24 kV24 dc24 pm24 cd24 ct24 : Value}
    {aP : Addr} {dP : Option Addr} {nP : Nat} {slP : Array (Option Value)} {t2 t3 t5 t7 t11 t13 t17 t19 t23 t29 t31 tM : Tok}
    (a0 : PySem.W.nsIn K mainGlobals "is_int" = some (some (.ref f0))) (l0 : K.lookup f0 = some ⟨oc0, od0, .func (PySem.W.fnOf "is_int" "is_int" (defArgs s_is_int) (defBody s_is_int) (defScope s_is_int) .none kV0 dc0 pm0 an0 cd0 ct0), sl0⟩) (c0 : PySem.W.codeIn K cd0 "is_int" = true) (k0 : PySem.W.keepIn K (.ref f0) = true)
    (a1 : PySem.W.nsIn K mainGlobals "is_in" = some (some (.ref f1))) (l1 : K.lookup f1 = some ⟨oc1, od1, .func (PySem.W.fnOf "is_in" "is_in" (defArgs s_is_in) (defBody s_is_in) (defScope s_is_in) .none kV1 dc1 pm1 an1 cd1 ct1), sl1⟩) (c1 : PySem.W.codeIn K cd1 "is_in" = true) (k1 : PySem.W.keepIn K (.ref f1) = true)
    (a2 : PySem.W.nsIn K mainGlobals "need_prime" = some (some (.ref f2))) (l2 : K.lookup f2 = some ⟨oc2, od2, .func (PySem.W.fnOf "need_prime" "need_prime" (defArgs s_need_prime) (defBody s_need_prime) (defScope s_need_prime) .none kV2 dc2 pm2 an2 cd2 ct2), sl2⟩) (c2 : PySem.W.codeIn K cd2 "need_prime" = true) (k2 : PySem.W.keepIn K (.ref f2) = true)
    (a3 : PySem.W.nsIn K mainGlobals "inverse" = some (some (.ref f3))) (l3 : K.lookup f3 = some ⟨oc3, od3, .func (PySem.W.fnOf "inverse" "inverse" (defArgs s_inverse) (defBody s_inverse) (defScope s_inverse) .none kV3 dc3 pm3 an3 cd3 ct3), sl3⟩) (c3 : PySem.W.codeIn K cd3 "inverse" = true) (k3 : PySem.W.keepIn K (.ref f3) = true)
    (a4 : PySem.W.nsIn K mainGlobals "is_free" = some (some (.ref f4))) (l4 : K.lookup f4 = some ⟨oc4, od4, .func (PySem.W.fnOf "is_free" "is_free" (defArgs s_is_free) (defBody s_is_free) (defScope s_is_free) .none kV4 dc4 pm4 an4 cd4 ct4), sl4⟩) (c4 : PySem.W.codeIn K cd4 "is_free" = true) (k4 : PySem.W.keepIn K (.ref f4) = true)
    (a5 : PySem.W.nsIn K mainGlobals "is_poly" = some (some (.ref f5))) (l5 : K.lookup f5 = some ⟨oc5, od5, .func (PySem.W.fnOf "is_poly" "is_poly" (defArgs s_is_poly) (defBody s_is_poly) (defScope s_is_poly) .none kV5 dc5 pm5 an5 cd5 ct5), sl5⟩) (c5 : PySem.W.codeIn K cd5 "is_poly" = true) (k5 : PySem.W.keepIn K (.ref f5) = true)
    (a6 : PySem.W.nsIn K mainGlobals "need_poly" = some (some (.ref f6))) (l6 : K.lookup f6 = some ⟨oc6, od6, .func (PySem.W.fnOf "need_poly" "need_poly" (defArgs s_need_poly) (defBody s_need_poly) (defScope s_need_poly) .none kV6 dc6 pm6 an6 cd6 ct6), sl6⟩) (c6 : PySem.W.codeIn K cd6 "need_poly" = true) (k6 : PySem.W.keepIn K (.ref f6) = true)
    (a7 : PySem.W.nsIn K mainGlobals "trimmed" = some (some (.ref f7))) (l7 : K.lookup f7 = some ⟨oc7, od7, .func (PySem.W.fnOf "trimmed" "trimmed" (defArgs s_trimmed) (defBody s_trimmed) (defScope s_trimmed) .none kV7 dc7 pm7 an7 cd7 ct7), sl7⟩) (c7 : PySem.W.codeIn K cd7 "trimmed" = true) (k7 : PySem.W.keepIn K (.ref f7) = true)
    (a8 : PySem.W.nsIn K mainGlobals "plus" = some (some (.ref f8))) (l8 : K.lookup f8 = some ⟨oc8, od8, .func (PySem.W.fnOf "plus" "plus" (defArgs s_plus) (defBody s_plus) (defScope s_plus) .none kV8 dc8 pm8 an8 cd8 ct8), sl8⟩) (c8 : PySem.W.codeIn K cd8 "plus" = true) (k8 : PySem.W.keepIn K (.ref f8) = true)
    (a9 : PySem.W.nsIn K mainGlobals "times" = some (some (.ref f9))) (l9 : K.lookup f9 = some ⟨oc9, od9, .func (PySem.W.fnOf "times" "times" (defArgs s_times) (defBody s_times) (defScope s_times) .none kV9 dc9 pm9 an9 cd9 ct9), sl9⟩) (c9 : PySem.W.codeIn K cd9 "times" = true) (k9 : PySem.W.keepIn K (.ref f9) = true)
    (a10 : PySem.W.nsIn K mainGlobals "parted" = some (some (.ref f10))) (l10 : K.lookup f10 = some ⟨oc10, od10, .func (PySem.W.fnOf "parted" "parted" (defArgs s_parted) (defBody s_parted) (defScope s_parted) .none kV10 dc10 pm10 an10 cd10 ct10), sl10⟩) (c10 : PySem.W.codeIn K cd10 "parted" = true) (k10 : PySem.W.keepIn K (.ref f10) = true)
    (a11 : PySem.W.nsIn K mainGlobals "small" = some (some (.ref f11))) (l11 : K.lookup f11 = some ⟨oc11, od11, .func (PySem.W.fnOf "small" "small" (defArgs s_small) (defBody s_small) (defScope s_small) .none kV11 dc11 pm11 an11 cd11 ct11), sl11⟩) (c11 : PySem.W.codeIn K cd11 "small" = true) (k11 : PySem.W.keepIn K (.ref f11) = true)
    (a12 : PySem.W.nsIn K mainGlobals "add" = some (some (.ref f12))) (l12 : K.lookup f12 = some ⟨oc12, od12, .func (PySem.W.fnOf "add" "add" (defArgs s_add) (defBody s_add) (defScope s_add) .none kV12 dc12 pm12 an12 cd12 ct12), sl12⟩) (c12 : PySem.W.codeIn K cd12 "add" = true) (k12 : PySem.W.keepIn K (.ref f12) = true)
    (a13 : PySem.W.nsIn K mainGlobals "multiply" = some (some (.ref f13))) (l13 : K.lookup f13 = some ⟨oc13, od13, .func (PySem.W.fnOf "multiply" "multiply" (defArgs s_multiply) (defBody s_multiply) (defScope s_multiply) .none kV13 dc13 pm13 an13 cd13 ct13), sl13⟩) (c13 : PySem.W.codeIn K cd13 "multiply" = true) (k13 : PySem.W.keepIn K (.ref f13) = true)
    (a14 : PySem.W.nsIn K mainGlobals "divide" = some (some (.ref f14))) (l14 : K.lookup f14 = some ⟨oc14, od14, .func (PySem.W.fnOf "divide" "divide" (defArgs s_divide) (defBody s_divide) (defScope s_divide) .none kV14 dc14 pm14 an14 cd14 ct14), sl14⟩) (c14 : PySem.W.codeIn K cd14 "divide" = true) (k14 : PySem.W.keepIn K (.ref f14) = true)
    (a15 : PySem.W.nsIn K mainGlobals "_law_taken" = some (some (.ref f15))) (l15 : K.lookup f15 = some ⟨oc15, od15, .func (PySem.W.fnOf "_law_taken" "_law_taken" (defArgs s_w_taken) (defBody s_w_taken) (defScope s_w_taken) .none kV15 dc15 pm15 an15 cd15 ct15), sl15⟩) (c15 : PySem.W.codeIn K cd15 "_law_taken" = true) (k15 : PySem.W.keepIn K (.ref f15) = true)
    (a16 : PySem.W.nsIn K mainGlobals "_law_pick" = some (some (.ref f16))) (l16 : K.lookup f16 = some ⟨oc16, od16, .func (PySem.W.fnOf "_law_pick" "_law_pick" (defArgs s_w_pick) (defBody s_w_pick) (defScope s_w_pick) .none kV16 dc16 pm16 an16 cd16 ct16), sl16⟩) (c16 : PySem.W.codeIn K cd16 "_law_pick" = true) (k16 : PySem.W.keepIn K (.ref f16) = true)
    (a17 : PySem.W.nsIn K mainGlobals "_law_alike" = some (some (.ref f17))) (l17 : K.lookup f17 = some ⟨oc17, od17, .func (PySem.W.fnOf "_law_alike" "_law_alike" (defArgs s_w_alike) (defBody s_w_alike) (defScope s_w_alike) .none kV17 dc17 pm17 an17 cd17 ct17), sl17⟩) (c17 : PySem.W.codeIn K cd17 "_law_alike" = true) (k17 : PySem.W.keepIn K (.ref f17) = true)
    (a18 : PySem.W.nsIn K mainGlobals "_law_prime" = some (some (.ref f18))) (l18 : K.lookup f18 = some ⟨oc18, od18, .func (PySem.W.fnOf "_law_prime" "_law_prime" (defArgs s_w_prime) (defBody s_w_prime) (defScope s_w_prime) .none kV18 dc18 pm18 an18 cd18 ct18), sl18⟩) (c18 : PySem.W.codeIn K cd18 "_law_prime" = true) (k18 : PySem.W.keepIn K (.ref f18) = true)
    (a19 : PySem.W.nsIn K mainGlobals "_law_trim" = some (some (.ref f19))) (l19 : K.lookup f19 = some ⟨oc19, od19, .func (PySem.W.fnOf "_law_trim" "_law_trim" (defArgs s_w_trim) (defBody s_w_trim) (defScope s_w_trim) .none kV19 dc19 pm19 an19 cd19 ct19), sl19⟩) (c19 : PySem.W.codeIn K cd19 "_law_trim" = true) (k19 : PySem.W.keepIn K (.ref f19) = true)
    (a20 : PySem.W.nsIn K mainGlobals "_law_poly" = some (some (.ref f20))) (l20 : K.lookup f20 = some ⟨oc20, od20, .func (PySem.W.fnOf "_law_poly" "_law_poly" (defArgs s_w_poly) (defBody s_w_poly) (defScope s_w_poly) .none kV20 dc20 pm20 an20 cd20 ct20), sl20⟩) (c20 : PySem.W.codeIn K cd20 "_law_poly" = true) (k20 : PySem.W.keepIn K (.ref f20) = true)
    (a21 : PySem.W.nsIn K mainGlobals "_law_some" = some (some (.ref f21))) (l21 : K.lookup f21 = some ⟨oc21, od21, .func (PySem.W.fnOf "_law_some" "_law_some" (defArgs s_w_some) (defBody s_w_some) (defScope s_w_some) .none kV21 dc21 pm21 an21 cd21 ct21), sl21⟩) (c21 : PySem.W.codeIn K cd21 "_law_some" = true) (k21 : PySem.W.keepIn K (.ref f21) = true)
    (a22 : PySem.W.nsIn K mainGlobals "_law_sum" = some (some (.ref f22))) (l22 : K.lookup f22 = some ⟨oc22, od22, .func (PySem.W.fnOf "_law_sum" "_law_sum" (defArgs s_w_sum) (defBody s_w_sum) (defScope s_w_sum) .none kV22 dc22 pm22 an22 cd22 ct22), sl22⟩) (c22 : PySem.W.codeIn K cd22 "_law_sum" = true) (k22 : PySem.W.keepIn K (.ref f22) = true)
    (a23 : PySem.W.nsIn K mainGlobals "_law_times" = some (some (.ref f23))) (l23 : K.lookup f23 = some ⟨oc23, od23, .func (PySem.W.fnOf "_law_times" "_law_times" (defArgs s_w_times) (defBody s_w_times) (defScope s_w_times) .none kV23 dc23 pm23 an23 cd23 ct23), sl23⟩) (c23 : PySem.W.codeIn K cd23 "_law_times" = true) (k23 : PySem.W.keepIn K (.ref f23) = true)
    (a24 : PySem.W.nsIn K mainGlobals "law" = some (some (.ref f24))) (l24 : K.lookup f24 = some ⟨oc24, od24, .func (PySem.W.fnOf "law" "law" (defArgs s_w_law) (defBody s_w_law) (defScope s_w_law) .none kV24 dc24 pm24 an24 cd24 ct24), sl24⟩) (c24 : PySem.W.codeIn K cd24 "law" = true) (k24 : PySem.W.keepIn K (.ref f24) = true)
    (aP1 : PySem.W.nsIn K mainGlobals "PRIMES" = some (some (.ref aP))) (lP : K.lookup aP = some ⟨.type "tuple", dP, .seq #[.int 2 t2, .int 3 t3, .int 5 t5, .int 7 t7, .int 11 t11, .int 13 t13, .int 17 t17, .int 19 t19, .int 23 t23, .int 29 t29, .int 31 t31] nP, slP⟩)
    (aM : PySem.W.nsIn K mainGlobals "MOST_DEGREE" = some (some (.int 40 tM)))
    (z_isinstance : PySem.W.nsIn K mainGlobals "isinstance" = some none)
    (z_tuple : PySem.W.nsIn K mainGlobals "tuple" = some none)
    (z_all : PySem.W.nsIn K mainGlobals "all" = some none)
    (z_len : PySem.W.nsIn K mainGlobals "len" = some none)
    (z_max : PySem.W.nsIn K mainGlobals "max" = some none)
    (z_zip : PySem.W.nsIn K mainGlobals "zip" = some none)
    (z_range : PySem.W.nsIn K mainGlobals "range" = some none)
    (z_enumerate : PySem.W.nsIn K mainGlobals "enumerate" = some none)
    (z_list : PySem.W.nsIn K mainGlobals "list" = some none)
    (z_int : PySem.W.nsIn K mainGlobals "int" = some none)
    (z_bool : PySem.W.nsIn K mainGlobals "bool" = some none)
    (z_str : PySem.W.nsIn K mainGlobals "str" = some none) :
    ∃ fd : FuncData, (∀ (s : Shared) (v : Value), BindsTo s fd ⟨[v], []⟩ [("_law_script", v)]) ∧ ∀ base : Heap, K.In base → base.Ns mainGlobals mg → FnOk l.prog w K mg base CX0 7 fa fd ["_law_script"] (sp_law K) := by
  have e := hfa.symm.trans (PySem.W.mg_of X G a24)
  cases e
  have F0 := fun_mk (st := s_is_int) l0 c0 k0
  have D0 : Df K mg "is_int" s_is_int ["value"] f0 _ := ⟨F0, F0.binds (ps := ["value"]) fun _ _ _ _ _ _ us hl => match us, hl with | [_], _ => rfl, PySem.W.mg_of X G a0⟩
  have F1 := fun_mk (st := s_is_in) l1 c1 k1
  have D1 : Df K mg "is_in" s_is_in ["value", "least", "most"] f1 _ := ⟨F1, F1.binds (ps := ["value", "least", "most"]) fun _ _ _ _ _ _ us hl => match us, hl with | [_, _, _], _ => rfl, PySem.W.mg_of X G a1⟩
  have F2 := fun_mk (st := s_need_prime) l2 c2 k2
  have D2 : Df K mg "need_prime" s_need_prime ["value"] f2 _ := ⟨F2, F2.binds (ps := ["value"]) fun _ _ _ _ _ _ us hl => match us, hl with | [_], _ => rfl, PySem.W.mg_of X G a2⟩
  have F3 := fun_mk (st := s_inverse) l3 c3 k3
  have D3 : Df K mg "inverse" s_inverse ["p", "number"] f3 _ := ⟨F3, F3.binds (ps := ["p", "number"]) fun _ _ _ _ _ _ us hl => match us, hl with | [_, _], _ => rfl, PySem.W.mg_of X G a3⟩
  have F4 := fun_mk (st := s_is_free) l4 c4 k4
  have D4 : Df K mg "is_free" s_is_free ["p", "value"] f4 _ := ⟨F4, F4.binds (ps := ["p", "value"]) fun _ _ _ _ _ _ us hl => match us, hl with | [_, _], _ => rfl, PySem.W.mg_of X G a4⟩
  have F5 := fun_mk (st := s_is_poly) l5 c5 k5
  have D5 : Df K mg "is_poly" s_is_poly ["p", "value"] f5 _ := ⟨F5, F5.binds (ps := ["p", "value"]) fun _ _ _ _ _ _ us hl => match us, hl with | [_, _], _ => rfl, PySem.W.mg_of X G a5⟩
  have F6 := fun_mk (st := s_need_poly) l6 c6 k6
  have D6 : Df K mg "need_poly" s_need_poly ["p", "value"] f6 _ := ⟨F6, F6.binds (ps := ["p", "value"]) fun _ _ _ _ _ _ us hl => match us, hl with | [_, _], _ => rfl, PySem.W.mg_of X G a6⟩
  have F7 := fun_mk (st := s_trimmed) l7 c7 k7
  have D7 : Df K mg "trimmed" s_trimmed ["some"] f7 _ := ⟨F7, F7.binds (ps := ["some"]) fun _ _ _ _ _ _ us hl => match us, hl with | [_], _ => rfl, PySem.W.mg_of X G a7⟩
  have F8 := fun_mk (st := s_plus) l8 c8 k8
  have D8 : Df K mg "plus" s_plus ["p", "one", "other"] f8 _ := ⟨F8, F8.binds (ps := ["p", "one", "other"]) fun _ _ _ _ _ _ us hl => match us, hl with | [_, _, _], _ => rfl, PySem.W.mg_of X G a8⟩
  have F9 := fun_mk (st := s_times) l9 c9 k9
  have D9 : Df K mg "times" s_times ["p", "one", "other"] f9 _ := ⟨F9, F9.binds (ps := ["p", "one", "other"]) fun _ _ _ _ _ _ us hl => match us, hl with | [_, _, _], _ => rfl, PySem.W.mg_of X G a9⟩
  have F10 := fun_mk (st := s_parted) l10 c10 k10
  have D10 : Df K mg "parted" s_parted ["p", "one", "other"] f10 _ := ⟨F10, F10.binds (ps := ["p", "one", "other"]) fun _ _ _ _ _ _ us hl => match us, hl with | [_, _, _], _ => rfl, PySem.W.mg_of X G a10⟩
  have F11 := fun_mk (st := s_small) l11 c11 k11
  have D11 : Df K mg "small" s_small ["one"] f11 _ := ⟨F11, F11.binds (ps := ["one"]) fun _ _ _ _ _ _ us hl => match us, hl with | [_], _ => rfl, PySem.W.mg_of X G a11⟩
  have F12 := fun_mk (st := s_add) l12 c12 k12
  have D12 : Df K mg "add" s_add ["p", "one", "other"] f12 _ := ⟨F12, F12.binds (ps := ["p", "one", "other"]) fun _ _ _ _ _ _ us hl => match us, hl with | [_, _, _], _ => rfl, PySem.W.mg_of X G a12⟩
  have F13 := fun_mk (st := s_multiply) l13 c13 k13
  have D13 : Df K mg "multiply" s_multiply ["p", "one", "other"] f13 _ := ⟨F13, F13.binds (ps := ["p", "one", "other"]) fun _ _ _ _ _ _ us hl => match us, hl with | [_, _, _], _ => rfl, PySem.W.mg_of X G a13⟩
  have F14 := fun_mk (st := s_divide) l14 c14 k14
  have D14 : Df K mg "divide" s_divide ["p", "one", "other"] f14 _ := ⟨F14, F14.binds (ps := ["p", "one", "other"]) fun _ _ _ _ _ _ us hl => match us, hl with | [_, _, _], _ => rfl, PySem.W.mg_of X G a14⟩
  have F15 := fun_mk (st := s_w_taken) l15 c15 k15
  have D15 : Df K mg "_law_taken" s_w_taken ["_law_row", "_law_many"] f15 _ := ⟨F15, F15.binds (ps := ["_law_row", "_law_many"]) fun _ _ _ _ _ _ us hl => match us, hl with | [_, _], _ => rfl, PySem.W.mg_of X G a15⟩
  have F16 := fun_mk (st := s_w_pick) l16 c16 k16
  have D16 : Df K mg "_law_pick" s_w_pick ["_law_row", "_law_things"] f16 _ := ⟨F16, F16.binds (ps := ["_law_row", "_law_things"]) fun _ _ _ _ _ _ us hl => match us, hl with | [_, _], _ => rfl, PySem.W.mg_of X G a16⟩
  have F17 := fun_mk (st := s_w_alike) l17 c17 k17
  have D17 : Df K mg "_law_alike" s_w_alike ["_law_found", "_law_due"] f17 _ := ⟨F17, F17.binds (ps := ["_law_found", "_law_due"]) fun _ _ _ _ _ _ us hl => match us, hl with | [_, _], _ => rfl, PySem.W.mg_of X G a17⟩
  have F18 := fun_mk (st := s_w_prime) l18 c18 k18
  have D18 : Df K mg "_law_prime" s_w_prime ["_law_row"] f18 _ := ⟨F18, F18.binds (ps := ["_law_row"]) fun _ _ _ _ _ _ us hl => match us, hl with | [_], _ => rfl, PySem.W.mg_of X G a18⟩
  have F19 := fun_mk (st := s_w_trim) l19 c19 k19
  have D19 : Df K mg "_law_trim" s_w_trim ["_law_some_here"] f19 _ := ⟨F19, F19.binds (ps := ["_law_some_here"]) fun _ _ _ _ _ _ us hl => match us, hl with | [_], _ => rfl, PySem.W.mg_of X G a19⟩
  have F20 := fun_mk (st := s_w_poly) l20 c20 k20
  have D20 : Df K mg "_law_poly" s_w_poly ["_law_row", "_law_p", "_law_most"] f20 _ := ⟨F20, F20.binds (ps := ["_law_row", "_law_p", "_law_most"]) fun _ _ _ _ _ _ us hl => match us, hl with | [_, _, _], _ => rfl, PySem.W.mg_of X G a20⟩
  have F21 := fun_mk (st := s_w_some) l21 c21 k21
  have D21 : Df K mg "_law_some" s_w_some ["_law_row", "_law_p", "_law_most"] f21 _ := ⟨F21, F21.binds (ps := ["_law_row", "_law_p", "_law_most"]) fun _ _ _ _ _ _ us hl => match us, hl with | [_, _, _], _ => rfl, PySem.W.mg_of X G a21⟩
  have F22 := fun_mk (st := s_w_sum) l22 c22 k22
  have D22 : Df K mg "_law_sum" s_w_sum ["_law_p", "_law_one", "_law_other"] f22 _ := ⟨F22, F22.binds (ps := ["_law_p", "_law_one", "_law_other"]) fun _ _ _ _ _ _ us hl => match us, hl with | [_, _, _], _ => rfl, PySem.W.mg_of X G a22⟩
  have F23 := fun_mk (st := s_w_times) l23 c23 k23
  have D23 : Df K mg "_law_times" s_w_times ["_law_p", "_law_one", "_law_other"] f23 _ := ⟨F23, F23.binds (ps := ["_law_p", "_law_one", "_law_other"]) fun _ _ _ _ _ _ us hl => match us, hl with | [_, _, _], _ => rfl, PySem.W.mg_of X G a23⟩
  have F24 := fun_mk (st := s_w_law) l24 c24 k24
  have BL : Bl mg := ⟨PySem.W.mg_none_of X G z_isinstance, PySem.W.mg_none_of X G z_tuple, PySem.W.mg_none_of X G z_all, PySem.W.mg_none_of X G z_len, PySem.W.mg_none_of X G z_max, PySem.W.mg_none_of X G z_zip, PySem.W.mg_none_of X G z_range, PySem.W.mg_none_of X G z_enumerate, PySem.W.mg_none_of X G z_list, PySem.W.mg_none_of X G z_int, PySem.W.mg_none_of X G z_bool, PySem.W.mg_none_of X G z_str⟩
  have hP : ∀ H : Hp, SqT K H aP (iv PR) := fun H => .inr ⟨_, _, _, lP, rfl, rfl, (by decide : 11 ≤ sizeLine), .cons ⟨_, rfl⟩ (.cons ⟨_, rfl⟩ (.cons ⟨_, rfl⟩ (.cons ⟨_, rfl⟩ (.cons ⟨_, rfl⟩ (.cons ⟨_, rfl⟩ (.cons ⟨_, rfl⟩ (.cons ⟨_, rfl⟩ (.cons ⟨_, rfl⟩ (.cons ⟨_, rfl⟩ (.cons ⟨_, rfl⟩ (.nil)))))))))))⟩
  have TB : Base K mg := ⟨BL, ⟨_, _, D0⟩, ⟨_, _, D1⟩, ⟨_, _, D2⟩, ⟨_, _, D3⟩, ⟨_, _, D4⟩, ⟨_, _, D5⟩, ⟨_, _, D6⟩, ⟨_, _, D7⟩, ⟨_, _, D8⟩, ⟨_, _, D9⟩, ⟨_, _, D10⟩, ⟨_, _, D11⟩, ⟨_, PySem.W.mg_of X G aP1, hP⟩, ⟨_, PySem.W.mg_of X G aM⟩⟩
  have T : Laws K mg := ⟨TB, ⟨_, _, D12⟩, ⟨_, _, D13⟩, ⟨_, _, D14⟩, ⟨_, _, D15⟩, ⟨_, _, D16⟩, ⟨_, _, D17⟩, ⟨_, _, D18⟩, ⟨_, _, D19⟩, ⟨_, _, D20⟩, ⟨_, _, D21⟩, ⟨_, _, D22⟩, ⟨_, _, D23⟩⟩
  exact ⟨_, fun s v => .of_eq rfl, fun base _ _ => ok_law F24 T⟩
end KW

open PySem PySem.W PyProof.Rows
set_option maxRecDepth 100000 in
set_option maxHeartbeats 0 in
theorem PySem.Challenge.cw_steerloops_k01_whole_polynomials_holds : PySem.Challenge.rw_steerloops_k01_whole_polynomials.Holds := by
  w_on; o_law; k_head; (case hw => w_witness2)
  k_fill
  refine L2.walk_of (l := PySem.Challenge.rw_steerloops_k01_whole_polynomials) (n := 63) (k := 7) (x := "_law_script") (CX := fun _ => L2.CX0) (sp := fun w => KW.sp_law _) rfl (by decide) rfl ⟨rfl, by decide, by decide⟩ (fun w h Y => PySem.W.kIn_of Y) ?F
    (fun _ _ a ns hl ho hS => ⟨a, ns, rfl, KW.scr_of ho hS, hl, fun _ => rfl⟩) (fun _ _ _ _ _ h => h)
  case F =>
    intro w mg fa h KX G hmg
    refine' KW.all_mk KX G hmg ?a0 ?l0 ?c0 ?k0 ?a1 ?l1 ?c1 ?k1 ?a2 ?l2 ?c2 ?k2 ?a3 ?l3 ?c3 ?k3 ?a4 ?l4 ?c4 ?k4 ?a5 ?l5 ?c5 ?k5 ?a6 ?l6 ?c6 ?k6 ?a7 ?l7 ?c7 ?k7 ?a8 ?l8 ?c8 ?k8 ?a9 ?l9 ?c9 ?k9 ?a10 ?l10 ?c10 ?k10 ?a11 ?l11 ?c11 ?k11 ?a12 ?l12 ?c12 ?k12 ?a13 ?l13 ?c13 ?k13 ?a14 ?l14 ?c14 ?k14 ?a15 ?l15 ?c15 ?k15 ?a16 ?l16 ?c16 ?k16 ?a17 ?l17 ?c17 ?k17 ?a18 ?l18 ?c18 ?k18 ?a19 ?l19 ?c19 ?k19 ?a20 ?l20 ?c20 ?k20 ?a21 ?l21 ?c21 ?k21 ?a22 ?l22 ?c22 ?k22 ?a23 ?l23 ?c23 ?k23 ?a24 ?l24 ?c24 ?k24 ?aP1 ?lP ?aM ?z_isinstance ?z_tuple ?z_all ?z_len ?z_max ?z_zip ?z_range ?z_enumerate ?z_list ?z_int ?z_bool ?z_str
    (case a0 => k_is)
    (case l0 => k_is)
    (case c0 => k_is)
    (case k0 => k_is)
    (case a1 => k_is)
    (case l1 => k_is)
    (case c1 => k_is)
    (case k1 => k_is)
    (case a2 => k_is)
    (case l2 => k_is)
    (case c2 => k_is)
    (case k2 => k_is)
    (case a3 => k_is)
    (case l3 => k_is)
    (case c3 => k_is)
    (case k3 => k_is)
    (case a4 => k_is)
    (case l4 => k_is)
    (case c4 => k_is)
    (case k4 => k_is)
    (case a5 => k_is)
    (case l5 => k_is)
    (case c5 => k_is)
    (case k5 => k_is)
    (case a6 => k_is)
    (case l6 => k_is)
    (case c6 => k_is)
    (case k6 => k_is)
    (case a7 => k_is)
    (case l7 => k_is)
    (case c7 => k_is)
    (case k7 => k_is)
    (case a8 => k_is)
    (case l8 => k_is)
    (case c8 => k_is)
    (case k8 => k_is)
    (case a9 => k_is)
    (case l9 => k_is)
    (case c9 => k_is)
    (case k9 => k_is)
    (case a10 => k_is)
    (case l10 => k_is)
    (case c10 => k_is)
    (case k10 => k_is)
    (case a11 => k_is)
    (case l11 => k_is)
    (case c11 => k_is)
    (case k11 => k_is)
    (case a12 => k_is)
    (case l12 => k_is)
    (case c12 => k_is)
    (case k12 => k_is)
    (case a13 => k_is)
    (case l13 => k_is)
    (case c13 => k_is)
    (case k13 => k_is)
    (case a14 => k_is)
    (case l14 => k_is)
    (case c14 => k_is)
    (case k14 => k_is)
    (case a15 => k_is)
    (case l15 => k_is)
    (case c15 => k_is)
    (case k15 => k_is)
    (case a16 => k_is)
    (case l16 => k_is)
    (case c16 => k_is)
    (case k16 => k_is)
    (case a17 => k_is)
    (case l17 => k_is)
    (case c17 => k_is)
    (case k17 => k_is)
    (case a18 => k_is)
    (case l18 => k_is)
    (case c18 => k_is)
    (case k18 => k_is)
    (case a19 => k_is)
    (case l19 => k_is)
    (case c19 => k_is)
    (case k19 => k_is)
    (case a20 => k_is)
    (case l20 => k_is)
    (case c20 => k_is)
    (case k20 => k_is)
    (case a21 => k_is)
    (case l21 => k_is)
    (case c21 => k_is)
    (case k21 => k_is)
    (case a22 => k_is)
    (case l22 => k_is)
    (case c22 => k_is)
    (case k22 => k_is)
    (case a23 => k_is)
    (case l23 => k_is)
    (case c23 => k_is)
    (case k23 => k_is)
    (case a24 => k_is)
    (case l24 => k_is)
    (case c24 => k_is)
    (case k24 => k_is)
    (case aP1 => k_is)
    (case lP => k_is)
    (case aM => k_is)
    (case z_isinstance => k_is)
    (case z_tuple => k_is)
    (case z_all => k_is)
    (case z_len => k_is)
    (case z_max => k_is)
    (case z_zip => k_is)
    (case z_range => k_is)
    (case z_enumerate => k_is)
    (case z_list => k_is)
    (case z_int => k_is)
    (case z_bool => k_is)
    (case z_str => k_is)
#print axioms PySem.Challenge.cw_steerloops_k01_whole_polynomials_holds
