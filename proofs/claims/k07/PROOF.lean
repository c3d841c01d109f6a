import PyProof.Rows.All
import Wide.All
import OpenK.AllK
import Wide.FinOn
import KE.KStateDown
import HandS.ForMost
import HandS.More
import HandS.Defaults
import HandS.Slots
import HandS.SlotsOwn
import HandS.Head0
import HandS.Head1
import HandS.Head2
import HandS.Head3
import HandS.HeadEnd
import HandS.HeadHook1
import HandS.HeadHook2
import HandS.HeadNt
import HandS.ExcField
import HandS.DictTup
import HandS.DictComp
import HandS.Style
import HandS.Zip
import HandS.Walk
import KE.KDictWalk
import HandS.TupSets
import HandS.Conv
import KE.KDictKeyed
import KE.KDictSum
import HandS.SortKw
import KE.DataMinMax
import KE.KDictItemsList
import KE.GoesEnum
import KE.KEqDict
import KE.KDictDisplayH
import KE.KExcSuper
import KE.KSuper
import PyProof.ExcBaseAll.ArithmeticError
import HandS.Exc
import HandS.Ends
import HandS.ExcSuper
import OpenK.KMeth
import PyProof.InstEq
import HandS.Gcd
import HandS.Wide
import HandS.Star
import HandS.ExcOwn
import HandS.Codes
import HandS.Words
import HandS.AnyAll
import HandS.TupMul
import HandS.Flow
import HandS.IsInst
import HandS.TupLen
import HandS.WordsDict
import PySem.Challenge.RW_tangentrows_k07_whole_quotients_and_orde
set_option Elab.async false
section
set_option Elab.async false
namespace Tg
/-! Exponents, tables, forms as functions. -/
abbrev K := List Int
abbrev T := List (K × Int)
abbrev F := K → Int

def low (p n : Int) : Int := if p = 0 then n else n % p
theorem low0 (n : Int) : low 0 n = n := if_pos rfl
theorem lowp {p : Int} (h : p ≠ 0) (n : Int) : low p n = n % p := if_neg h
theorem low_zero (p : Int) : low p 0 = 0 := by unfold low; split <;> simp
theorem low_low (p n : Int) : low p (low p n) = low p n := by
  unfold low; split
  · rfl
  · exact Int.emod_emod_of_dvd _ (Int.dvd_refl _)
theorem low_add (p a b : Int) : low p (low p a + b) = low p (a + b) := by
  unfold low; split
  · rfl
  · exact Int.emod_add_emod ..
theorem low_add' (p a b : Int) : low p (a + low p b) = low p (a + b) := by
  rw [Int.add_comm, low_add, Int.add_comm]
theorem low_sub (p a b : Int) : low p (low p a - b) = low p (a - b) := by
  rw [Int.sub_eq_add_neg, low_add, Int.sub_eq_add_neg]
theorem low_mul (p a b : Int) : low p (low p a * b) = low p (a * b) := by
  unfold low; split
  · rfl
  · rw [Int.mul_emod, Int.emod_emod_of_dvd _ (Int.dvd_refl _), ← Int.mul_emod]
theorem low_mul' (p a b : Int) : low p (a * low p b) = low p (a * b) := by
  rw [Int.mul_comm, low_mul, Int.mul_comm]
theorem low_sub' (p a b : Int) : low p (a - low p b) = low p (a - b) := by
  have h : a - low p b = low p b * (-1) + a := by omega
  have h2 : a - b = b * (-1) + a := by omega
  rw [h, ← low_add, low_mul, low_add, ← h2]
theorem low_eq {p a b c : Int} (h : low p a = low p b) : low p (a + c) = low p (b + c) := by
  rw [← low_add, h, low_add]
theorem low_eqm {p a b c : Int} (h : low p a = low p b) : low p (a * c) = low p (b * c) := by
  rw [← low_mul, h, low_mul]

/-- the drawn primes -/
def Pm (p : Int) : Prop := p = 0 ∨ p = 2 ∨ p = 3 ∨ p = 5 ∨ p = 7 ∨ p = 11
theorem Pm.nn {p : Int} (h : Pm p) : 0 ≤ p := by unfold Pm at h; omega
theorem Pm.le {p : Int} (h : Pm p) : p ≤ 11 := by unfold Pm at h; omega
theorem prime_fin : ∀ p : Fin 12, (p.val = 2 ∨ p.val = 3 ∨ p.val = 5 ∨ p.val = 7 ∨ p.val = 11) → ∀ a : Fin 12, ∀ b : Fin 12, a.val < p.val → b.val < p.val → (a.val * b.val) % p.val = 0 → a.val = 0 ∨ b.val = 0 := by decide +kernel
theorem inv_fin : ∀ p : Fin 12, (p.val = 2 ∨ p.val = 3 ∨ p.val = 5 ∨ p.val = 7 ∨ p.val = 11) → ∀ a : Fin 12, a.val < p.val → a.val ≠ 0 → ∃ b : Fin 12, b.val < p.val ∧ 0 < b.val ∧ (b.val * a.val) % p.val = 1 := by decide +kernel
theorem nat_of {p : Int} (h : Pm p) (h0 : p ≠ 0) : ∃ q : Fin 12, (q.val = 2 ∨ q.val = 3 ∨ q.val = 5 ∨ q.val = 7 ∨ q.val = 11) ∧ p = (q.val : Int) := by
  rcases h with h | h | h | h | h | h
  · exact absurd h h0
  · exact ⟨2, by decide, h⟩
  · exact ⟨3, by decide, h⟩
  · exact ⟨5, by decide, h⟩
  · exact ⟨7, by decide, h⟩
  · exact ⟨11, by decide, h⟩
theorem low_bd {p : Int} (h : Pm p) (h0 : p ≠ 0) (n : Int) : 0 ≤ low p n ∧ low p n < p := by
  rw [lowp h0]
  have := h.nn
  exact ⟨Int.emod_nonneg _ h0, Int.emod_lt_of_pos _ (by omega)⟩
theorem low_self {p n : Int} (h0 : p ≠ 0) (h1 : 0 ≤ n) (h2 : n < p) : low p n = n := by
  rw [lowp h0]; exact Int.emod_eq_of_lt h1 h2
theorem Pm.mul {p x y : Int} (h : Pm p) (e : low p (x * y) = 0) : low p x = 0 ∨ low p y = 0 := by
  by_cases h0 : p = 0
  · subst h0
    rw [low0] at e
    rw [low0, low0]
    exact Int.mul_eq_zero.mp e
  · obtain ⟨q, hq, rfl⟩ := nat_of h h0
    rw [← low_mul, ← low_mul'] at e
    obtain ⟨a1, a2⟩ := low_bd h h0 x
    obtain ⟨b1, b2⟩ := low_bd h h0 y
    generalize low (q.val : Int) x = a at *
    generalize low (q.val : Int) y = b at *
    obtain ⟨a, rfl⟩ := Int.eq_ofNat_of_zero_le a1
    obtain ⟨b, rfl⟩ := Int.eq_ofNat_of_zero_le b1
    have a3 : a < q.val := by omega
    have b3 : b < q.val := by omega
    have q12 := q.isLt
    rw [lowp h0] at e
    have e' : (a * b) % q.val = 0 := by
      have e2 : (((a * b) % q.val : Nat) : Int) = 0 := by simpa using e
      omega
    rcases prime_fin q hq ⟨a, by omega⟩ ⟨b, by omega⟩ a3 b3 e' with z | z
    · left; exact congrArg Int.ofNat z
    · right; exact congrArg Int.ofNat z
/-- the inverse over a prime -/
def IsInv (p d i : Int) : Prop := 0 ≤ i ∧ i < p ∧ (i * d) % p = 1
theorem inv_ex {p d : Int} (h : Pm p) (h0 : p ≠ 0) (hd : low p d ≠ 0) : ∃ i, IsInv p d i ∧ 0 < i := by
  obtain ⟨q, hq, rfl⟩ := nat_of h h0
  obtain ⟨a1, a2⟩ := low_bd h h0 d
  have e : ∀ i : Int, (i * d) % (q.val : Int) = (i * low (q.val : Int) d) % (q.val : Int) := fun i => by
    rw [← lowp h0 (i * d), ← lowp h0 (i * low _ d)]
    exact (low_mul' _ i d).symm
  generalize low (q.val : Int) d = a at *
  obtain ⟨a, rfl⟩ := Int.eq_ofNat_of_zero_le a1
  have a3 : a < q.val := by omega
  have q12 := q.isLt
  obtain ⟨b, b1, b2, b3⟩ := inv_fin q hq ⟨a, by omega⟩ a3 (by intro z; apply hd; exact congrArg Int.ofNat z)
  refine ⟨(b.val : Int), ⟨by omega, by omega, ?_⟩, by omega⟩
  rw [e]
  have e2 : (((b.val * a) % q.val : Nat) : Int) = 1 := by
    have b3' : (b.val * a) % q.val = 1 := b3
    rw [b3']; rfl
  simpa using e2
theorem one_low {p : Int} (h : Pm p) (h0 : p ≠ 0) : (1 : Int) % p = 1 := by
  unfold Pm at h
  exact Int.emod_eq_of_lt (by omega) (by omega)
theorem inv_uniq {p d i j : Int} (h : Pm p) (h0 : p ≠ 0) (a : IsInv p d i) (b : IsInv p d j) : i = j := by
  obtain ⟨a1, a2, a3⟩ := a
  obtain ⟨b1, b2, b3⟩ := b
  have e1 : (i * (j * d)) % p = i % p := by
    rw [Int.mul_emod, b3, Int.mul_emod, one_low h h0]
    simp
  have e2 : (i * (j * d)) % p = j % p := by
    have : i * (j * d) = j * (i * d) := by rw [← Int.mul_assoc, Int.mul_comm i j, Int.mul_assoc]
    rw [this, Int.mul_emod, a3, Int.mul_emod, one_low h h0]
    simp
  rw [Int.emod_eq_of_lt a1 a2] at e1
  rw [Int.emod_eq_of_lt b1 b2] at e2
  omega
/-- a quotient of two numbers -/
def Qo (p n d : Int) (r : Option Int) : Prop :=
  (p ≠ 0 ∧ ∃ i, IsInv p d i ∧ r = some (n * i % p)) ∨ (p = 0 ∧ ((d ∣ n ∧ r = some (n / d)) ∨ (¬ d ∣ n ∧ r = none)))
theorem Qo.det {p n d : Int} {r r' : Option Int} (h : Pm p) (a : Qo p n d r) (b : Qo p n d r') : r = r' := by
  rcases a with ⟨h0, i, hi, rfl⟩ | ⟨h0, a⟩
  · rcases b with ⟨_, j, hj, rfl⟩ | ⟨h1, _⟩
    · rw [inv_uniq h h0 hi hj]
    · exact absurd h1 h0
  · rcases b with ⟨h1, _⟩ | ⟨_, b⟩
    · exact absurd h0 h1
    · rcases a with ⟨a1, rfl⟩ | ⟨a1, rfl⟩
      · rcases b with ⟨b1, rfl⟩ | ⟨b1, rfl⟩
        · rfl
        · exact absurd a1 b1
      · rcases b with ⟨b1, rfl⟩ | ⟨b1, rfl⟩
        · exact absurd b1 a1
        · rfl
/-- it undoes the product -/
theorem Qo.back {p n d c : Int} (a : Qo p n d (some c)) : low p (c * d) = low p n := by
  rcases a with ⟨h0, i, ⟨i1, i2, i3⟩, e⟩ | ⟨h0, a⟩
  · cases e
    have e1 : low p (n * i % p * d) = low p (n * i * d) := by rw [← lowp h0, low_mul]
    rw [e1, Int.mul_assoc, ← low_mul', lowp h0 (i * d), i3, Int.mul_one]
  · subst h0
    rcases a with ⟨a1, e⟩ | ⟨_, e⟩
    · cases e
      rw [Int.ediv_mul_cancel a1]
    · cases e
theorem Qo.of_mul {p c d : Int} (h : Pm p) (hc : low p c = c) (hd : low p d ≠ 0) : Qo p (low p (c * d)) d (some c) := by
  by_cases h0 : p = 0
  · subst h0
    rw [low0] at *
    right
    refine ⟨rfl, .inl ⟨⟨c, Int.mul_comm _ _⟩, ?_⟩⟩
    rw [Int.mul_ediv_cancel _ hd]
  · left
    obtain ⟨i, hi, _⟩ := inv_ex h h0 hd
    refine ⟨h0, i, hi, ?_⟩
    obtain ⟨i1, i2, i3⟩ := hi
    have e : low p (c * d) * i % p = c := by
      rw [← lowp h0, low_mul, Int.mul_assoc, ← low_mul', lowp h0 (d * i), Int.mul_comm d i, i3, Int.mul_one]
      exact hc
    rw [e]
theorem Qo.red {p n d c : Int} (a : Qo p n d (some c)) : low p c = c := by
  rcases a with ⟨h0, i, _, e⟩ | ⟨h0, a⟩
  · cases e
    rw [← lowp h0, low_low]
  · subst h0
    exact low0 c
end Tg
end
section
set_option Elab.async false
namespace Tg
/-! ### exponents -/
def cd : K → Int
  | [] => 0
  | d :: r => d * 64 ^ r.length + cd r
def ad (k j : K) : K := List.zipWith (· + ·) k j
def sb (k j : K) : K := List.zipWith (· - ·) k j
/-- the exponents of a term of a degree -/
structure Mo (L : Nat) (D : Int) (k : K) : Prop where
  len : k.length = L
  nn : ∀ x ∈ k, 0 ≤ x
  sum : k.sum = D
theorem ad_len {k j : K} {L : Nat} (h : k.length = L) (h' : j.length = L) : (ad k j).length = L := by
  unfold ad; rw [List.length_zipWith]; omega
theorem sb_len {k j : K} {L : Nat} (h : k.length = L) (h' : j.length = L) : (sb k j).length = L := by
  unfold sb; rw [List.length_zipWith]; omega
theorem cd_ad : ∀ {k j : K}, k.length = j.length → cd (ad k j) = cd k + cd j
  | [], [], _ => rfl
  | a :: k, b :: j, h => by
    have hl : k.length = j.length := by simpa using h
    show (a + b) * 64 ^ (ad k j).length + cd (ad k j) = (a * 64 ^ k.length + cd k) + (b * 64 ^ j.length + cd j)
    rw [cd_ad hl, ad_len rfl hl.symm, hl, Int.add_mul]
    generalize a * 64 ^ j.length = x
    generalize b * 64 ^ j.length = y
    omega
theorem cd_sb : ∀ {k j : K}, k.length = j.length → cd (sb k j) = cd k - cd j
  | [], [], _ => rfl
  | a :: k, b :: j, h => by
    have hl : k.length = j.length := by simpa using h
    show (a - b) * 64 ^ (sb k j).length + cd (sb k j) = (a * 64 ^ k.length + cd k) - (b * 64 ^ j.length + cd j)
    rw [cd_sb hl, sb_len rfl hl.symm, hl, Int.sub_mul]
    generalize a * 64 ^ j.length = x
    generalize b * 64 ^ j.length = y
    omega
theorem sb_ad : ∀ {k j : K}, k.length = j.length → sb (ad k j) j = k
  | [], [], _ => rfl
  | a :: k, b :: j, h => by
    have hl : k.length = j.length := by simpa using h
    show (a + b - b) :: sb (ad k j) j = a :: k
    rw [sb_ad hl]; congr 1; omega
theorem ad_sb : ∀ {k j : K}, k.length = j.length → ad (sb k j) j = k
  | [], [], _ => rfl
  | a :: k, b :: j, h => by
    have hl : k.length = j.length := by simpa using h
    show (a - b + b) :: ad (sb k j) j = a :: k
    rw [ad_sb hl]; congr 1; omega
theorem sb_sb : ∀ {k j : K}, k.length = j.length → sb k (sb k j) = j
  | [], [], _ => rfl
  | a :: k, b :: j, h => by
    have hl : k.length = j.length := by simpa using h
    show (a - (a - b)) :: sb k (sb k j) = b :: j
    rw [sb_sb hl]; congr 1; omega
theorem ad_comm (k j : K) : ad k j = ad j k := by
  unfold ad; rw [List.zipWith_comm]; congr 1; funext a b; omega
theorem sum_ad : ∀ {k j : K}, k.length = j.length → (ad k j).sum = k.sum + j.sum
  | [], [], _ => rfl
  | a :: k, b :: j, h => by
    have hl : k.length = j.length := by simpa using h
    show ((a + b) :: ad k j).sum = _
    rw [List.sum_cons, sum_ad hl, List.sum_cons, List.sum_cons]; omega
theorem sum_sb : ∀ {k j : K}, k.length = j.length → (sb k j).sum = k.sum - j.sum
  | [], [], _ => rfl
  | a :: k, b :: j, h => by
    have hl : k.length = j.length := by simpa using h
    show ((a - b) :: sb k j).sum = _
    rw [List.sum_cons, sum_sb hl, List.sum_cons, List.sum_cons]; omega
theorem nn_ad : ∀ {k j : K}, (∀ x ∈ k, 0 ≤ x) → (∀ x ∈ j, 0 ≤ x) → ∀ x ∈ ad k j, 0 ≤ x
  | [], _, _, _, x, hx => by simp [ad] at hx
  | _ :: _, [], _, _, x, hx => by simp [ad] at hx
  | a :: k, b :: j, h1, h2, x, hx => by
    have hx' : x ∈ (a + b) :: ad k j := hx
    rcases List.mem_cons.mp hx' with e | e
    · have := h1 a List.mem_cons_self
      have := h2 b List.mem_cons_self
      omega
    · exact nn_ad (fun y hy => h1 y (List.mem_cons_of_mem _ hy)) (fun y hy => h2 y (List.mem_cons_of_mem _ hy)) x e
theorem Mo.ad {L : Nat} {D E : Int} {k j : K} (h : Mo L D k) (h' : Mo L E j) : Mo L (D + E) (ad k j) :=
  ⟨ad_len h.len h'.len, nn_ad h.nn h'.nn, by rw [sum_ad (h.len.trans h'.len.symm), h.sum, h'.sum]⟩
theorem Mo.sb {L : Nat} {D E : Int} {k j : K} (h : Mo L D k) (h' : Mo L E j) (hn : ∀ x ∈ sb k j, 0 ≤ x) : Mo L (D - E) (sb k j) :=
  ⟨sb_len h.len h'.len, hn, by rw [sum_sb (h.len.trans h'.len.symm), h.sum, h'.sum]⟩
theorem mem_le_sum : ∀ {k : K}, (∀ x ∈ k, 0 ≤ x) → (0 ≤ k.sum) ∧ ∀ x ∈ k, x ≤ k.sum
  | [], _ => ⟨by simp, fun x hx => by simp at hx⟩
  | a :: k, h => by
    obtain ⟨h0, hl⟩ := mem_le_sum (k := k) fun x hx => h x (List.mem_cons_of_mem _ hx)
    have ha := h a List.mem_cons_self
    rw [List.sum_cons]
    refine ⟨by omega, fun x hx => ?_⟩
    rcases List.mem_cons.mp hx with e | e
    · omega
    · have := hl x e; omega
theorem Mo.le {L : Nat} {D : Int} {k : K} (h : Mo L D k) : ∀ x ∈ k, x ≤ D := fun x hx => by rw [← h.sum]; exact (mem_le_sum h.nn).2 x hx
theorem Mo.deg {L : Nat} {D : Int} {k : K} (h : Mo L D k) : 0 ≤ D := by rw [← h.sum]; exact (mem_le_sum h.nn).1
/-- small exponents -/
def Sm (k : K) : Prop := ∀ x ∈ k, 0 ≤ x ∧ x < 64
theorem Mo.sm {L : Nat} {D : Int} {k : K} (h : Mo L D k) (hD : D ≤ 40) : Sm k := fun x hx => ⟨h.nn x hx, by have := h.le x hx; omega⟩
theorem cd_bd : ∀ {k : K}, Sm k → 0 ≤ cd k ∧ cd k < 64 ^ k.length
  | [], _ => ⟨Int.le_refl 0, by decide⟩
  | d :: r, h => by
    obtain ⟨c0, c1⟩ := cd_bd (k := r) fun x hx => h x (List.mem_cons_of_mem _ hx)
    obtain ⟨d0, d1⟩ := h d List.mem_cons_self
    show 0 ≤ d * 64 ^ r.length + cd r ∧ d * 64 ^ r.length + cd r < 64 ^ (r.length + 1)
    rw [Int.pow_succ]
    have p0 : (0 : Int) ≤ 64 ^ r.length := Int.pow_nonneg (by decide)
    have p1 : 0 ≤ d * 64 ^ r.length := Int.mul_nonneg d0 p0
    have p2 : d * 64 ^ r.length ≤ 63 * 64 ^ r.length := Int.mul_le_mul_of_nonneg_right (by omega) p0
    generalize (64 : Int) ^ r.length = P at *
    omega
theorem cd_inj : ∀ {k j : K}, k.length = j.length → Sm k → Sm j → cd k = cd j → k = j
  | [], [], _, _, _, _ => rfl
  | a :: k, b :: j, hl, h1, h2, e => by
    have hl' : k.length = j.length := by simpa using hl
    have s1 : Sm k := fun x hx => h1 x (List.mem_cons_of_mem _ hx)
    have s2 : Sm j := fun x hx => h2 x (List.mem_cons_of_mem _ hx)
    obtain ⟨c0, c1⟩ := cd_bd s1
    obtain ⟨g0, g1⟩ := cd_bd s2
    have e' : a * 64 ^ k.length + cd k = b * 64 ^ j.length + cd j := e
    rw [hl'] at e' c1
    have hab : a = b := by
      have P0 : (0 : Int) ≤ 64 ^ j.length := Int.pow_nonneg (by decide)
      rcases Int.lt_trichotomy a b with h | h | h
      · exfalso
        have p : (a + 1) * 64 ^ j.length ≤ b * 64 ^ j.length := Int.mul_le_mul_of_nonneg_right (by omega) P0
        rw [Int.add_mul, Int.one_mul] at p
        generalize (64 : Int) ^ j.length = P at *
        generalize a * P = X at *
        generalize b * P = Y at *
        omega
      · exact h
      · exfalso
        have p : (b + 1) * 64 ^ j.length ≤ a * 64 ^ j.length := Int.mul_le_mul_of_nonneg_right (by omega) P0
        rw [Int.add_mul, Int.one_mul] at p
        generalize (64 : Int) ^ j.length = P at *
        generalize a * P = X at *
        generalize b * P = Y at *
        omega
    subst hab
    congr 1
    exact cd_inj hl' s1 s2 (by omega)
theorem Mo.eq {L : Nat} {D : Int} {k j : K} (h : Mo L D k) (h' : Mo L D j) (hD : D ≤ 40) (e : cd k = cd j) : k = j :=
  cd_inj (h.len.trans h'.len.symm) (h.sm hD) (h'.sm hD) e

/-! ### functions -/
/-- all terms have one degree -/
def Hm (L : Nat) (D : Int) (f : F) : Prop := ∀ k, f k ≠ 0 → Mo L D k
def Rdc (p : Int) (f : F) : Prop := ∀ k, low p (f k) = f k
/-- the greatest term -/
def Ld (f : F) (m : K) : Prop := f m ≠ 0 ∧ ∀ k, f k ≠ 0 → cd k ≤ cd m
theorem Ld.uniq {L : Nat} {D : Int} {f : F} {m n : K} (hf : Hm L D f) (hD : D ≤ 40) (a : Ld f m) (b : Ld f n) : m = n := by
  have h1 := a.2 n b.1
  have h2 := b.2 m a.1
  exact (hf m a.1).eq (hf n b.1) hD (by omega)
/-- g, moved by the exponents i -/
def sh (i : K) (g : F) (k : K) : Int := if k.length = i.length then g (sb k i) else 0
theorem sh_hm {L : Nat} {D E : Int} {g : F} {i k : K} (hg : Hm L E g) (hi : Mo L D i) (h : sh i g k ≠ 0) : Mo L (D + E) k ∧ g (sb k i) ≠ 0 := by
  unfold sh at h
  split at h
  · rename_i hl
    have m := hg _ h
    have hk : ad (sb k i) i = k := ad_sb hl
    have := m.ad hi
    rw [hk] at this
    exact ⟨by rw [Int.add_comm]; exact this, h⟩
  · exact absurd rfl h
theorem sh_at {g : F} {i j : K} (h : i.length = j.length) : sh i g (ad i j) = g j := by
  unfold sh
  rw [if_pos (ad_len rfl h.symm), ad_comm, sb_ad h.symm]
theorem sh_zero {i : K} {g : F} (hg : ∀ k, g k = 0) (k : K) : sh i g k = 0 := by
  unfold sh; split
  · exact hg _
  · rfl
theorem sh_low {p : Int} {i : K} {g : F} (hg : Rdc p g) (k : K) : low p (sh i g k) = sh i g k := by
  unfold sh; split
  · exact hg _
  · exact low_zero p

/-- one step of the division -/
def stp (p : Int) (g f : F) (i : K) (c : Int) : F := fun k => low p (f k - c * sh i g k)
/-- the division of f by g, greatest term by greatest term: the terms found, or none -/
inductive Dv (p : Int) (g : F) (h : K) : F → Option T → Prop
  | done {f : F} : (∀ k, f k = 0) → Dv p g h f (some [])
  | bad {f : F} {m : K} : Ld f m → (∃ x ∈ sb m h, x < 0) → Dv p g h f none
  | rest {f : F} {m : K} : Ld f m → Qo p (f m) (g h) none → Dv p g h f none
  | step {f : F} {m : K} {c : Int} {r : Option T} : Ld f m → (∀ x ∈ sb m h, 0 ≤ x) → Qo p (f m) (g h) (some c) → Dv p g h (stp p g f (sb m h) c) r → Dv p g h f (r.map fun l => (sb m h, c) :: l)

/-- what stands of the divisor -/
structure Dvr (p : Int) (L : Nat) (E : Int) (g : F) (h : K) : Prop where
  pm : Pm p
  hm : Hm L E g
  rd : Rdc p g
  ld : Ld g h
  deg : E ≤ 40
section
variable {p : Int} {L : Nat} {D E : Int} {g f : F} {h m : K} {c : Int}
theorem Dvr.mo (G : Dvr p L E g h) : Mo L E h := G.hm h G.ld.1
theorem stp_hm (G : Dvr p L E g h) (hf : Hm L D f) (hm : Ld f m) (hn : ∀ x ∈ sb m h, 0 ≤ x) : Hm L D (stp p g f (sb m h) c) := by
  intro k hk
  by_cases e : f k = 0
  · have e2 : sh (sb m h) g k ≠ 0 := by
      intro z
      apply hk
      unfold stp
      rw [e, z, Int.mul_zero]
      exact low_zero p
    have mm := (hf m hm.1).sb G.mo hn
    have := (sh_hm G.hm mm e2).1
    have e3 : D - E + E = D := by omega
    rw [e3] at this
    exact this
  · exact hf k e
theorem stp_rd : Rdc p (stp p g f (sb m h) c) := fun k => low_low p _
/-- the greatest term goes, and no greater one comes -/
theorem stp_ld (G : Dvr p L E g h) (hf : Hm L D f) (hm : Ld f m) (hD : D ≤ 40) (hn : ∀ x ∈ sb m h, 0 ≤ x) (hc : Qo p (f m) (g h) (some c)) : ∀ k, stp p g f (sb m h) c k ≠ 0 → cd k < cd m := by
  intro k hk
  have mh := G.mo
  have mm := hf m hm.1
  have hl : m.length = h.length := mm.len.trans mh.len.symm
  have ms := mm.sb mh hn
  have hle : cd k ≤ cd m := by
    by_cases e : f k = 0
    · have e2 : sh (sb m h) g k ≠ 0 := by
        intro z; apply hk; unfold stp; rw [e, z, Int.mul_zero]; exact low_zero p
      obtain ⟨mk, gk⟩ := sh_hm G.hm ms e2
      have h1 := G.ld.2 _ gk
      have hl2 : k.length = (sb m h).length := mk.len.trans ms.len.symm
      rw [cd_sb hl2, cd_sb hl] at h1
      omega
    · exact hm.2 k e
  rcases Int.lt_or_eq_of_le hle with z | z
  · exact z
  · exfalso
    have mk : Mo L D k := stp_hm G hf hm hn k hk
    have e : k = m := mk.eq mm hD z
    subst e
    apply hk
    unfold stp
    have e1 : sh (sb k h) g k = g h := by
      have := sh_at (g := g) (i := sb k h) (j := h) (sb_len hl rfl)
      rw [ad_sb hl] at this
      exact this
    rw [e1, ← low_sub', Qo.back hc, low_sub']
    rw [Int.sub_self]
    exact low_zero p
theorem Dv.det (G : Dvr p L E g h) (hD : D ≤ 40) {r r' : Option T} (hf : Hm L D f) (a : Dv p g h f r) (b : Dv p g h f r') : r = r' := by
  have no : ∀ {f : F} {m : K}, Ld f m → (∀ k, f k = 0) → False := fun l z => l.1 (z _)
  induction a generalizing r' with
  | done z =>
    cases b with
    | done _ => rfl
    | bad l _ => exact (no l z).elim
    | rest l _ => exact (no l z).elim
    | step l _ _ _ => exact (no l z).elim
  | bad l x =>
    cases b with
    | done z => exact (no l z).elim
    | bad _ _ => rfl
    | rest _ _ => rfl
    | step l' x' _ _ =>
      exfalso
      have e := l.uniq hf hD l'
      subst e
      obtain ⟨y, hy, hy0⟩ := x
      have := x' y hy
      omega
  | rest l x =>
    cases b with
    | done z => exact (no l z).elim
    | bad _ _ => rfl
    | rest _ _ => rfl
    | step l' _ x' _ =>
      exfalso
      have e := l.uniq hf hD l'
      subst e
      have := Qo.det G.pm x x'
      cases this
  | step l n q d ih =>
    cases b with
    | done z => exact (no l z).elim
    | bad l' x =>
      exfalso
      have e := l.uniq hf hD l'
      subst e
      obtain ⟨y, hy, hy0⟩ := x
      have := n y hy
      omega
    | rest l' x =>
      exfalso
      have e := l.uniq hf hD l'
      subst e
      have := Qo.det G.pm x q
      cases this
    | step l' n' q' d' =>
      have e := l.uniq hf hD l'
      subst e
      have e2 := Option.some.inj (Qo.det G.pm q q')
      subst e2
      rw [ih (stp_hm G hf l n) d']
end
end Tg
end
section
set_option Elab.async false
namespace Tg
/-! ### tables -/
def gt (t : T) (k : K) : Int := ((t.find? fun e => decide (e.1 = k)).map (·.2)).getD 0
def Nd (t : T) : Prop := (t.map (·.1)).Nodup
def Nz (t : T) : Prop := ∀ e ∈ t, e.2 ≠ 0
def Ds (t : T) : Prop := t.Pairwise fun a b => cd b.1 < cd a.1
theorem gt_nil (k : K) : gt [] k = 0 := rfl
theorem gt_cons (e : K × Int) (t : T) (k : K) : gt (e :: t) k = if e.1 = k then e.2 else gt t k := by
  unfold gt
  rw [List.find?_cons]
  by_cases h : e.1 = k
  · rw [if_pos h]; simp [h]
  · rw [if_neg h]; simp [h]
theorem gt_out : ∀ {t : T} {k : K}, k ∉ t.map (·.1) → gt t k = 0
  | [], _, _ => rfl
  | e :: t, k, h => by
    rw [gt_cons, if_neg (fun z => h (by rw [← z]; exact List.mem_cons_self)), gt_out fun z => h (List.mem_cons_of_mem _ z)]
theorem gt_mem : ∀ {t : T} {e : K × Int}, Nd t → e ∈ t → gt t e.1 = e.2
  | [], _, _, h => by simp at h
  | a :: t, e, hn, h => by
    unfold Nd at hn
    rw [List.map_cons, List.nodup_cons] at hn
    rw [gt_cons]
    rcases List.mem_cons.mp h with z | z
    · rw [z, if_pos rfl]
    · rw [if_neg (fun z2 => hn.1 (by rw [z2]; exact List.mem_map_of_mem z))]
      exact gt_mem hn.2 z
theorem gt_ne : ∀ {t : T} {k : K}, gt t k ≠ 0 → (k, gt t k) ∈ t
  | [], _, h => absurd rfl h
  | e :: t, k, h => by
    rw [gt_cons] at h ⊢
    by_cases z : e.1 = k
    · rw [if_pos z] at h ⊢
      subst z
      exact List.mem_cons_self
    · rw [if_neg z] at h ⊢
      exact List.mem_cons_of_mem _ (gt_ne h)
theorem Ds.nd {t : T} (h : Ds t) : Nd t := by
  unfold Nd Ds at *
  rw [List.nodup_iff_pairwise_ne, List.pairwise_map]
  exact h.imp fun {a b} z e => by rw [e] at z; omega
theorem gt_append {a b : T} {k : K} (h : k ∉ a.map (·.1)) : gt (a ++ b) k = gt b k := by
  induction a with
  | nil => rfl
  | cons e a ih =>
    rw [List.cons_append, gt_cons, if_neg (fun z => h (by rw [← z]; exact List.mem_cons_self)), ih fun z => h (List.mem_cons_of_mem _ z)]
theorem gt_append' {a b : T} {k : K} (h : k ∉ b.map (·.1)) : gt (a ++ b) k = gt a k := by
  induction a with
  | nil => exact gt_out h
  | cons e a ih => rw [List.cons_append, gt_cons, gt_cons, ih]
theorem gt_take_succ {t : T} {i : Nat} {e : K × Int} (hn : Nd t) (h : t[i]? = some e) (k : K) : gt (t.take (i + 1)) k = gt (t.take i) k + if k = e.1 then e.2 else 0 := by
  have e1 : t.take (i + 1) = t.take i ++ [e] := by rw [List.take_add_one, h]; rfl
  have hlt : i < t.length := (List.getElem?_eq_some_iff.mp h).1
  have hout : e.1 ∉ (t.take i).map (·.1) := by
    intro z
    rw [List.map_take, List.mem_take_iff_getElem] at z
    obtain ⟨j, hj, ej⟩ := z
    unfold Nd at hn
    have h2 : (t.map (·.1))[i]? = some e.1 := by rw [List.getElem?_map, h]; rfl
    have h3 : (t.map (·.1))[j]? = some e.1 := by rw [List.getElem?_eq_getElem (by omega)]; rw [ej]
    have h4 := (List.getElem?_eq_some_iff.mp h2)
    have h5 := (List.getElem?_eq_some_iff.mp h3)
    obtain ⟨a1, a2⟩ := h4
    obtain ⟨b1, b2⟩ := h5
    have := (List.nodup_iff_pairwise_ne.mp hn)
    have hji : j = i := by
      rcases Nat.lt_trichotomy j i with q | q | q
      · exact absurd (b2.trans a2.symm) (List.pairwise_iff_getElem.mp this j i b1 a1 q)
      · exact q
      · exact absurd (a2.trans b2.symm) (List.pairwise_iff_getElem.mp this i j a1 b1 q)
    omega
  rw [e1]
  by_cases z : k = e.1
  · subst z
    rw [if_pos rfl, gt_append hout, gt_out hout, gt_cons, if_pos rfl]; omega
  · rw [if_neg z, gt_append' (by simp [z]), Int.add_zero]
/-- the value in its place, or at the end -/
def put (t : T) (k : K) (v : Int) : T :=
  if (t.any fun e => decide (e.1 = k)) = true then t.map (fun e => if e.1 = k then (e.1, v) else e) else t ++ [(k, v)]
theorem gt_put (t : T) (k : K) (v : Int) (j : K) : gt (put t k v) j = if j = k then v else gt t j := by
  have hm : ∀ t : T, gt (t.map (fun e => if e.1 = k then (e.1, v) else e)) j = if j = k then (if (t.any fun e => decide (e.1 = k)) = true then v else 0) else gt t j := by
    intro t
    induction t with
    | nil => by_cases z : j = k <;> simp [z, gt_nil]
    | cons e t ih =>
      rw [List.map_cons, gt_cons, ih, gt_cons]
      by_cases z : j = k
      · subst z
        by_cases w : e.1 = j
        · simp [w]
        · rw [if_neg w, if_neg w, if_pos rfl, List.any_cons, decide_eq_false w, Bool.false_or, if_pos rfl]
      · by_cases w : e.1 = k
        · simp [z, w, Ne.symm z]
        · simp [z, w]
  unfold put
  split
  · rename_i h
    rw [hm, h]; simp
  · rename_i h
    by_cases z : j = k
    · subst z
      have : j ∉ t.map (·.1) := by
        intro y
        obtain ⟨e, he, q⟩ := List.mem_map.mp y
        apply h
        exact List.any_eq_true.mpr ⟨e, he, decide_eq_true q⟩
      rw [if_pos rfl, gt_append this, gt_cons, if_pos rfl]
    · rw [if_neg z, gt_append' (by simp [z])]
theorem keys_put (t : T) (k : K) (v : Int) : (put t k v).map (·.1) = if k ∈ t.map (·.1) then t.map (·.1) else t.map (·.1) ++ [k] := by
  unfold put
  by_cases h : k ∈ t.map (·.1)
  · have h' : (t.any fun e => decide (e.1 = k)) = true := by
      obtain ⟨e, he, q⟩ := List.mem_map.mp h
      exact List.any_eq_true.mpr ⟨e, he, decide_eq_true q⟩
    rw [if_pos h', if_pos h, List.map_map]
    apply List.map_congr_left
    intro e _
    by_cases z : e.1 = k <;> simp [z]
  · have h' : ¬ (t.any fun e => decide (e.1 = k)) = true := by
      intro z
      obtain ⟨e, he, q⟩ := List.any_eq_true.mp z
      exact h (List.mem_map.mpr ⟨e, he, of_decide_eq_true q⟩)
    rw [if_neg h', if_neg h, List.map_append]; rfl
theorem nd_put {t : T} (h : Nd t) (k : K) (v : Int) : Nd (put t k v) := by
  unfold Nd at *
  rw [keys_put]
  split
  · exact h
  · rename_i z
    rw [List.nodup_append]
    exact ⟨h, by simp, fun a ha b hb => by simp at hb; subst hb; intro e; exact z (e ▸ ha)⟩
theorem mem_put {t : T} {k : K} {v : Int} {e : K × Int} (h : e ∈ put t k v) : e ∈ t ∨ e = (k, v) := by
  unfold put at h
  split at h
  · obtain ⟨a, ha, q⟩ := List.mem_map.mp h
    split at q
    · rename_i z; right; rw [← q, z]
    · left; rw [← q]; exact ha
  · rcases List.mem_append.mp h with z | z
    · exact .inl z
    · right; simpa using z
theorem put_new {t : T} {k : K} (v : Int) (h : k ∉ t.map (·.1)) : put t k v = t ++ [(k, v)] := by
  unfold put
  rw [if_neg]
  intro z
  obtain ⟨e, he, q⟩ := List.any_eq_true.mp z
  exact h (List.mem_map.mpr ⟨e, he, of_decide_eq_true q⟩)
theorem put_length (t : T) (k : K) (v : Int) : (put t k v).length ≤ t.length + 1 := by
  unfold put; split
  · rw [List.length_map]; omega
  · rw [List.length_append]; exact Nat.le_refl _
/-- descending tables with one function are one -/
theorem Ds.ext : ∀ {a b : T}, Ds a → Ds b → Nz a → Nz b → (∀ k, gt a k = gt b k) → a = b
  | [], [], _, _, _, _, _ => rfl
  | [], e :: b, _, _, _, nb, h => by
    exfalso
    have := h e.1
    rw [gt_cons, if_pos rfl, gt_nil] at this
    exact nb e List.mem_cons_self this.symm
  | e :: a, [], _, _, na, _, h => by
    exfalso
    have := h e.1
    rw [gt_cons, if_pos rfl, gt_nil] at this
    exact na e List.mem_cons_self this
  | e :: a, u :: b, ha, hb, na, nb, h => by
    have hda := ha
    have hdb := hb
    unfold Ds at ha hb
    rw [List.pairwise_cons] at ha hb
    have h1 : (e.1, e.2) ∈ u :: b := by
      have q := h e.1
      rw [gt_cons, if_pos rfl] at q
      have := gt_ne (t := u :: b) (k := e.1) (by rw [← q]; exact na e List.mem_cons_self)
      rw [← q] at this
      exact this
    have h2 : (u.1, u.2) ∈ e :: a := by
      have q := h u.1
      rw [gt_cons u b, if_pos rfl] at q
      have := gt_ne (t := e :: a) (k := u.1) (by rw [q]; exact nb u List.mem_cons_self)
      rw [q] at this
      exact this
    have heu : e = u := by
      rcases List.mem_cons.mp h1 with z | z
      · exact z
      · rcases List.mem_cons.mp h2 with z2 | z2
        · exact z2.symm
        · have a1 := ha.1 _ z2
          have b1 := hb.1 _ z
          have a2 : cd u.1 < cd e.1 := a1
          have b2 : cd e.1 < cd u.1 := b1
          omega
    subst heu
    congr 1
    refine Ds.ext ha.2 hb.2 (fun x hx => na x (List.mem_cons_of_mem _ hx)) (fun x hx => nb x (List.mem_cons_of_mem _ hx)) fun k => ?_
    have q := h k
    rw [gt_cons, gt_cons] at q
    by_cases z : e.1 = k
    · subst z
      have n1 : e.1 ∉ a.map (·.1) := by
        intro y; obtain ⟨x, hx, ex⟩ := List.mem_map.mp y
        have := ha.1 x hx; rw [ex] at this; omega
      have n2 : e.1 ∉ b.map (·.1) := by
        intro y; obtain ⟨x, hx, ex⟩ := List.mem_map.mp y
        have := hb.1 x hx; rw [ex] at this; omega
      rw [gt_out n1, gt_out n2]
    · rw [if_neg z, if_neg z] at q
      exact q

/-! ### products -/
def ml (a : T) (g : F) : F := fun k => (a.map fun e => e.2 * sh e.1 g k).sum
theorem ml_nil (g : F) (k : K) : ml [] g k = 0 := rfl
theorem ml_cons (e : K × Int) (a : T) (g : F) (k : K) : ml (e :: a) g k = e.2 * sh e.1 g k + ml a g k := by
  unfold ml; rw [List.map_cons, List.sum_cons]
theorem ml_append (a b : T) (g : F) (k : K) : ml (a ++ b) g k = ml a g k + ml b g k := by
  unfold ml; rw [List.map_append, List.sum_append]
theorem ml_take_succ {a : T} {i : Nat} {e : K × Int} (h : a[i]? = some e) (g : F) (k : K) : ml (a.take (i + 1)) g k = ml (a.take i) g k + e.2 * sh e.1 g k := by
  have e1 : a.take (i + 1) = a.take i ++ [e] := by rw [List.take_add_one, h]; rfl
  rw [e1, ml_append, ml_cons, ml_nil, Int.add_zero]
theorem ml_supp : ∀ {a : T} {g : F} {k : K}, ml a g k ≠ 0 → ∃ e ∈ a, sh e.1 g k ≠ 0
  | [], _, _, h => absurd rfl h
  | e :: a, g, k, h => by
    rw [ml_cons] at h
    by_cases z : sh e.1 g k = 0
    · rw [z, Int.mul_zero, Int.zero_add] at h
      obtain ⟨u, hu, q⟩ := ml_supp h
      exact ⟨u, List.mem_cons_of_mem _ hu, q⟩
    · exact ⟨e, List.mem_cons_self, z⟩
/-- the terms of a reduced form -/
def Tm (p : Int) (L : Nat) (D : Int) (q : T) : Prop := ∀ e ∈ q, Mo L D e.1 ∧ low p e.2 = e.2 ∧ e.2 ≠ 0
theorem Tm.nz {p : Int} {L : Nat} {D : Int} {q : T} (h : Tm p L D q) : Nz q := fun e he => (h e he).2.2
theorem Tm.hm {p : Int} {L : Nat} {D : Int} {q : T} (h : Tm p L D q) : Hm L D (gt q) := fun k hk => (h _ (gt_ne hk)).1
theorem Tm.rd {p : Int} {L : Nat} {D : Int} {q : T} (h : Tm p L D q) : Rdc p (gt q) := fun k => by
  by_cases z : gt q k = 0
  · rw [z]; exact low_zero p
  · exact (h _ (gt_ne z)).2.1
theorem Ds.ld {e : K × Int} {q : T} (h : Ds (e :: q)) (hz : Nz (e :: q)) : Ld (gt (e :: q)) e.1 := by
  unfold Ds at h
  rw [List.pairwise_cons] at h
  refine ⟨by rw [gt_cons, if_pos rfl]; exact hz e List.mem_cons_self, fun k hk => ?_⟩
  rcases List.mem_cons.mp (gt_ne hk) with z | z
  · have : k = e.1 := congrArg (·.1) z
    rw [this]; omega
  · exact Int.le_of_lt (h.1 _ z)
section
variable {p : Int} {L : Nat} {D E : Int} {g f : F} {h m : K} {c : Int}
theorem ml_hm (hg : Hm L E g) {q : T} (hq : Tm p L D q) : Hm L (D + E) (ml q g) := fun k hk => by
  obtain ⟨e, he, z⟩ := ml_supp hk
  exact (sh_hm hg (hq e he).1 z).1
theorem Dv.of_mul (G : Dvr p L E g h) (hDE : D + E ≤ 40) : ∀ {q : T}, Tm p L D q → Ds q → Dv p g h (fun k => low p (ml q g k)) (some q)
  | [], _, _ => .done fun k => low_zero p
  | e :: q, hq, hd => by
    have hd' := hd
    unfold Ds at hd'
    rw [List.pairwise_cons] at hd'
    have mh := G.mo
    obtain ⟨me, re, ze⟩ := hq e List.mem_cons_self
    have hl : e.1.length = h.length := me.len.trans mh.len.symm
    have hq' : Tm p L D q := fun x hx => hq x (List.mem_cons_of_mem _ hx)
    -- the rest lies below the greatest term
    have low_rest : ∀ k, ml q g k ≠ 0 → cd k < cd e.1 + cd h := fun k hk => by
      obtain ⟨u, hu, z⟩ := ml_supp hk
      obtain ⟨mk, gk⟩ := sh_hm G.hm (hq' u hu).1 z
      have h1 := G.ld.2 _ gk
      have h2 : cd u.1 < cd e.1 := hd'.1 u hu
      rw [cd_sb (mk.len.trans (hq' u hu).1.len.symm)] at h1
      omega
    have at_top : ml q g (ad e.1 h) = 0 := by
      rcases Int.decEq (ml q g (ad e.1 h)) 0 with z | z
      · have := low_rest _ z
        rw [cd_ad hl] at this
        omega
      · exact z
    have gh : low p (g h) ≠ 0 := by rw [G.rd]; exact G.ld.1
    have top : low p (ml (e :: q) g (ad e.1 h)) = low p (e.2 * g h) := by
      rw [ml_cons, at_top, Int.add_zero, sh_at hl]
    have ldm : Ld (fun k => low p (ml (e :: q) g k)) (ad e.1 h) := by
      refine ⟨?_, fun k hk => ?_⟩
      · show low p (ml (e :: q) g (ad e.1 h)) ≠ 0
        rw [top]
        intro z
        rcases G.pm.mul z with z | z
        · rw [re] at z; exact ze z
        · exact gh z
      · have hk' : ml (e :: q) g k ≠ 0 := by
          intro z
          apply hk
          show low p (ml (e :: q) g k) = 0
          rw [z]; exact low_zero p
        rw [cd_ad hl]
        obtain ⟨u, hu, z⟩ := ml_supp hk'
        obtain ⟨mk, gk⟩ := sh_hm G.hm (hq u hu).1 z
        have h1 := G.ld.2 _ gk
        rw [cd_sb (mk.len.trans (hq u hu).1.len.symm)] at h1
        rcases List.mem_cons.mp hu with w | w
        · subst w; omega
        · have h2 : cd u.1 < cd e.1 := hd'.1 u w
          omega
    have back : sb (ad e.1 h) h = e.1 := sb_ad hl
    have step := Dv.step (p := p) (g := g) (h := h) (f := fun k => low p (ml (e :: q) g k)) (m := ad e.1 h) (c := e.2) (r := some q) ldm (by rw [back]; exact me.nn)
      (by show Qo p (low p (ml (e :: q) g (ad e.1 h))) (g h) (some e.2); rw [top]; exact Qo.of_mul G.pm re gh) ?_
    · rw [back] at step
      exact step
    · rw [back]
      have e2 : stp p g (fun k => low p (ml (e :: q) g k)) e.1 e.2 = fun k => low p (ml q g k) := by
        funext k
        show low p (low p (ml (e :: q) g k) - e.2 * sh e.1 g k) = low p (ml q g k)
        rw [low_sub, ml_cons]
        congr 1; omega
      rw [e2]
      exact Dv.of_mul G hDE hq' hd'.2
theorem Dv.props (G : Dvr p L E g h) (hD : D ≤ 40) {r : Option T} (hf : Hm L D f) (rf : Rdc p f) (d : Dv p g h f r) : ∀ q, r = some q → Tm p L (D - E) q ∧ Ds q ∧ ∀ B, (∀ k, f k ≠ 0 → cd k < B) → ∀ e ∈ q, cd e.1 < B - cd h := by
  induction d with
  | done z =>
    intro q e
    cases e
    exact ⟨fun e he => by simp at he, List.Pairwise.nil, fun B _ e he => by simp at he⟩
  | bad _ _ => intro q e; cases e
  | rest _ _ => intro q e; cases e
  | @step f m c r l n qo d ih =>
    intro q e
    cases r with
    | none => cases e
    | some r =>
      cases e
      obtain ⟨i1, i2, i3⟩ := ih (stp_hm G hf l n) stp_rd r rfl
      have mh := G.mo
      have mm := hf m l.1
      have hl : m.length = h.length := mm.len.trans mh.len.symm
      have lt := stp_ld G hf l hD n qo
      have gh : low p (g h) ≠ 0 := by rw [G.rd]; exact G.ld.1
      have c0 : c ≠ 0 := by
        intro z
        have b := Qo.back qo
        rw [z, Int.zero_mul, low_zero, rf] at b
        exact l.1 b.symm
      have hq0 : ∀ e ∈ r, cd e.1 < cd m - cd h := i3 (cd m) lt
      refine ⟨fun e he => ?_, ?_, fun B hB e he => ?_⟩
      · rcases List.mem_cons.mp he with z | z
        · subst z; exact ⟨mm.sb mh n, Qo.red qo, c0⟩
        · exact i1 e z
      · refine List.Pairwise.cons (fun b hb => ?_) i2
        have := hq0 b hb
        show cd b.1 < cd (sb m h)
        rw [cd_sb hl]
        exact this
      · have hm := hB m l.1
        rcases List.mem_cons.mp he with z | z
        · subst z
          show cd (sb m h) < B - cd h
          rw [cd_sb hl]; omega
        · have := hq0 e z
          omega
end
end Tg
end
section
set_option Elab.async false
namespace Tg
/-! ### orders -/
inductive Od (p : Int) (g : F) (h : K) : F → Nat → Prop
  | stop {f : F} : Dv p g h f none → Od p g h f 0
  | more {f : F} {q : T} {n : Nat} : Dv p g h f (some q) → Od p g h (gt q) n → Od p g h f (n + 1)
section
variable {p : Int} {L : Nat} {D E : Int} {g f : F} {h m : K} {c : Int}
theorem Dv.ne {q : T} (d : Dv p g h f (some q)) (hf : ∃ k, f k ≠ 0) : q ≠ [] := by
  intro e
  subst e
  generalize hr : (some [] : Option T) = r at d
  cases d with
  | done z => obtain ⟨k, hk⟩ := hf; exact hk (z k)
  | bad _ _ => cases hr
  | rest _ _ => cases hr
  | @step _ m c r l n q d =>
    cases r with
    | none => cases hr
    | some r => cases hr
theorem gt_ex {q : T} (hz : Nz q) (hn : q ≠ []) : ∃ k, gt q k ≠ 0 := by
  cases q with
  | nil => exact absurd rfl hn
  | cons e q => exact ⟨e.1, by rw [gt_cons, if_pos rfl]; exact hz e List.mem_cons_self⟩
theorem Od.det (G : Dvr p L E g h) {n : Nat} (o : Od p g h f n) : ∀ {D : Int} {m : Nat}, E ≥ 0 → D ≤ 40 → Hm L D f → Rdc p f → Od p g h f m → n = m := by
  induction o with
  | stop d =>
    intro D m hE hD hf rf o'
    cases o' with
    | stop _ => rfl
    | more d' _ => have := Dv.det G hD hf d d'; cases this
  | @more f q n d o ih =>
    intro D m hE hD hf rf o'
    cases o' with
    | stop d' => have := Dv.det G hD hf d d'; cases this
    | more d' o' =>
      have e := Option.some.inj (Dv.det G hD hf d d')
      subst e
      have pr := Dv.props G hD hf rf d q rfl
      rw [ih hE (D := D - E) (by omega) pr.1.hm pr.1.rd o']
theorem Od.le (G : Dvr p L 1 g h) {n : Nat} (o : Od p g h f n) : ∀ {D : Int}, D ≤ 40 → Hm L D f → Rdc p f → (∃ k, f k ≠ 0) → (n : Int) ≤ D := by
  induction o with
  | stop d =>
    intro D hD hf rf ⟨k, hk⟩
    exact (hf k hk).deg
  | @more f q n d o ih =>
    intro D hD hf rf hk
    have pr := Dv.props G hD hf rf d q rfl
    have := ih (D := D - 1) (by omega) pr.1.hm pr.1.rd (gt_ex pr.1.nz (d.ne hk))
    omega
end

/-! ### sums -/
def sm : Nat → (Nat → Int) → Int
  | 0, _ => 0
  | n + 1, u => sm n u + u n
theorem sm_congr {n : Nat} {u v : Nat → Int} (h : ∀ i, i < n → u i = v i) : sm n u = sm n v := by
  induction n with
  | zero => rfl
  | succ n ih =>
    show sm n u + u n = sm n v + v n
    rw [ih fun i hi => h i (by omega), h n (by omega)]
theorem sm_low {p : Int} {n : Nat} {u v : Nat → Int} (h : ∀ i, i < n → low p (u i) = low p (v i)) : low p (sm n u) = low p (sm n v) := by
  induction n with
  | zero => rfl
  | succ n ih =>
    show low p (sm n u + u n) = low p (sm n v + v n)
    rw [← low_add, ih fun i hi => h i (by omega), low_add, ← low_add', h n (by omega), low_add']
theorem sm_add (n : Nat) (u v : Nat → Int) : sm n (fun i => u i + v i) = sm n u + sm n v := by
  induction n with
  | zero => rfl
  | succ n ih =>
    show sm n _ + (u n + v n) = (sm n u + u n) + (sm n v + v n)
    rw [ih]; omega
theorem sm_mul (n : Nat) (c : Int) (u : Nat → Int) : sm n (fun i => c * u i) = c * sm n u := by
  induction n with
  | zero => exact (Int.mul_zero c).symm
  | succ n ih =>
    show sm n _ + c * u n = c * (sm n u + u n)
    rw [ih, Int.mul_add]
theorem sm_zero {n : Nat} {u : Nat → Int} (h : ∀ i, i < n → u i = 0) : sm n u = 0 := by
  induction n with
  | zero => rfl
  | succ n ih =>
    show sm n u + u n = 0
    rw [ih fun i hi => h i (by omega), h n (by omega)]; rfl
theorem sm_one {n j : Nat} {u : Nat → Int} (hj : j < n) (h : ∀ i, i < n → i ≠ j → u i = 0) : sm n u = u j := by
  induction n with
  | zero => omega
  | succ n ih =>
    show sm n u + u n = u j
    by_cases e : j = n
    · subst e
      rw [sm_zero fun i hi => h i (by omega) (by omega)]; omega
    · rw [ih (by omega) fun i hi => h i (by omega), h n (by omega) (by omega)]; omega
theorem sm_cut {n j : Nat} {u : Nat → Int} (hj : j ≤ n) (h : ∀ i, j ≤ i → i < n → u i = 0) : sm n u = sm j u := by
  induction n with
  | zero =>
    have : j = 0 := by omega
    subst this; rfl
  | succ n ih =>
    by_cases e : j = n + 1
    · rw [e]
    · show sm n u + u n = sm j u
      rw [ih (by omega) fun i h1 h2 => h i h1 (by omega), h n (by omega) (by omega)]; omega
theorem sm_dvd {n : Nat} {d : Int} {u : Nat → Int} (h : ∀ i, i < n → d ∣ u i) : d ∣ sm n u := by
  induction n with
  | zero => exact Int.dvd_zero d
  | succ n ih =>
    show d ∣ sm n u + u n
    exact Int.dvd_add (ih fun i hi => h i (by omega)) (h n (by omega))
theorem low_pow {p x y : Int} (h : low p x = low p y) (n : Nat) : low p (x ^ n) = low p (y ^ n) := by
  induction n with
  | zero => rw [Int.pow_zero, Int.pow_zero]
  | succ n ih => rw [Int.pow_succ, Int.pow_succ, ← low_mul, ih, low_mul, ← low_mul', h, low_mul']
theorem pow_nz {p x : Int} (P : Pm p) (h : low p x ≠ 0) (n : Nat) : low p (x ^ n) ≠ 0 := by
  induction n with
  | zero =>
    rw [Int.pow_zero]
    by_cases h0 : p = 0
    · rw [h0, low0]; decide
    · rw [lowp h0, one_low P h0]; decide
  | succ n ih =>
    rw [Int.pow_succ]
    intro z
    rcases P.mul z with z | z
    · exact ih z
    · exact h z

/-! ### values of forms in two letters -/
abbrev bi (n i : Nat) : K := [(i : Int), ((n - i : Nat) : Int)]
def ev (f : F) (n : Nat) (x y : Int) : Int := sm (n + 1) fun i => f (bi n i) * (x ^ i * y ^ (n - i))
theorem mo_two {n : Nat} {k : K} (h : Mo 2 (n : Int) k) : ∃ i, i ≤ n ∧ k = bi n i := by
  obtain ⟨hl, hn, hs⟩ := h
  match k, hl with
  | [a, b], _ =>
    have ha := hn a (by simp)
    have hb := hn b (by simp)
    have e : a + b = n := by simpa using hs
    obtain ⟨i, rfl⟩ := Int.eq_ofNat_of_zero_le ha
    refine ⟨i, by omega, ?_⟩
    have : b = ((n - i : Nat) : Int) := by omega
    rw [this]
theorem bi_mo {n i : Nat} (h : i ≤ n) : Mo 2 (n : Int) (bi n i) := by
  refine ⟨rfl, fun x hx => ?_, ?_⟩
  · simp at hx; omega
  · simp; omega
theorem cd_bi (n i : Nat) : cd (bi n i) = (i : Int) * 64 + ((n - i : Nat) : Int) := by
  show (i : Int) * 64 ^ 1 + (((n - i : Nat) : Int) * 64 ^ 0 + 0) = _
  omega
section
variable {p : Int} {g f : F} {h m : K} {c x y : Int} {n : Nat}
/-- the linear form, moved -/
theorem sh_lin (hg : Hm 2 1 g) {r0 r1 i : Nat} (hi : i ≤ r0 + r1 + 1) : sh [(r0 : Int), (r1 : Int)] g (bi (r0 + r1 + 1) i) = (if i = r0 + 1 then g [1, 0] else 0) + if i = r0 then g [0, 1] else 0 := by
  unfold sh
  rw [if_pos (show (bi (r0 + r1 + 1) i).length = ([(r0 : Int), (r1 : Int)] : K).length from rfl)]
  show g [(i : Int) - r0, ((r0 + r1 + 1 - i : Nat) : Int) - r1] = _
  by_cases h1 : i = r0 + 1
  · subst h1
    rw [if_pos rfl, if_neg (by omega)]
    have e1 : ((r0 + 1 : Nat) : Int) - r0 = 1 := by omega
    have e2 : ((r0 + r1 + 1 - (r0 + 1) : Nat) : Int) - r1 = 0 := by omega
    rw [e1, e2]; omega
  · rw [if_neg h1]
    by_cases h2 : i = r0
    · subst h2
      rw [if_pos rfl]
      have e1 : (i : Int) - i = 0 := by omega
      have e2 : ((i + r1 + 1 - i : Nat) : Int) - r1 = 1 := by omega
      rw [e1, e2]; omega
    · rw [if_neg h2]
      rcases Int.decEq (g [(i : Int) - r0, ((r0 + r1 + 1 - i : Nat) : Int) - r1]) 0 with z | z
      · exfalso
        have m := hg _ z
        have a1 := m.nn ((i : Int) - r0) (by simp)
        have a2 := m.nn (((r0 + r1 + 1 - i : Nat) : Int) - r1) (by simp)
        omega
      · rw [z]; rfl
theorem ev_sh (hg : Hm 2 1 g) (r0 r1 : Nat) : ev (sh [(r0 : Int), (r1 : Int)] g) (r0 + r1 + 1) x y = x ^ r0 * y ^ r1 * (g [1, 0] * x + g [0, 1] * y) := by
  unfold ev
  have e : sm (r0 + r1 + 1 + 1) (fun i => sh [(r0 : Int), (r1 : Int)] g (bi (r0 + r1 + 1) i) * (x ^ i * y ^ (r0 + r1 + 1 - i)))
      = sm (r0 + r1 + 1 + 1) (fun i => (if i = r0 + 1 then g [1, 0] * (x ^ (r0 + 1) * y ^ r1) else 0) + (if i = r0 then g [0, 1] * (x ^ r0 * y ^ (r1 + 1)) else 0)) := by
    refine sm_congr fun i hi => ?_
    rw [sh_lin hg (by omega), Int.add_mul]
    congr 1
    · by_cases h1 : i = r0 + 1
      · subst h1
        rw [if_pos rfl, if_pos rfl]
        have : r0 + r1 + 1 - (r0 + 1) = r1 := by omega
        rw [this]
      · rw [if_neg h1, if_neg h1, Int.zero_mul]
    · by_cases h1 : i = r0
      · subst h1
        rw [if_pos rfl, if_pos rfl]
        have : i + r1 + 1 - i = r1 + 1 := by omega
        rw [this]
      · rw [if_neg h1, if_neg h1, Int.zero_mul]
  rw [e, sm_add]
  rw [sm_one (j := r0 + 1) (by omega) (fun i _ hi => if_neg hi), if_pos rfl, sm_one (j := r0) (by omega) (fun i _ hi => if_neg hi), if_pos rfl]
  rw [Int.mul_add, Int.pow_succ, Int.pow_succ]
  have a1 : g [1, 0] * (x ^ r0 * x * y ^ r1) = x ^ r0 * y ^ r1 * (g [1, 0] * x) := by
    generalize x ^ r0 = X; generalize y ^ r1 = Y; generalize g [1, 0] = a
    rw [Int.mul_comm a, Int.mul_assoc X x Y, Int.mul_comm x Y, ← Int.mul_assoc, Int.mul_assoc, Int.mul_comm x a]
  have a2 : g [0, 1] * (x ^ r0 * (y ^ r1 * y)) = x ^ r0 * y ^ r1 * (g [0, 1] * y) := by
    generalize x ^ r0 = X; generalize y ^ r1 = Y; generalize g [0, 1] = a
    rw [Int.mul_comm a, ← Int.mul_assoc X Y y, Int.mul_assoc, Int.mul_comm y a]
  rw [a1, a2]
theorem ev_stp (hg : Hm 2 1 g) (r0 r1 : Nat) (hr : low p (g [1, 0] * x + g [0, 1] * y) = 0) : low p (ev (stp p g f [(r0 : Int), (r1 : Int)] c) (r0 + r1 + 1) x y) = low p (ev f (r0 + r1 + 1) x y) := by
  have e1 : low p (ev (stp p g f [(r0 : Int), (r1 : Int)] c) (r0 + r1 + 1) x y) = low p (ev f (r0 + r1 + 1) x y + (-c) * ev (sh [(r0 : Int), (r1 : Int)] g) (r0 + r1 + 1) x y) := by
    unfold ev
    rw [← sm_mul, ← sm_add]
    refine sm_low fun i hi => ?_
    show low p (low p (f (bi (r0 + r1 + 1) i) - c * sh [(r0 : Int), (r1 : Int)] g (bi (r0 + r1 + 1) i)) * (x ^ i * y ^ (r0 + r1 + 1 - i))) = _
    rw [low_mul]
    congr 1
    generalize x ^ i * y ^ (r0 + r1 + 1 - i) = M
    generalize sh [(r0 : Int), (r1 : Int)] g (bi (r0 + r1 + 1) i) = s
    rw [Int.sub_mul, Int.mul_assoc, Int.neg_mul]; omega
  rw [e1, ev_sh hg, ← low_add', ← low_mul', ← low_mul' p (x ^ r0 * y ^ r1), hr, Int.mul_zero, low_zero, Int.mul_zero, low_zero, Int.add_zero]
/-- the two letters' divisor -/
structure Lin (p : Int) (g : F) (h : K) : Prop where
  G : Dvr p 2 1 g h
  top : (g [1, 0] ≠ 0 ∧ h = [1, 0]) ∨ (g [1, 0] = 0 ∧ g [0, 1] ≠ 0 ∧ h = [0, 1])
theorem Lin.of (G : Dvr p 2 1 g h) : Lin p g h := by
  refine ⟨G, ?_⟩
  obtain ⟨i, hi, e⟩ := mo_two (n := 1) G.mo
  by_cases z : g [1, 0] = 0
  · right
    have hi1 : i = 0 := by
      rcases Nat.lt_or_ge 0 i with q | q
      · exfalso
        have : i = 1 := by omega
        subst this
        have := G.ld.1
        rw [e] at this
        exact this z
      · omega
    subst hi1
    refine ⟨z, ?_, e⟩
    have := G.ld.1
    rw [e] at this
    exact this
  · left
    refine ⟨z, ?_⟩
    have := G.ld.2 _ z
    have hi1 : i = 1 := by
      rcases Nat.lt_or_ge 0 i with q | q
      · omega
      · exfalso
        have : i = 0 := by omega
        subst this
        rw [e] at this
        revert this
        show ¬ ((1 : Int) * 64 ^ 1 + (0 * 64 ^ 0 + 0) ≤ 0 * 64 ^ 1 + (1 * 64 ^ 0 + 0))
        decide
    subst hi1
    exact e
theorem sb_bi {n i : Nat} (hh : (h : K) = [1, 0] ∨ h = [0, 1]) (hi : i ≤ n) (hn : ∀ z ∈ sb (bi n i) h, 0 ≤ z) : ∃ r0 r1 : Nat, sb (bi n i) h = [(r0 : Int), (r1 : Int)] ∧ n = r0 + r1 + 1 := by
  rcases hh with rfl | rfl
  · have e : sb (bi n i) [1, 0] = [(i : Int) - 1, ((n - i : Nat) : Int) - 0] := rfl
    rw [e] at hn ⊢
    have := hn ((i : Int) - 1) (by simp)
    refine ⟨i - 1, n - i, ?_, by omega⟩
    have e1 : (i : Int) - 1 = ((i - 1 : Nat) : Int) := by omega
    have e2 : ((n - i : Nat) : Int) - 0 = ((n - i : Nat) : Int) := by omega
    rw [e1, e2]
  · have e : sb (bi n i) [0, 1] = [(i : Int) - 0, ((n - i : Nat) : Int) - 1] := rfl
    rw [e] at hn ⊢
    have := hn (((n - i : Nat) : Int) - 1) (by simp)
    refine ⟨i, n - i - 1, ?_, by omega⟩
    have e1 : (i : Int) - 0 = (i : Int) := by omega
    have e2 : ((n - i : Nat) : Int) - 1 = ((n - i - 1 : Nat) : Int) := by omega
    rw [e1, e2]
theorem Lin.hh (G : Lin p g h) : h = [1, 0] ∨ h = [0, 1] := by
  rcases G.top with z | z
  · exact .inl z.2
  · exact .inr z.2.2
/-- what the step leaves of the value at the root -/
theorem ev_step (G : Lin p g h) (hf : Hm 2 (n : Int) f) (l : Ld f m) (hn : ∀ z ∈ sb m h, 0 ≤ z) (hr : low p (g [1, 0] * x + g [0, 1] * y) = 0) : low p (ev (stp p g f (sb m h) c) n x y) = low p (ev f n x y) := by
  obtain ⟨i, hi, rfl⟩ := mo_two (hf m l.1)
  obtain ⟨r0, r1, e, en⟩ := sb_bi G.hh hi hn
  rw [e]
  subst en
  exact ev_stp G.G.hm r0 r1 hr
theorem Dv.root (G : Lin p g h) (hr : low p (g [1, 0] * x + g [0, 1] * y) = 0) {r : Option T} (d : Dv p g h f r) : Hm 2 (n : Int) f → ∀ q, r = some q → low p (ev f n x y) = 0 := by
  induction d with
  | done z =>
    intro _ q _
    unfold ev
    rw [sm_zero fun i _ => by rw [z, Int.zero_mul]]
    exact low_zero p
  | bad _ _ => intro _ q e; cases e
  | rest _ _ => intro _ q e; cases e
  | @step f m c r l n' qo d ih =>
    intro hf q e
    cases r with
    | none => cases e
    | some r =>
      rw [← ev_step (c := c) G hf l n' hr]
      exact ih (stp_hm G.G hf l n') r rfl
theorem dvd_of_gcd {a b c : Int} (h : Int.gcd a b = 1) (n : Nat) (hd : a ∣ c * b ^ n) : a ∣ c := by
  induction n with
  | zero => rw [Int.pow_zero, Int.mul_one] at hd; exact hd
  | succ n ih =>
    apply ih
    rw [Int.pow_succ, ← Int.mul_assoc] at hd
    have h2 := Int.dvd_mul_gcd_iff_dvd_mul.mpr hd
    rw [h] at h2
    simpa using h2
/-- no root where the division stops -/
theorem Dv.noroot (G : Lin p g h) {u : Int} (hu : low p u ≠ 0) (hx : low p x = low p (u * g [0, 1])) (hy : low p y = low p (-(u * g [1, 0]))) (hg : p = 0 → Int.gcd (g [1, 0]) (g [0, 1]) = 1)
    {r : Option T} (d : Dv p g h f r) : Hm 2 (n : Int) f → Rdc p f → r = none → low p (ev f n x y) ≠ 0 := by
  have P := G.G.pm
  have hr : low p (g [1, 0] * x + g [0, 1] * y) = 0 := by
    have e1 : low p (g [1, 0] * x) = low p (g [1, 0] * (u * g [0, 1])) := by rw [← low_mul', hx, low_mul']
    have e2 : low p (g [0, 1] * y) = low p (g [0, 1] * (-(u * g [1, 0]))) := by rw [← low_mul', hy, low_mul']
    rw [← low_add, e1, low_add, ← low_add', e2, low_add']
    have : g [1, 0] * (u * g [0, 1]) + g [0, 1] * (-(u * g [1, 0])) = 0 := by
      generalize g [1, 0] = a; generalize g [0, 1] = b
      rw [Int.mul_neg, ← Int.mul_assoc, ← Int.mul_assoc, Int.mul_comm a u, Int.mul_comm b u, Int.mul_assoc, Int.mul_assoc, Int.mul_comm a b]
      omega
    rw [this]; exact low_zero p
  induction d with
  | done z => intro _ _ e; cases e
  | @bad f m l w =>
    intro hf rf _ z
    obtain ⟨i0, hi0, rfl⟩ := mo_two (hf m l.1)
    obtain ⟨v, hv, hv0⟩ := w
    have fm : low p (f (bi n i0)) ≠ 0 := by rw [rf]; exact l.1
    unfold ev at z
    rcases G.top with ⟨ha, hh⟩ | ⟨ha, hb, hh⟩
    · -- the greatest power is 0
      have e : i0 = 0 := by
        rw [hh] at hv
        have hv' : v ∈ ([(i0 : Int) - 1, ((n - i0 : Nat) : Int) - 0] : List Int) := hv
        simp at hv'
        omega
      subst e
      rw [sm_cut (j := 1) (by omega) (fun i h1 h2 => by
        rcases Int.decEq (f (bi n i)) 0 with z | z
        · exfalso
          have := l.2 _ z
          rw [cd_bi, cd_bi] at this
          omega
        · rw [z, Int.zero_mul])] at z
      have e2 : sm 1 (fun i => f (bi n i) * (x ^ i * y ^ (n - i))) = f (bi n 0) * y ^ n := by
        show 0 + f (bi n 0) * (x ^ 0 * y ^ (n - 0)) = _
        rw [Int.pow_zero, Int.one_mul, Nat.sub_zero]; omega
      rw [e2] at z
      have ly : low p y ≠ 0 := by
        rw [hy]
        intro w
        have w2 : low p (u * g [1, 0]) = 0 := by
          have : u * g [1, 0] = (-(u * g [1, 0])) * (-1) := by omega
          rw [this, ← low_mul, w, Int.zero_mul]; exact low_zero p
        rcases P.mul w2 with w3 | w3
        · exact hu w3
        · rw [G.G.rd] at w3; exact ha w3
      rcases P.mul z with z | z
      · exact fm z
      · exact pow_nz P ly n z
    · have e : i0 = n := by
        rw [hh] at hv
        have hv' : v ∈ ([(i0 : Int) - 0, ((n - i0 : Nat) : Int) - 1] : List Int) := hv
        simp at hv'
        omega
      subst e
      have ly : low p y = 0 := by rw [hy, ha, Int.mul_zero]; exact low_zero p
      have e2 : low p (sm (i0 + 1) (fun i => f (bi i0 i) * (x ^ i * y ^ (i0 - i)))) = low p (f (bi i0 i0) * x ^ i0) := by
        show low p (sm i0 _ + f (bi i0 i0) * (x ^ i0 * y ^ (i0 - i0))) = _
        have e3 : low p (sm i0 (fun i => f (bi i0 i) * (x ^ i * y ^ (i0 - i)))) = low p (sm i0 fun _ => 0) := sm_low fun i hi => by
          have : i0 - i = (i0 - i - 1) + 1 := by omega
          rw [this, Int.pow_succ, ← low_mul', ← low_mul' p (x ^ i), ← low_mul' p (y ^ (i0 - i - 1)), ly, Int.mul_zero, low_zero, Int.mul_zero, low_zero, Int.mul_zero]
          exact low_zero p
        rw [← low_add, e3, low_add, sm_zero (fun _ _ => rfl), Int.zero_add, Nat.sub_self, Int.pow_zero, Int.mul_one]
      rw [e2] at z
      have lx : low p x ≠ 0 := by
        rw [hx]
        intro w
        rcases P.mul w with w3 | w3
        · exact hu w3
        · rw [G.G.rd] at w3; exact hb w3
      rcases P.mul z with z | z
      · exact fm z
      · exact pow_nz P lx i0 z
  | @rest f m l w =>
    intro hf rf _ z
    obtain ⟨i0, hi0, rfl⟩ := mo_two (hf m l.1)
    rcases w with ⟨_, i, _, e⟩ | ⟨h0, w⟩
    · cases e
    · subst h0
      rcases w with ⟨_, e⟩ | ⟨nd, _⟩
      · cases e
      · have g1 := hg rfl
        rw [low0] at z hu
        rw [low0, low0] at hx hy
        rcases G.top with ⟨ha, hh⟩ | ⟨ha, hb, hh⟩
        · rw [hh] at nd
          unfold ev at z
          rw [sm_cut (j := i0 + 1) (by omega) (fun i h1 h2 => by
            rcases Int.decEq (f (bi n i)) 0 with z | z
            · exfalso
              have := l.2 _ z
              rw [cd_bi, cd_bi] at this
              omega
            · rw [z, Int.zero_mul])] at z
          generalize ga : g [1, 0] = a at *
          generalize gb : g [0, 1] = b at *
          have e1 : sm (i0 + 1) (fun i => f (bi n i) * (x ^ i * y ^ (n - i))) = u ^ n * (-a) ^ (n - i0) * sm (i0 + 1) (fun i => f (bi n i) * (b ^ i * (-a) ^ (i0 - i))) := by
            rw [← sm_mul]
            refine sm_congr fun i hi => ?_
            have e2 : n - i = (n - i0) + (i0 - i) := by omega
            have e3 : u ^ n = u ^ i * u ^ (n - i) := by rw [← Int.pow_add]; congr 1; omega
            have e4 : y = u * (-a) := by rw [hy, Int.mul_neg]
            rw [hx, e4, Int.mul_pow, Int.mul_pow, e3, e2, Int.pow_add (-a)]
            generalize u ^ i = U
            generalize u ^ (n - i0 + (i0 - i)) = V
            generalize (-a) ^ (n - i0) = A
            generalize (-a) ^ (i0 - i) = B
            generalize b ^ i = C
            generalize f (bi n i) = w
            have : U * C * (V * (A * B)) = U * V * A * (C * B) := by
              simp only [Int.mul_assoc, Int.mul_left_comm]
            rw [this]
            simp only [Int.mul_left_comm]
          rw [e1] at z
          have hne : u ^ n * (-a) ^ (n - i0) ≠ 0 := by
            intro w
            rcases Int.mul_eq_zero.mp w with w | w
            · have := pow_nz (p := 0) (Or.inl rfl) (x := u) (by rw [low0]; exact hu) n
              rw [low0] at this; exact this w
            · have := pow_nz (p := 0) (Or.inl rfl) (x := -a) (by rw [low0]; omega) (n - i0)
              rw [low0] at this; exact this w
          have z2 := (Int.mul_eq_zero.mp z).resolve_left hne
          have z3 : sm i0 (fun i => f (bi n i) * (b ^ i * (-a) ^ (i0 - i))) + f (bi n i0) * (b ^ i0 * (-a) ^ (i0 - i0)) = 0 := z2
          rw [Nat.sub_self, Int.pow_zero, Int.mul_one] at z3
          have d1 : a ∣ sm i0 (fun i => f (bi n i) * (b ^ i * (-a) ^ (i0 - i))) := sm_dvd fun i hi => by
            have : i0 - i = (i0 - i - 1) + 1 := by omega
            rw [this, Int.pow_succ]
            exact Int.dvd_mul_of_dvd_right (Int.dvd_mul_of_dvd_right (Int.dvd_mul_of_dvd_right (Int.dvd_neg.mpr (Int.dvd_refl a))))
          have d2 : a ∣ f (bi n i0) * b ^ i0 := by
            have e5 : f (bi n i0) * b ^ i0 = - sm i0 (fun i => f (bi n i) * (b ^ i * (-a) ^ (i0 - i))) := by omega
            rw [e5]
            exact Int.dvd_neg.mpr d1
          have d3 := dvd_of_gcd g1 i0 d2
          exact nd d3
        · rw [hh] at nd
          rw [ha, Int.gcd_zero_left] at g1
          apply nd
          have : g [0, 1] = 1 ∨ g [0, 1] = -1 := by omega
          rcases this with e | e <;> rw [e]
          · exact ⟨_, (Int.one_mul _).symm⟩
          · exact ⟨-f (bi n i0), by omega⟩
  | @step f m c r l n' qo d ih =>
    intro hf rf e
    cases r with
    | some r => cases e
    | none =>
      rw [← ev_step (c := c) G hf l n' hr]
      exact ih (stp_hm G.G hf l n') stp_rd rfl
end
end Tg
end
section
set_option Elab.async false
namespace Tg
/-! ### normal tuples -/
def gl (ns : List Int) : Int := ns.foldl (fun g n => ((Int.gcd g n : Nat) : Int)) 0
theorem gl_go (ns : List Int) : ∀ g : Int, 0 ≤ g → 0 ≤ ns.foldl (fun g n => ((Int.gcd g n : Nat) : Int)) g ∧ ns.foldl (fun g n => ((Int.gcd g n : Nat) : Int)) g ∣ g ∧ (∀ n ∈ ns, ns.foldl (fun g n => ((Int.gcd g n : Nat) : Int)) g ∣ n) ∧
    ∀ d : Int, d ∣ g → (∀ n ∈ ns, d ∣ n) → d ∣ ns.foldl (fun g n => ((Int.gcd g n : Nat) : Int)) g := by
  induction ns with
  | nil => intro g hg; exact ⟨hg, Int.dvd_refl g, fun n hn => by simp at hn, fun d h _ => h⟩
  | cons a ns ih =>
    intro g hg
    obtain ⟨i1, i2, i3, i4⟩ := ih ((Int.gcd g a : Nat) : Int) (Int.natCast_nonneg _)
    rw [List.foldl_cons]
    refine ⟨i1, Int.dvd_trans i2 (Int.gcd_dvd_left ..), fun n hn => ?_, fun d h1 h2 => ?_⟩
    · rcases List.mem_cons.mp hn with e | e
      · rw [e]; exact Int.dvd_trans i2 (Int.gcd_dvd_right ..)
      · exact i3 n e
    · exact i4 d (Int.dvd_coe_gcd h1 (h2 a List.mem_cons_self)) fun n hn => h2 n (List.mem_cons_of_mem _ hn)
theorem gl_nn (ns : List Int) : 0 ≤ gl ns := (gl_go ns 0 (Int.le_refl 0)).1
theorem gl_dvd {ns : List Int} {n : Int} (h : n ∈ ns) : gl ns ∣ n := (gl_go ns 0 (Int.le_refl 0)).2.2.1 n h
theorem dvd_gl {ns : List Int} {d : Int} (h : ∀ n ∈ ns, d ∣ n) : d ∣ gl ns := (gl_go ns 0 (Int.le_refl 0)).2.2.2 d (Int.dvd_zero d) h
theorem gl_pos {ns : List Int} {n : Int} (h : n ∈ ns) (h0 : n ≠ 0) : 0 < gl ns := by
  rcases Int.lt_or_eq_of_le (gl_nn ns) with z | z
  · exact z
  · exfalso
    have := gl_dvd h
    rw [← z] at this
    exact h0 (Int.zero_dvd.mp this)
theorem dvd_antisymm {a b : Int} (ha : 0 ≤ a) (hb : 0 ≤ b) (h1 : a ∣ b) (h2 : b ∣ a) : a = b := Int.dvd_antisymm ha hb h1 h2
/-- the divisor over 0 -/
def gd (n0 : Int) (ns : List Int) : Int := if 0 < n0 then gl (n0 :: ns) else -gl (n0 :: ns)
theorem gd_dvd {n0 : Int} {ns : List Int} {n : Int} (h : n ∈ n0 :: ns) : gd n0 ns ∣ n := by
  unfold gd; split
  · exact gl_dvd h
  · exact Int.neg_dvd.mpr (gl_dvd h)
theorem gd_ne {n0 : Int} {ns : List Int} (h : n0 ≠ 0) : gd n0 ns ≠ 0 := by
  have := gl_pos (ns := n0 :: ns) List.mem_cons_self h
  unfold gd; split <;> omega
/-- ms are the normal numbers of ns, none of which is 0 -/
def Nr (p : Int) : List Int → List Int → Prop
  | [], ms => ms = []
  | n0 :: ns, ms => (p ≠ 0 ∧ ∃ i, IsInv p n0 i ∧ ms = (n0 :: ns).map fun n => n * i % p) ∨ (p = 0 ∧ ms = (n0 :: ns).map fun n => n / gd n0 ns)
theorem Nr.det {p : Int} (P : Pm p) : ∀ {ns ms ms' : List Int}, Nr p ns ms → Nr p ns ms' → ms = ms'
  | [], _, _, a, b => a.trans b.symm
  | n0 :: ns, _, _, .inl ⟨h, i, hi, e⟩, .inl ⟨_, j, hj, e'⟩ => by rw [e, e', inv_uniq P h hi hj]
  | n0 :: ns, _, _, .inl ⟨h, _⟩, .inr ⟨h', _⟩ => absurd h' h
  | n0 :: ns, _, _, .inr ⟨h, _⟩, .inl ⟨h', _⟩ => absurd h h'
  | n0 :: ns, _, _, .inr ⟨_, e⟩, .inr ⟨_, e'⟩ => e.trans e'.symm
/-- reduced numbers, none of them 0 -/
def Rn (p : Int) (ns : List Int) : Prop := ∀ n ∈ ns, low p n = n ∧ n ≠ 0
theorem Nr.ex {p : Int} (P : Pm p) {ns : List Int} (h : Rn p ns) : ∃ ms, Nr p ns ms := by
  cases ns with
  | nil => exact ⟨[], rfl⟩
  | cons n0 ns =>
    by_cases h0 : p = 0
    · exact ⟨_, .inr ⟨h0, rfl⟩⟩
    · obtain ⟨r, z⟩ := h n0 List.mem_cons_self
      obtain ⟨i, hi, _⟩ := inv_ex P h0 (d := n0) (by rw [r]; exact z)
      exact ⟨_, .inl ⟨h0, i, hi, rfl⟩⟩
/-- what is known of them -/
structure NrF (p : Int) (ns ms : List Int) : Prop where
  len : ms.length = ns.length
  rn : Rn p ms
  unit : ∃ u, low p u ≠ 0 ∧ ∀ (j : Nat) (n m : Int), ns[j]? = some n → ms[j]? = some m → n = low p (u * m)
  one : p = 0 → ns ≠ [] → gl ms = 1
  top : ∀ m, ms[0]? = some m → 0 < m ∧ (p ≠ 0 → m = 1)
theorem inv_low {p d i : Int} (a : IsInv p d i) : low p i ≠ 0 ∨ p = 0 := by
  by_cases h0 : p = 0
  · exact .inr h0
  · left
    intro z
    have e := a.2.2
    rw [← lowp h0, ← low_mul, z, Int.zero_mul, low_zero] at e
    cases e
theorem Nr.f {p : Int} (P : Pm p) {ns ms : List Int} (h : Rn p ns) (a : Nr p ns ms) : NrF p ns ms := by
  cases ns with
  | nil =>
    have e : ms = [] := a
    subst e
    refine ⟨rfl, fun n hn => by simp at hn, ⟨1, ?_, fun j n m e => by simp at e⟩, fun _ z => absurd rfl z, fun m e => by simp at e⟩
    by_cases h0 : p = 0
    · rw [h0, low0]; decide
    · rw [lowp h0, one_low P h0]; decide
  | cons n0 ns =>
    obtain ⟨r0, z0⟩ := h n0 List.mem_cons_self
    rcases a with ⟨h0, i, hi, e⟩ | ⟨h0, e⟩
    · subst e
      have il := (inv_low hi).resolve_right h0
      refine ⟨by simp, fun m hm => ?_, ⟨n0, by rw [r0]; exact z0, fun j n m e1 e2 => ?_⟩, fun z => absurd z h0, fun m e => ?_⟩
      · obtain ⟨n, hn, rfl⟩ := List.mem_map.mp hm
        obtain ⟨r, z⟩ := h n hn
        refine ⟨by rw [← lowp h0, low_low], fun w => ?_⟩
        rw [← lowp h0] at w
        rcases P.mul w with w | w
        · rw [r] at w; exact z w
        · exact il w
      · rw [List.getElem?_map, e1] at e2
        have e3 : m = n * i % p := (Option.some.inj e2).symm
        have hn := List.mem_of_getElem? e1
        rw [e3, ← lowp h0, low_mul']
        have : n0 * (n * i) = n * (i * n0) := by simp only [Int.mul_comm, Int.mul_left_comm]
        rw [this, ← low_mul', lowp h0 (i * n0), hi.2.2, Int.mul_one, (h n hn).1]
      · rw [List.getElem?_map] at e
        have e3 : m = n0 * i % p := (Option.some.inj e).symm
        have : m = 1 := by rw [e3, Int.mul_comm]; exact hi.2.2
        exact ⟨by omega, fun _ => this⟩
    · subst h0
      subst e
      have gn := gd_ne (ns := ns) z0
      have key : ∀ n ∈ n0 :: ns, gd n0 ns * (n / gd n0 ns) = n := fun n hn => Int.mul_ediv_cancel' (gd_dvd hn)
      refine ⟨by simp, fun m hm => ?_, ⟨gd n0 ns, by rw [low0]; exact gn, fun j n m e1 e2 => ?_⟩, fun _ _ => ?_, fun m e => ?_⟩
      · obtain ⟨n, hn, rfl⟩ := List.mem_map.mp hm
        refine ⟨low0 _, fun w => ?_⟩
        have := key n hn
        rw [w, Int.mul_zero] at this
        exact (h n hn).2 this.symm
      · rw [List.getElem?_map, e1] at e2
        have e3 : m = n / gd n0 ns := (Option.some.inj e2).symm
        rw [e3, low0, key n (List.mem_of_getElem? e1)]
      · -- the common divisor of the quotients is 1
        have hp : 0 < gl (n0 :: ns) := gl_pos List.mem_cons_self z0
        have d1 : gl (n0 :: ns) * gl ((n0 :: ns).map fun n => n / gd n0 ns) ∣ gl (n0 :: ns) := dvd_gl fun n hn => by
          have d2 : gl ((n0 :: ns).map fun n => n / gd n0 ns) ∣ n / gd n0 ns := gl_dvd (List.mem_map_of_mem hn)
          obtain ⟨c, hc⟩ := d2
          have k := key n hn
          rw [hc] at k
          generalize gl ((n0 :: ns).map fun n => n / gd n0 ns) = M at k ⊢
          unfold gd at k
          split at k
          · exact ⟨c, by rw [Int.mul_assoc]; exact k.symm⟩
          · refine ⟨-c, ?_⟩
            rw [Int.mul_neg, ← Int.neg_mul, ← Int.neg_mul, Int.mul_assoc]
            exact k.symm
        obtain ⟨c, hc⟩ := d1
        have hc2 : gl (n0 :: ns) * 1 = gl (n0 :: ns) * (gl ((n0 :: ns).map fun n => n / gd n0 ns) * c) := by rw [Int.mul_one, ← Int.mul_assoc]; exact hc
        have hc3 := Int.eq_of_mul_eq_mul_left (by omega) hc2
        have : gl ((n0 :: ns).map fun n => n / gd n0 ns) ∣ 1 := ⟨c, hc3⟩
        exact dvd_antisymm (gl_nn _) (by decide) this (Int.one_dvd _)
      · have e3 : m = n0 / gd n0 ns := (Option.some.inj e).symm
        have k := key n0 List.mem_cons_self
        rw [← e3] at k
        refine ⟨?_, fun z => absurd rfl z⟩
        have hp : 0 < gl (n0 :: ns) := gl_pos List.mem_cons_self z0
        unfold gd at k
        split at k
        · rename_i q
          exact Int.pos_of_mul_pos_left (by rw [Int.mul_comm, k]; exact q) hp
        · rename_i q
          rw [Int.neg_mul] at k
          have : 0 < gl (n0 :: ns) * m := by omega
          rw [Int.mul_comm] at this
          exact Int.pos_of_mul_pos_left this hp
theorem gl_scale {c : Int} (ns : List Int) : gl (ns.map fun n => c * n) = (c.natAbs : Int) * gl ns := by
  by_cases hc : c = 0
  · subst hc
    have : ∀ g : Int, (ns.map fun n => 0 * n).foldl (fun g n => ((Int.gcd g n : Nat) : Int)) g = 0 ∨ g ≠ 0 := by
      induction ns with
      | nil => intro g; by_cases h : g = 0 <;> simp [h]
      | cons a ns ih =>
        intro g
        by_cases h : g = 0
        · left
          rw [h, List.map_cons, List.foldl_cons, Int.zero_mul]
          have e : ((Int.gcd 0 0 : Nat) : Int) = 0 := rfl
          rw [e]
          rcases ih 0 with z | z
          · exact z
          · exact absurd rfl z
        · exact .inr h
    rcases this 0 with z | z
    · show gl _ = 0 * gl ns
      rw [Int.zero_mul]; exact z
    · exact absurd rfl z
  · have ca : ∀ x : Int, (c.natAbs : Int) * x ∣ c * x ∧ c * x ∣ (c.natAbs : Int) * x := fun x => by
      rcases Int.natAbs_eq c with e | e
      · rw [← e]; exact ⟨Int.dvd_refl _, Int.dvd_refl _⟩
      · have e2 : c * x = -((c.natAbs : Int) * x) := by rw [← Int.neg_mul, ← e]
        rw [e2]
        exact ⟨Int.dvd_neg.mpr (Int.dvd_refl _), Int.neg_dvd.mpr (Int.dvd_refl _)⟩
    refine dvd_antisymm (gl_nn _) (Int.mul_nonneg (Int.natCast_nonneg _) (gl_nn _)) ?_ ?_
    · -- c divides the left, the cofactor divides all
      have d0 : (c.natAbs : Int) ∣ gl (ns.map fun n => c * n) := dvd_gl fun n hn => by
        obtain ⟨m, _, rfl⟩ := List.mem_map.mp hn
        exact Int.dvd_trans ⟨m, rfl⟩ (ca m).1
      obtain ⟨e, he⟩ := d0
      rw [he]
      refine Int.mul_dvd_mul (Int.dvd_refl _) (dvd_gl fun n hn => ?_)
      have d1 : gl (ns.map fun n => c * n) ∣ c * n := gl_dvd (List.mem_map_of_mem hn)
      rw [he] at d1
      have d2 := Int.dvd_trans d1 (ca n).2
      exact Int.dvd_of_mul_dvd_mul_left (by omega) d2
    · refine dvd_gl fun n hn => ?_
      obtain ⟨m, hm, rfl⟩ := List.mem_map.mp hn
      exact Int.dvd_trans (Int.mul_dvd_mul (Int.dvd_refl _) (gl_dvd hm)) (ca m).1
/-- a multiple has the same normal numbers -/
theorem Nr.scale {p c : Int} (P : Pm p) (hc : low p c ≠ 0) {ns ms : List Int} (h : Rn p ns) (a : Nr p ns ms) : Nr p (ns.map fun n => low p (c * n)) ms := by
  cases ns with
  | nil => exact a
  | cons n0 ns =>
    obtain ⟨r0, z0⟩ := h n0 List.mem_cons_self
    rcases a with ⟨h0, i, hi, e⟩ | ⟨h0, e⟩
    · left
      have hcn : low p (low p (c * n0)) ≠ 0 := by
        rw [low_low]
        intro w
        rcases P.mul w with w | w
        · exact hc w
        · rw [r0] at w; exact z0 w
      obtain ⟨j, hj, _⟩ := inv_ex P h0 hcn
      refine ⟨h0, j, hj, ?_⟩
      have eq : IsInv p n0 (c * j % p) := by
        have hb := low_bd P h0 (c * j)
        rw [lowp h0] at hb
        refine ⟨hb.1, hb.2, ?_⟩
        have q := hj.2.2
        rw [← lowp h0, low_mul', ← Int.mul_assoc] at q
        rw [← lowp h0, ← lowp h0 (c * j), low_mul]
        have : c * j * n0 = j * c * n0 := by rw [Int.mul_comm c j]
        rw [this]; exact q
      have ei := inv_uniq P h0 hi eq
      rw [e, ← List.map_cons (f := fun n => low p (c * n)), List.map_map]
      refine List.map_congr_left fun n _ => ?_
      show n * i % p = low p (c * n) * j % p
      rw [← lowp h0, ← lowp h0, low_mul, ei, ← lowp h0, low_mul']
      congr 1
      rw [← Int.mul_assoc, Int.mul_comm n c]
    · right
      subst h0
      rw [low0] at hc
      refine ⟨rfl, ?_⟩
      have e1 : ∀ l : List Int, (l.map fun n => low 0 (c * n)) = l.map fun n => c * n := fun l => List.map_congr_left fun n _ => low0 _
      show ms = ((n0 :: ns).map fun n => low 0 (c * n)).map fun n => n / gd (low 0 (c * n0)) (ns.map fun n => low 0 (c * n))
      rw [e1, e1, low0, List.map_map, e]
      refine List.map_congr_left fun n hn => ?_
      show n / gd n0 ns = c * n / gd (c * n0) (ns.map fun n => c * n)
      have e2 : gd (c * n0) (ns.map fun n => c * n) = c * gd n0 ns := by
        unfold gd
        rw [← List.map_cons (f := fun n => c * n), gl_scale]
        generalize gl (n0 :: ns) = G
        rcases Int.lt_trichotomy c 0 with q | q | q
        · rw [Int.ofNat_natAbs_of_nonpos (by omega)]
          rcases Int.lt_trichotomy n0 0 with w | w | w
          · rw [if_pos (Int.mul_pos_of_neg_of_neg q w), if_neg (by omega), Int.mul_neg, Int.neg_mul]
          · exact absurd w z0
          · rw [if_neg (by have := Int.mul_neg_of_neg_of_pos q w; omega), if_pos w, Int.neg_mul, Int.neg_neg]
        · exact absurd q hc
        · rw [Int.natAbs_of_nonneg (by omega)]
          rcases Int.lt_trichotomy n0 0 with w | w | w
          · rw [if_neg (by have := Int.mul_neg_of_pos_of_neg q w; omega), if_neg (by omega), Int.mul_neg]
          · exact absurd w z0
          · rw [if_pos (Int.mul_pos q w), if_pos w]
      have gn := gd_ne (ns := ns) z0
      rw [e2]
      obtain ⟨q, hq⟩ := gd_dvd hn
      generalize gd n0 ns = G at *
      rw [hq, Int.mul_ediv_cancel_left _ gn, ← Int.mul_assoc, Int.mul_ediv_cancel_left _ (Int.mul_ne_zero hc gn)]
/-- normal numbers are their own -/
theorem Nr.idem {p : Int} (P : Pm p) {ns ms : List Int} (h : Rn p ns) (a : Nr p ns ms) : Nr p ms ms := by
  have F := a.f P h
  cases ms with
  | nil => rfl
  | cons m ms =>
    obtain ⟨t1, t2⟩ := F.top m rfl
    by_cases h0 : p = 0
    · right
      refine ⟨h0, ?_⟩
      have hn : ns ≠ [] := by
        intro z
        have := F.len
        rw [z] at this
        simp at this
      have e : gd m ms = 1 := by
        unfold gd
        rw [if_pos t1]
        exact F.one h0 hn
      rw [e]
      simp
    · left
      have e := t2 h0
      subst e
      refine ⟨h0, 1, ⟨by decide, ?_, ?_⟩, ?_⟩
      · have := P.nn
        unfold Pm at P
        omega
      · rw [Int.mul_one, one_low P h0]
      · refine (List.map_id' (1 :: ms)).symm.trans (List.map_congr_left fun n hn => ?_)
        show n = n * 1 % p
        rw [Int.mul_one, ← lowp h0]
        exact (F.rn n hn).1.symm
end Tg
end
section
set_option Elab.async false
set_option linter.all false
set_option maxRecDepth 100000
set_option maxHeartbeats 0
/-! The text by places, the facts of the head. Printed by gen_text.py. -/
namespace Tg
open PySem PySem.Spec PyProof.Rows L2
def topS (i : Nat) : Stmt := PySem.Challenge.pw_tangentrows_k07_whole_quotients_and_orde.main.body.getD i (.Pass ⟨0, 0, 0, 0⟩)
abbrev m_Refused_init : Stmt := inClass (topS 9) 0
abbrev s_is_whole : Stmt := topS 13
abbrev s_is_within : Stmt := topS 14
abbrev s_is_prime : Stmt := topS 15
abbrev s_require_prime : Stmt := topS 16
abbrev s_is_number_of : Stmt := topS 17
abbrev s_lowered_by : Stmt := topS 18
abbrev s_inverse_of : Stmt := topS 19
abbrev s_divisor_of : Stmt := topS 20
abbrev s_normal_of : Stmt := topS 21
abbrev s_are_exponents : Stmt := topS 28
abbrev s_is_table_of : Stmt := topS 29
abbrev s_cleaned : Stmt := topS 30
abbrev s_plus_terms : Stmt := topS 31
abbrev s_sum_of_exponents : Stmt := topS 32
abbrev s_times_terms : Stmt := topS 33
abbrev s_first_of : Stmt := topS 34
abbrev s_quotient_terms : Stmt := topS 35
abbrev s_quotient_of : Stmt := topS 36
abbrev s_require_letters : Stmt := topS 44
abbrev s_is_form_of : Stmt := topS 45
abbrev s_require_kin : Stmt := topS 46
abbrev s_degree_of : Stmt := topS 48
abbrev m_Known_init : Stmt := inClass (topS 49) 1
abbrev s_known_form : Stmt := topS 50
abbrev m_Form_init : Stmt := inClass (topS 51) 1
abbrev m_Form_table : Stmt := inClass (topS 51) 6
abbrev m_Form_at : Stmt := inClass (topS 51) 8
abbrev m_Form_over : Stmt := inClass (topS 51) 11
abbrev m_Form_order_of : Stmt := inClass (topS 51) 12
abbrev m_Form_cleared : Stmt := inClass (topS 51) 13
abbrev m_Form_mul : Stmt := inClass (topS 51) 17
abbrev m_Form_eq : Stmt := inClass (topS 51) 22
abbrev s_require_degree : Stmt := topS 52
abbrev s_form_with : Stmt := topS 53
abbrev s_multiple_by : Stmt := topS 55
abbrev s_value_at : Stmt := topS 56
abbrev s_law_bag : Stmt := topS 58
abbrev s_law_grab : Stmt := topS 59
abbrev s_law_one_of : Stmt := topS 60
abbrev s_law_prime : Stmt := topS 61
abbrev s_law_low : Stmt := topS 62
abbrev s_law_common : Stmt := topS 63
abbrev s_law_back : Stmt := topS 64
abbrev s_law_normal : Stmt := topS 65
abbrev s_law_monos : Stmt := topS 66
abbrev s_law_entry : Stmt := topS 67
abbrev s_law_terms : Stmt := topS 68
abbrev s_law_some_terms : Stmt := topS 69
abbrev s_law_fsum : Stmt := topS 70
abbrev s_law_fproduct : Stmt := topS 71
abbrev s_law_fpower : Stmt := topS 72
abbrev s_law_fquotient : Stmt := topS 73
abbrev s_law_fcleared : Stmt := topS 74
abbrev s_law_form : Stmt := topS 75
abbrev s_law_told : Stmt := topS 76
abbrev s_law_over_right : Stmt := topS 77
abbrev s_law_quotients_right : Stmt := topS 78
abbrev s_law_order : Stmt := topS 79
abbrev s_law_orders_right : Stmt := topS 80
abbrev s_law_cleared_right : Stmt := topS 81
abbrev s_law_right : Stmt := topS 82
abbrev s_law : Stmt := topS 83
/-- the getter of the property table -/
def getA (K : PySem.W.Frag) : Addr := match PySem.W.recIn K (He.ma K (He.ga K "Form") "table") "property" with
  | some (.ref g :: _) => g
  | _ => 0
def d_is_whole : He5.DefA := ⟨fun K => He.fAd K ("is_whole", none), "is_whole", "is_whole", defArgs s_is_whole, defBody s_is_whole, defScope s_is_whole, [], []⟩
def d_is_within : He5.DefA := ⟨fun K => He.fAd K ("is_within", none), "is_within", "is_within", defArgs s_is_within, defBody s_is_within, defScope s_is_within, [], []⟩
def d_is_prime : He5.DefA := ⟨fun K => He.fAd K ("is_prime", none), "is_prime", "is_prime", defArgs s_is_prime, defBody s_is_prime, defScope s_is_prime, [], []⟩
def d_require_prime : He5.DefA := ⟨fun K => He.fAd K ("require_prime", none), "require_prime", "require_prime", defArgs s_require_prime, defBody s_require_prime, defScope s_require_prime, [], []⟩
def d_is_number_of : He5.DefA := ⟨fun K => He.fAd K ("is_number_of", none), "is_number_of", "is_number_of", defArgs s_is_number_of, defBody s_is_number_of, defScope s_is_number_of, [.int (10 ^ 60)], []⟩
def d_lowered_by : He5.DefA := ⟨fun K => He.fAd K ("lowered_by", none), "lowered_by", "lowered_by", defArgs s_lowered_by, defBody s_lowered_by, defScope s_lowered_by, [], []⟩
def d_inverse_of : He5.DefA := ⟨fun K => He.fAd K ("inverse_of", none), "inverse_of", "inverse_of", defArgs s_inverse_of, defBody s_inverse_of, defScope s_inverse_of, [], []⟩
def d_divisor_of : He5.DefA := ⟨fun K => He.fAd K ("divisor_of", none), "divisor_of", "divisor_of", defArgs s_divisor_of, defBody s_divisor_of, defScope s_divisor_of, [], []⟩
def d_normal_of : He5.DefA := ⟨fun K => He.fAd K ("normal_of", none), "normal_of", "normal_of", defArgs s_normal_of, defBody s_normal_of, defScope s_normal_of, [], []⟩
def d_are_exponents : He5.DefA := ⟨fun K => He.fAd K ("are_exponents", none), "are_exponents", "are_exponents", defArgs s_are_exponents, defBody s_are_exponents, defScope s_are_exponents, [], []⟩
def d_is_table_of : He5.DefA := ⟨fun K => He.fAd K ("is_table_of", none), "is_table_of", "is_table_of", defArgs s_is_table_of, defBody s_is_table_of, defScope s_is_table_of, [], []⟩
def d_cleaned : He5.DefA := ⟨fun K => He.fAd K ("cleaned", none), "cleaned", "cleaned", defArgs s_cleaned, defBody s_cleaned, defScope s_cleaned, [], []⟩
def d_plus_terms : He5.DefA := ⟨fun K => He.fAd K ("plus_terms", none), "plus_terms", "plus_terms", defArgs s_plus_terms, defBody s_plus_terms, defScope s_plus_terms, [], []⟩
def d_sum_of_exponents : He5.DefA := ⟨fun K => He.fAd K ("sum_of_exponents", none), "sum_of_exponents", "sum_of_exponents", defArgs s_sum_of_exponents, defBody s_sum_of_exponents, defScope s_sum_of_exponents, [], []⟩
def d_times_terms : He5.DefA := ⟨fun K => He.fAd K ("times_terms", none), "times_terms", "times_terms", defArgs s_times_terms, defBody s_times_terms, defScope s_times_terms, [], []⟩
def d_first_of : He5.DefA := ⟨fun K => He.fAd K ("first_of", none), "first_of", "first_of", defArgs s_first_of, defBody s_first_of, defScope s_first_of, [], []⟩
def d_quotient_terms : He5.DefA := ⟨fun K => He.fAd K ("quotient_terms", none), "quotient_terms", "quotient_terms", defArgs s_quotient_terms, defBody s_quotient_terms, defScope s_quotient_terms, [], []⟩
def d_quotient_of : He5.DefA := ⟨fun K => He.fAd K ("quotient_of", none), "quotient_of", "quotient_of", defArgs s_quotient_of, defBody s_quotient_of, defScope s_quotient_of, [], []⟩
def d_require_letters : He5.DefA := ⟨fun K => He.fAd K ("require_letters", none), "require_letters", "require_letters", defArgs s_require_letters, defBody s_require_letters, defScope s_require_letters, [], []⟩
def d_is_form_of : He5.DefA := ⟨fun K => He.fAd K ("is_form_of", none), "is_form_of", "is_form_of", defArgs s_is_form_of, defBody s_is_form_of, defScope s_is_form_of, [], []⟩
def d_require_kin : He5.DefA := ⟨fun K => He.fAd K ("require_kin", none), "require_kin", "require_kin", defArgs s_require_kin, defBody s_require_kin, defScope s_require_kin, [], []⟩
def d_degree_of : He5.DefA := ⟨fun K => He.fAd K ("degree_of", none), "degree_of", "degree_of", defArgs s_degree_of, defBody s_degree_of, defScope s_degree_of, [], []⟩
def d_Known_init : He5.DefA := ⟨fun K => He.fAd K ("Known", some "__init__"), "__init__", "Known.__init__", defArgs m_Known_init, defBody m_Known_init, defScope m_Known_init, [], []⟩
def d_known_form : He5.DefA := ⟨fun K => He.fAd K ("known_form", none), "known_form", "known_form", defArgs s_known_form, defBody s_known_form, defScope s_known_form, [], []⟩
def d_Form_init : He5.DefA := ⟨fun K => He.fAd K ("Form", some "__init__"), "__init__", "Form.__init__", defArgs m_Form_init, defBody m_Form_init, defScope m_Form_init, [.non], []⟩
def d_Form_table : He5.DefA := ⟨getA, "table", "Form.table", defArgs m_Form_table, defBody m_Form_table, defScope m_Form_table, [], []⟩
def d_Form_at : He5.DefA := ⟨fun K => He.fAd K ("Form", some "at"), "at", "Form.at", defArgs m_Form_at, defBody m_Form_at, defScope m_Form_at, [], []⟩
def d_Form_over : He5.DefA := ⟨fun K => He.fAd K ("Form", some "over"), "over", "Form.over", defArgs m_Form_over, defBody m_Form_over, defScope m_Form_over, [], []⟩
def d_Form_order_of : He5.DefA := ⟨fun K => He.fAd K ("Form", some "order_of"), "order_of", "Form.order_of", defArgs m_Form_order_of, defBody m_Form_order_of, defScope m_Form_order_of, [], []⟩
def d_Form_cleared : He5.DefA := ⟨fun K => He.fAd K ("Form", some "cleared"), "cleared", "Form.cleared", defArgs m_Form_cleared, defBody m_Form_cleared, defScope m_Form_cleared, [], []⟩
def d_Form_mul : He5.DefA := ⟨fun K => He.fAd K ("Form", some "__mul__"), "__mul__", "Form.__mul__", defArgs m_Form_mul, defBody m_Form_mul, defScope m_Form_mul, [], []⟩
def d_Form_eq : He5.DefA := ⟨fun K => He.fAd K ("Form", some "__eq__"), "__eq__", "Form.__eq__", defArgs m_Form_eq, defBody m_Form_eq, defScope m_Form_eq, [], []⟩
def d_require_degree : He5.DefA := ⟨fun K => He.fAd K ("require_degree", none), "require_degree", "require_degree", defArgs s_require_degree, defBody s_require_degree, defScope s_require_degree, [], []⟩
def d_form_with : He5.DefA := ⟨fun K => He.fAd K ("form_with", none), "form_with", "form_with", defArgs s_form_with, defBody s_form_with, defScope s_form_with, [], []⟩
def d_multiple_by : He5.DefA := ⟨fun K => He.fAd K ("multiple_by", none), "multiple_by", "multiple_by", defArgs s_multiple_by, defBody s_multiple_by, defScope s_multiple_by, [], []⟩
def d_value_at : He5.DefA := ⟨fun K => He.fAd K ("value_at", none), "value_at", "value_at", defArgs s_value_at, defBody s_value_at, defScope s_value_at, [], []⟩
def d_law_bag : He5.DefA := ⟨fun K => He.fAd K ("_law_bag", none), "_law_bag", "_law_bag", defArgs s_law_bag, defBody s_law_bag, defScope s_law_bag, [], []⟩
def d_law_grab : He5.DefA := ⟨fun K => He.fAd K ("_law_grab", none), "_law_grab", "_law_grab", defArgs s_law_grab, defBody s_law_grab, defScope s_law_grab, [], []⟩
def d_law_one_of : He5.DefA := ⟨fun K => He.fAd K ("_law_one_of", none), "_law_one_of", "_law_one_of", defArgs s_law_one_of, defBody s_law_one_of, defScope s_law_one_of, [], []⟩
def d_law_prime : He5.DefA := ⟨fun K => He.fAd K ("_law_prime", none), "_law_prime", "_law_prime", defArgs s_law_prime, defBody s_law_prime, defScope s_law_prime, [], []⟩
def d_law_low : He5.DefA := ⟨fun K => He.fAd K ("_law_low", none), "_law_low", "_law_low", defArgs s_law_low, defBody s_law_low, defScope s_law_low, [], []⟩
def d_law_common : He5.DefA := ⟨fun K => He.fAd K ("_law_common", none), "_law_common", "_law_common", defArgs s_law_common, defBody s_law_common, defScope s_law_common, [], []⟩
def d_law_back : He5.DefA := ⟨fun K => He.fAd K ("_law_back", none), "_law_back", "_law_back", defArgs s_law_back, defBody s_law_back, defScope s_law_back, [], []⟩
def d_law_normal : He5.DefA := ⟨fun K => He.fAd K ("_law_normal", none), "_law_normal", "_law_normal", defArgs s_law_normal, defBody s_law_normal, defScope s_law_normal, [], []⟩
def d_law_monos : He5.DefA := ⟨fun K => He.fAd K ("_law_monos", none), "_law_monos", "_law_monos", defArgs s_law_monos, defBody s_law_monos, defScope s_law_monos, [], []⟩
def d_law_entry : He5.DefA := ⟨fun K => He.fAd K ("_law_entry", none), "_law_entry", "_law_entry", defArgs s_law_entry, defBody s_law_entry, defScope s_law_entry, [], []⟩
def d_law_terms : He5.DefA := ⟨fun K => He.fAd K ("_law_terms", none), "_law_terms", "_law_terms", defArgs s_law_terms, defBody s_law_terms, defScope s_law_terms, [], []⟩
def d_law_some_terms : He5.DefA := ⟨fun K => He.fAd K ("_law_some_terms", none), "_law_some_terms", "_law_some_terms", defArgs s_law_some_terms, defBody s_law_some_terms, defScope s_law_some_terms, [], []⟩
def d_law_fsum : He5.DefA := ⟨fun K => He.fAd K ("_law_fsum", none), "_law_fsum", "_law_fsum", defArgs s_law_fsum, defBody s_law_fsum, defScope s_law_fsum, [], []⟩
def d_law_fproduct : He5.DefA := ⟨fun K => He.fAd K ("_law_fproduct", none), "_law_fproduct", "_law_fproduct", defArgs s_law_fproduct, defBody s_law_fproduct, defScope s_law_fproduct, [], []⟩
def d_law_fpower : He5.DefA := ⟨fun K => He.fAd K ("_law_fpower", none), "_law_fpower", "_law_fpower", defArgs s_law_fpower, defBody s_law_fpower, defScope s_law_fpower, [], []⟩
def d_law_fquotient : He5.DefA := ⟨fun K => He.fAd K ("_law_fquotient", none), "_law_fquotient", "_law_fquotient", defArgs s_law_fquotient, defBody s_law_fquotient, defScope s_law_fquotient, [], []⟩
def d_law_fcleared : He5.DefA := ⟨fun K => He.fAd K ("_law_fcleared", none), "_law_fcleared", "_law_fcleared", defArgs s_law_fcleared, defBody s_law_fcleared, defScope s_law_fcleared, [], []⟩
def d_law_form : He5.DefA := ⟨fun K => He.fAd K ("_law_form", none), "_law_form", "_law_form", defArgs s_law_form, defBody s_law_form, defScope s_law_form, [], []⟩
def d_law_told : He5.DefA := ⟨fun K => He.fAd K ("_law_told", none), "_law_told", "_law_told", defArgs s_law_told, defBody s_law_told, defScope s_law_told, [], []⟩
def d_law_over_right : He5.DefA := ⟨fun K => He.fAd K ("_law_over_right", none), "_law_over_right", "_law_over_right", defArgs s_law_over_right, defBody s_law_over_right, defScope s_law_over_right, [], []⟩
def d_law_quotients_right : He5.DefA := ⟨fun K => He.fAd K ("_law_quotients_right", none), "_law_quotients_right", "_law_quotients_right", defArgs s_law_quotients_right, defBody s_law_quotients_right, defScope s_law_quotients_right, [], []⟩
def d_law_order : He5.DefA := ⟨fun K => He.fAd K ("_law_order", none), "_law_order", "_law_order", defArgs s_law_order, defBody s_law_order, defScope s_law_order, [], []⟩
def d_law_orders_right : He5.DefA := ⟨fun K => He.fAd K ("_law_orders_right", none), "_law_orders_right", "_law_orders_right", defArgs s_law_orders_right, defBody s_law_orders_right, defScope s_law_orders_right, [], []⟩
def d_law_cleared_right : He5.DefA := ⟨fun K => He.fAd K ("_law_cleared_right", none), "_law_cleared_right", "_law_cleared_right", defArgs s_law_cleared_right, defBody s_law_cleared_right, defScope s_law_cleared_right, [], []⟩
def d_law_right : He5.DefA := ⟨fun K => He.fAd K ("_law_right", none), "_law_right", "_law_right", defArgs s_law_right, defBody s_law_right, defScope s_law_right, [], []⟩
def d_law : He5.DefA := ⟨fun K => He.fAd K ("law", none), "law", "law", defArgs s_law, defBody s_law, defScope s_law, [], []⟩
def fn : List He5.DefA := [d_is_whole, d_is_within, d_is_prime, d_require_prime, d_is_number_of, d_lowered_by, d_inverse_of, d_divisor_of, d_normal_of, d_are_exponents, d_is_table_of, d_cleaned, d_plus_terms, d_sum_of_exponents, d_times_terms, d_first_of, d_quotient_terms, d_quotient_of, d_require_letters, d_is_form_of, d_require_kin, d_degree_of, d_Known_init, d_known_form, d_Form_init, d_Form_table, d_Form_at, d_Form_over, d_Form_order_of, d_Form_cleared, d_Form_mul, d_Form_eq, d_require_degree, d_form_with, d_multiple_by, d_value_at, d_law_bag, d_law_grab, d_law_one_of, d_law_prime, d_law_low, d_law_common, d_law_back, d_law_normal, d_law_monos, d_law_entry, d_law_terms, d_law_some_terms, d_law_fsum, d_law_fproduct, d_law_fpower, d_law_fquotient, d_law_fcleared, d_law_form, d_law_told, d_law_over_right, d_law_quotients_right, d_law_order, d_law_orders_right, d_law_cleared_right, d_law_right, d_law]
def gloL : List Str := [("Refused" : Str), ("is_whole" : Str), ("is_within" : Str), ("is_prime" : Str), ("require_prime" : Str), ("is_number_of" : Str), ("lowered_by" : Str), ("inverse_of" : Str), ("divisor_of" : Str), ("normal_of" : Str), ("are_exponents" : Str), ("is_table_of" : Str), ("cleaned" : Str), ("plus_terms" : Str), ("sum_of_exponents" : Str), ("times_terms" : Str), ("first_of" : Str), ("quotient_terms" : Str), ("quotient_of" : Str), ("require_letters" : Str), ("is_form_of" : Str), ("require_kin" : Str), ("degree_of" : Str), ("Known" : Str), ("known_form" : Str), ("Form" : Str), ("require_degree" : Str), ("form_with" : Str), ("multiple_by" : Str), ("value_at" : Str), ("_law_bag" : Str), ("_law_grab" : Str), ("_law_one_of" : Str), ("_law_prime" : Str), ("_law_low" : Str), ("_law_common" : Str), ("_law_back" : Str), ("_law_normal" : Str), ("_law_monos" : Str), ("_law_entry" : Str), ("_law_terms" : Str), ("_law_some_terms" : Str), ("_law_fsum" : Str), ("_law_fproduct" : Str), ("_law_fpower" : Str), ("_law_fquotient" : Str), ("_law_fcleared" : Str), ("_law_form" : Str), ("_law_told" : Str), ("_law_over_right" : Str), ("_law_quotients_right" : Str), ("_law_order" : Str), ("_law_orders_right" : Str), ("_law_cleared_right" : Str), ("_law_right" : Str), ("law" : Str), ("PRIMES" : Str)]
def freeL : List Str := [("isinstance" : Str), ("int" : Str), ("bool" : Str), ("len" : Str), ("all" : Str), ("sum" : Str), ("max" : Str), ("min" : Str), ("dict" : Str), ("list" : Str), ("tuple" : Str), ("sorted" : Str), ("zip" : Str), ("range" : Str), ("abs" : Str), ("super" : Str)]
def methL : List Str := [("at" : Str), ("over" : Str), ("order_of" : Str), ("cleared" : Str), ("__mul__" : Str), ("__eq__" : Str)]
def intL : List He.Fa := [.int "MAX_DEGREE" 40, .int "BEYOND" (10 ^ 60), .int "TWO" 2, .int "THREE" 3, .int "BOUND" (10 ^ 60 - 1)]
def fa : List He.Fa := (gloL.map fun x => He.Fa.glo x) ++ ((freeL.map fun x => He.Fa.free x) ++ ((methL.map fun x => He.Fa.meth "Form" x) ++ (intL ++ [.mkr "Known", .mkr "Form"])))
/-! what else is asked of the classes -/
def sclsB (K : PySem.W.Frag) (C : Addr) : Bool := PySem.W.plainGet K C Str.empty && (PySem.W.isClsIn K C && (PySem.W.plainOver K C && He.eqO (PySem.W.findIn K (.ref C) "__setattr__") (some (some (.builtin "object.__setattr__")))))
def slotB (K : PySem.W.Frag) (C : Addr) (f : Str) (i : Nat) : Bool := match PySem.W.findIn K (.ref C) f with
  | some (some (.ref p)) => He.eqO (PySem.W.specialIn K (.ref p) "__get__") (some (some (.builtin "member_descriptor.__get__"))) && (decide (PySem.W.takesIn K (.ref p) = some true) && (decide (PySem.W.typeIn K (.ref p) = some (.type "member_descriptor")) && decide (PySem.W.slotIn K p C = some i)))
  | _ => false
def isiB (K : PySem.W.Frag) (C : Addr) : Bool := He.eqO (PySem.W.findIn K (.ref C) "__class__") (some (some (.builtin "object.__class__"))) && (He.eqO (PySem.W.specialIn K (.builtin "object.__class__") "__get__") (some (some (.builtin "getset_descriptor.__get__"))) &&
  (decide (PySem.W.takesIn K (.builtin "object.__class__") = some true) && decide (PySem.W.mroIn K C (.type "object") = some true)))
def propB (K : PySem.W.Frag) (C : Addr) (f : Str) : Bool := match PySem.W.findIn K (.ref C) f with
  | some (some (.ref p)) => He.eqO (PySem.W.specialIn K (.ref p) "__get__") (some (some (.builtin "property.__get__"))) && (decide (PySem.W.takesIn K (.ref p) = some true) && (match PySem.W.recIn K p "property" with
    | some (.ref _ :: _) => true
    | _ => false))
  | _ => false
/-! the own error -/
abbrev fileN : Str := PySem.Challenge.pw_tangentrows_k07_whole_quotients_and_orde.main.file
def xTail : List Value := [.type "ArithmeticError", .type "Exception", .type "BaseException", .type "object"]
def clsB (K : PySem.W.Frag) (C : Addr) : Bool := match K.lookup C with
  | some ⟨.type "type", _, .cls cd, sl⟩ => decide (cd.mro = .ref C :: xTail) && (cd.hasDict && (!cd.hasDel && (match sl.toList with
    | [_, _, _, _, some (.builtin n), _] => decide (n = "ArithmeticError.__new__")
    | _ => false)))
  | _ => false
def initB (K : PySem.W.Frag) (C f : Addr) : Bool := match K.lookup f with
  | some ⟨_, _, .func fd, _⟩ => decide (fd.defaults = .none) && (decide (fd.kwdefaults = .none) && ((match fd.code with
    | .ref c => PySem.W.codeIn K fd.code "Refused.__init__" && (match K.lookup c with
      | some ⟨_, _, .fields vs, _⟩ => (match (vs.toList[2]? : Option Value) with
        | some (.str fl _) => fileN == fl
        | _ => false)
      | _ => false)
    | _ => false) && (match fd.closure with
    | [(_, cc)] => (match K.lookup cc with
      | some ⟨_, _, .cell (some v), _⟩ => decide (v = .ref C)
      | _ => false)
    | _ => false)))
  | _ => false
def refB (K : PySem.W.Frag) (C f : Addr) : Bool := clsB K C && (He.eqO (PySem.W.findIn K (.ref C) "__setattr__") (some (some (.builtin "object.__setattr__"))) && (He.eqO (PySem.W.findIn K (.ref C) "reason") (some none) &&
  (He.eqO (PySem.W.findIn K (.ref C) "__init__") (some (some (.ref f))) && (decide (PySem.W.typeIn K (.ref f) = some (.type "function")) && (PySem.W.keepIn K (.ref C) && (decide (PySem.W.subIn K (.ref C) (.type "BaseException") = some true) &&
  (decide (PySem.W.subIn K (.ref C) (.type "ArithmeticError") = some true) && (decide (PySem.W.typeIn K (.ref C) = some (.type "type")) && (He.eqO (PySem.W.alongIn K "__init__" xTail) (some (some (.builtin "ArithmeticError.__init__"))) &&
  (He.eqO (PySem.W.nsIn K cStatics "thirdparty.any") (some none) && (initB K C f && (decide (PySem.W.exmOne K (.ref C) (.ref C) = some true) && L2.xfB K C))))))))))))
def ex (K : PySem.W.Frag) : Bool := He.tupB K "PRIMES" [.int 2, .int 3, .int 5, .int 7, .int 11, .int 13, .int 17, .int 19] && (He.eqO (PySem.W.nsIn K mainGlobals "gcd") (some (some (.builtin "math.gcd"))) &&
  (sclsB K (He.ga K "Known") && (sclsB K (He.ga K "Form") && (isiB K (He.ga K "Known") && (isiB K (He.ga K "Form") && (propB K (He.ga K "Form") "table" &&
  (slotB K (He.ga K "Known") "own_letters" 0 && (slotB K (He.ga K "Known") "own_prime" 1 && (slotB K (He.ga K "Known") "own_terms" 2 &&
  (slotB K (He.ga K "Form") "own_degree" 0 && (slotB K (He.ga K "Form") "own_letters" 1 && (slotB K (He.ga K "Form") "own_prime" 2 && (slotB K (He.ga K "Form") "own_terms" 3 &&
  (refB K (He.ga K "Refused") (He.fAd K ("Refused", some "__init__")) && (He.eqO (PySem.W.findIn K (.ref (He.ga K "Form")) "__ne__") (some (some (.builtin "object.__ne__"))) && (He.eqO (PySem.W.findIn K (.ref (He.ga K "Form")) "__rmul__") (some none) &&
  (PySem.W.selfFirst K (He.ga K "Form") && (decide (PySem.W.kitOne K (.type "int") (.ref (He.ga K "Known")) = some false) && decide (PySem.W.kitOne K (.type "int") (.ref (He.ga K "Form")) = some false)))))))))))))))))))
/-- a function by its parts, its closure by its names -/
abbrev FnC : Type := Option (Str × Str × Arguments × FuncBody × Scope × Addr × List Str × Addr)
def fnC (K : PySem.W.Frag) (a : Addr) : FnC := match K.lookup a with
  | some ⟨_, _, .func fd, _⟩ => some (fd.name, fd.qualname, fd.params, fd.body, fd.scope, fd.globals, fd.closure.map (·.1), fd.builtins)
  | _ => none
def refV : FnC := some ("__init__", "Refused.__init__", defArgs m_Refused_init, .stmts (defBody m_Refused_init), defScope m_Refused_init, mainGlobals, ["__class__"], builtinsNs)
/-! ### the Hook -/
/-- what the module's names reach, level by level -/
def lev (g : Addr → Option Obj) (as : List Addr) : List Addr := as.flatMap fun a => match g a with
  | some o => He.refsD o
  | none => []
def asM (g : Addr → Option Obj) : Nat → List Addr → List Addr
  | 0, as => as
  | n + 1, as => as ++ asM g n (lev g as)
def roots : List Addr := [mainGlobals, cStatics]
abbrev AlM : Type := He.AlD × Bool × FnC
def obsM (n : Nat) (g : Addr → Option Obj) : AlM := (He5.obsA fa fn (He.frG g (asM g n roots)), ex (He.frG g (asM g n roots)), fnC (He.frG g (asM g n roots)) (He.fAd (He.frG g (asM g n roots)) ("Refused", some "__init__")))
def hookM (n : Nat) : PySem.W.Hook where
  α := AlM
  obs := fun s => obsM n s.heap.get?
  val := fun _ => (He5.valA fn, true, refV)
  says := fun _ h => ∃ K : PySem.W.Frag, K.In h ∧ (He5.SaysA fa fn K ∧ ex K = true ∧ fnC K (He.fAd K ("Refused", some "__init__")) = refV)
  of := fun _ _ e => ⟨_, He.frG_in, congrArg (fun z : AlM => z.1) e, congrArg (fun z : AlM => z.2.1) e, congrArg (fun z : AlM => z.2.2) e⟩
  keeps := fun _ _ _ ⟨K, hK, c⟩ k => ⟨K, PySem.W.Frag.In.keeps hK k, c⟩
end Tg
end
section
set_option Elab.async false
set_option linter.all false
set_option maxRecDepth 100000
set_option maxHeartbeats 0
namespace Tg
open PySem PySem.Spec PyProof.Rows L2
def names0 : List PySem.Str := ["gcd", "_wall", "TangentError", "InvalidForm", "InvalidOperation", "ParseError", "InvalidNumber", "TooMany", "Refused", "PRIMES", "BEYOND", "is_whole", "is_within", "is_prime", "require_prime", "is_number_of", "lowered_by", "inverse_of", "divisor_of", "normal_of", "MAX_DEGREE", "LETTERS", "TWO", "BOUND", "FIGURES", "are_exponents", "is_table_of", "cleaned", "plus_terms", "sum_of_exponents"]
def names1 : List PySem.Str := ["times_terms", "first_of", "quotient_terms", "quotient_of", "letters_text", "text_of", "figures_ahead", "read_term", "read_terms", "THREE", "require_letters", "is_form_of", "require_kin", "require_operand", "degree_of", "Known", "known_form", "Form", "require_degree", "form_with", "sum_with", "multiple_by", "value_at", "_law_bag", "_law_grab", "_law_one_of", "_law_prime", "_law_low", "_law_common", "_law_back"]
def names2 : List PySem.Str := ["_law_normal", "_law_monos", "_law_entry", "_law_terms", "_law_some_terms", "_law_fsum", "_law_fproduct", "_law_fpower", "_law_fquotient", "_law_fcleared", "_law_form", "_law_told", "_law_over_right", "_law_quotients_right", "_law_order", "_law_orders_right", "_law_cleared_right", "_law_right"]
def namesAll : List PySem.Str := names0 ++ (names1 ++ (names2))
abbrev R0 : PySem.W.OpenRow := PySem.W.OpenLaw.row PySem.Challenge.rw_tangentrows_k07_whole_quotients_and_orde
def ob (s : PySem.W.SharedT) : AlM := obsM 5 (HandSHeadRun.getT s)
theorem ob_eq (s : PySem.W.SharedT) : ob s = (hookM 5).obs s.abs := by
  have e : HandSHeadRun.getT s = s.abs.heap.get? := funext (HandSHeadRun.getT_eq s)
  show obsM 5 (HandSHeadRun.getT s) = obsM 5 s.abs.heap.get?
  rw [e]
theorem run (w : World) : HandSHeadRun.RunEqI R0 (PySem.W.view R0.prog [0, 83]) (hookM 5) ob 6000 namesAll w := by
  unfold HandSHeadRun.RunEqI
  kernel_rfl
end Tg
end
section
set_option Elab.async false
set_option autoImplicit false
set_option linter.all false
set_option maxRecDepth 100000
set_option maxHeartbeats 4000000
/-! Rules for dicts whose keys are tuples of ints. -/
namespace Tg
open PySem PySem.Spec PyProof.Rows L2
/-! ### tables on the heap -/
abbrev ek (k : K) : List Key := k.map Sum.inl
def et (t : T) : List (List Key × V) := t.map fun e => (ek e.1, V.int e.2)
theorem ek_inj {a b : K} (h : ek a = ek b) : a = b := by
  induction a generalizing b with
  | nil => cases b with
    | nil => rfl
    | cons y b => cases h
  | cons x a ih => cases b with
    | nil => cases h
    | cons y b =>
      injection h with h1 h2
      injection h1 with h1
      rw [h1, ih h2]
theorem ek_kV (k : K) : (ek k).map kV = k.map V.int := by rw [List.map_map]; rfl
theorem et_length (t : T) : (et t).length = t.length := List.length_map ..
theorem et_append (a b : T) : et (a ++ b) = et a ++ et b := List.map_append ..
theorem dec_ek (a b : K) : decide (ek a = ek b) = decide (a = b) := by
  by_cases h : a = b
  · subst h; simp
  · rw [decide_eq_false h, decide_eq_false fun e => h (ek_inj e)]
theorem valV_et (t : T) (k : K) : valV (et t) (ek k) = (t.find? fun e => decide (e.1 = k)).map fun e => V.int e.2 := by
  induction t with
  | nil => rfl
  | cons e t ih =>
    show valV ((ek e.1, V.int e.2) :: et t) (ek k) = _
    by_cases h : e.1 = k
    · rw [valV_pos (by rw [h]), List.find?_cons_of_pos (by simp [h])]; rfl
    · rw [valV_neg (fun z => h (ek_inj z)), ih, List.find?_cons_of_neg (by simp [h])]
theorem valV_getD (t : T) (k : K) : (valV (et t) (ek k)).getD (.int 0) = .int (gt t k) := by
  rw [valV_et]; unfold gt
  cases t.find? fun e => decide (e.1 = k) <;> rfl
theorem valV_mem {t : T} {k : K} (h : k ∈ t.map (·.1)) : valV (et t) (ek k) = some (.int (gt t k)) := by
  rw [valV_et]; unfold gt
  cases e : t.find? fun e => decide (e.1 = k) with
  | none =>
    exfalso
    obtain ⟨u, hu, q⟩ := List.mem_map.mp h
    have := List.find?_eq_none.mp e u hu
    simp [q] at this
  | some u => rfl
theorem putK_et (t : T) (k : K) (v : Int) : putK (et t) (ek k) (.int v) = et (put t k v) := by
  unfold putK put
  have e1 : ((et t).any fun kv => decide (kv.1 = ek k)) = t.any fun e => decide (e.1 = k) := by
    unfold et
    rw [List.any_map]
    congr 1
    funext e
    exact dec_ek e.1 k
  rw [e1]
  split
  · unfold et
    rw [List.map_map, List.map_map]
    refine List.map_congr_left fun e _ => ?_
    show (if ek e.1 = ek k then (ek e.1, V.int v) else (ek e.1, V.int e.2)) = _
    by_cases h : e.1 = k
    · rw [if_pos (by rw [h])]; simp [h]
    · rw [if_neg fun z => h (ek_inj z)]; simp [h]
  · rw [et_append]; rfl

/-! ### a dict comprehension, over any way of storing -/
/-- what a new dict is at first, and its store, by values -/
structure Sto (X : Cx) where
  o0 : HO
  rel : Hp → Addr → V → V → Hp → Prop
  new : ∀ (h : Heap) (H : Hp), sysModules < h.objs.size → ObjOk X.prog X.w H (h.push { cls := .type "dict", data := .dict #[] }) h.objs.size o0
  put : ∀ (Y : Cx), Y.prog = X.prog → Y.w = X.w → Y.A = X.A → ∀ {pins : List (Addr × Obj)} {σ : L2.St} {H H' : Hp} {s : Shared} {E : Value → Shared → Prop} {D : Addr} {y z : V} {u r : Value} {Q : Unit → Shared → Prop},
    Inv Y pins σ H s → rel H D y z H' → RelV y u → RelV z r → (∀ s', Inv Y pins σ H' s' → Q () s') → wpAny (model Y.prog Y.w) Y.A (dictSet D u r) Q E s
section
variable {X : Cx}
def tDcS (S : Sto X) (wi : TI) (g : TG) (tt : TT) (tk tv : TE) (vs : List Nat) : TE := fun σ H Q => wi σ H fun J H1 => ∀ D, H1 D = none →
  ∃ W : Nat → Nat → Hp → Prop, (∃ m, W 0 m (upd H1 D S.o0)) ∧ ∀ i m H, W i m H →
    (J.stop i H ∧ Q (.ref D) H) ∨ (J.go i H ∧ ∃ Nx : Hp → Prop, (∀ H', Nx H' → ∃ m', m' < m ∧ W (i + 1) m' H') ∧ ∀ x H', J.yld i H x H' →
      g x (wipe σ vs) H' fun σ2 H2 => wipe σ2 vs = wipe σ vs ∧ tt σ2 H2 fun b H3 =>
        if b = true then tk σ2 H3 fun y H4 => tv σ2 H4 fun z H5 => ∃ H6, S.rel H5 D y z H6 ∧ Nx H6 else Nx H3)
theorem dc_coreS {pins : List (Addr × Obj)} {s : Shared} {σ : L2.St} {H : Hp} {Q : VK} {kx vx tg iter : Expr} {ifs : List Expr} {scope : Scope} {own : List (Str × Nat)} {pos pos' : Pos} {wi : TI} {g : TG} {tt : TT} {tk tv : TE} {use : Option (Value → Sem Unit)} {Qf : Value → Shared → Prop}
    (S : Sto X) (hc : X.calm = true) (hN : X.N.Nodup) (I : Inv X pins σ H s) (hi : PI X tg iter wi)
    (ok : BlkOk X.N X.env.scope scope own)
    (hg : ∀ s H C cl fp, PG (X.blk s H scope (compEnvC scope cl C X.env) fp) tg g)
    (ht : ∀ s H C cl fp, PTs (X.blk s H scope (compEnvC scope cl C X.env) fp) ifs tt)
    (hk : ∀ s H C cl fp, PE (X.blk s H scope (compEnvC scope cl C X.env) fp) kx tk)
    (he : ∀ s H C cl fp, PE (X.blk s H scope (compEnvC scope cl C X.env) fp) vx tv)
    (hs : ∀ x, foldedSetIterable iter X.env x = pure x)
    (h : tDcS S wi g tt tk tv (own.map (·.2)) σ H Q)
    (hRR : ∀ D C s' m H', Inv X pins σ H' s' → Q (.ref D) H' → s'.heap.Ns C m → FpOk X pins H' C → compPost (model X.prog X.w) X.A X.xe use Qf (.ref D) C (.ok .next) s') :
    wpAny (model X.prog X.w) X.A (comprehension (.DictComp kx vx [⟨tg, iter, ifs, 0⟩] scope pos) scope X.env pos' newDict false (eval iter X.env) use) Qf X.xe s := by
  have hfree : ∀ y ∈ scope.names, y.2 = .free → ∃ c, X.env.cells.lookup y.1 = some c := fun y hy e => (ok.free y hy e).elim (fun k => I.ok.has _ (.inl k)) fun k => I.ok.has _ (.inr k)
  refine wpAny_comprehension_free (use := use) rfl hs (closure_ok hfree) ok.kind (fun y hy e => by rw [ok.uniq y hy, e]) (thn (hi.run pins s σ H _ I h) fun xv s1 hx => thn hx fun itv s2 h2 => ?_)
  obtain ⟨it, fp, tn, J, H2, rfl, I2, Tn, st2, f2, q⟩ := h2
  refine wpAny_newObj_type (newEnv_comp ?_)
  -- the new dict at D
  obtain ⟨D, hD⟩ : ∃ D, D = s2.heap.objs.size := ⟨_, rfl⟩
  rw [← hD]
  have hDn : H2 D = none := I2.hok.fresh (Nat.le_of_eq hD.symm)
  obtain ⟨W, ⟨m0, w0⟩, turn⟩ := q D hDn
  obtain ⟨h3, e3⟩ : ∃ h3, h3 = s2.heap.push { cls := .type "dict", data := .dict #[] } := ⟨_, rfl⟩
  rw [← e3]
  have k23 : ∀ b o, s2.heap.get? b = some o → h3.get? b = some o := fun b o e => by rw [e3]; exact Heap.get?_push_of_some _ e
  have I3 : Inv X pins σ (upd H2 D S.o0) { s2 with heap := h3 } := by
    refine I2.laid (t' := s2.toks) k23 (Nat.le_of_eq hD.symm) ?_
    rw [e3, hD]
    exact S.new _ _ I2.big
  have f3 : ∀ b ∈ fp, FpOk X pins (upd H2 D S.o0) b ∧ b < h3.objs.size := fun b hb => by
    obtain ⟨o, e, _⟩ := Tn.obj _ _ st2 b hb
    refine ⟨⟨?_, (f2 b hb).2⟩, Heap.lt_size (k23 b o e)⟩
    rw [upd_ne (by rw [hD]; exact Nat.ne_of_lt (Heap.lt_size e))]
    exact (f2 b hb).1
  have I4 := block_start I3 ok hN f3
  obtain ⟨H3, eH3⟩ : ∃ H3, H3 = upd H2 D S.o0 := ⟨_, rfl⟩
  rw [← eH3] at I3 I4 w0 f3
  obtain ⟨ce, ece⟩ : ∃ ce, ce = compEnvC scope (cellsFrom (h3.objs.size + 1) scope.names (cloFrom X.env.cells scope.names [])) h3.objs.size X.env := ⟨_, rfl⟩
  have pg : PG (X.blk { s2 with heap := h3 } H3 scope ce fp) tg g := by rw [ece]; exact hg _ _ _ _ _
  have pt : PTs (X.blk { s2 with heap := h3 } H3 scope ce fp) ifs tt := by rw [ece]; exact ht _ _ _ _ _
  have pk : PE (X.blk { s2 with heap := h3 } H3 scope ce fp) kx tk := by rw [ece]; exact hk _ _ _ _ _
  have pv : PE (X.blk { s2 with heap := h3 } H3 scope ce fp) vx tv := by rw [ece]; exact he _ _ _ _ _
  have cL : ce.locals = h3.objs.size := by rw [ece]; rfl
  replace I4 : Inv (X.blk { s2 with heap := h3 } H3 scope ce fp) [] (wipe σ (own.map (·.2))) H3 { s2 with heap := pushCells (h3.push { cls := .type "dict", data := .dict #[] }) scope.names } := by rw [ece]; exact I4
  obtain ⟨Y, eY⟩ : ∃ Y, Y = X.blk { s2 with heap := h3 } H3 scope ce fp := ⟨_, rfl⟩
  obtain ⟨s4, e4⟩ : ∃ s4 : Shared, s4 = { s2 with heap := pushCells (h3.push { cls := .type "dict", data := .dict #[] }) scope.names } := ⟨_, rfl⟩
  rw [← e4] at I4
  have st4 : tn 0 s4.heap := Tn.keep _ _ _ st2 fun b _ o e => by rw [e4]; exact pushCells_keeps _ _ _ _ (Heap.get?_push_of_some _ (k23 b o e))
  have stat : ∀ {σ' : L2.St} {H' : Hp} {s' : Shared}, Inv (X.blk { s2 with heap := h3 } H3 scope ce fp) [] σ' H' s' → (∀ b ∈ fp, H' b = none) → ∀ b ∈ fp, FpOk (X.blk { s2 with heap := h3 } H3 scope ce fp) [] H' b := fun I' hn b hb =>
    ⟨hn b hb, (I'.ok.exf b hb).1, I'.ok.exfs b hb, .inl hb, fun x c e => (I'.ok.exf b hb).2 x c e, fun p hp => by simp at hp⟩
  have loop : codeAny (model X.prog X.w) X.A (.compLoop (.DictComp kx vx [⟨tg, iter, ifs, 0⟩] scope pos) 0 (.ref it) (.ref D) ce) (compPost (model X.prog X.w) X.A X.xe use Qf (.ref D) h3.objs.size) s4 := by
    refine compLoop_anyD (fun n s' => ∃ i H', Inv (X.blk { s2 with heap := h3 } H3 scope ce fp) [] (wipe σ (own.map (·.2))) H' s' ∧ tn i s'.heap ∧ (∀ b ∈ fp, H' b = none) ∧ W i n H') ?_ m0 ⟨0, H3, I4, st4, fun b hb => (f3 b hb).1.1, w0⟩
    rintro n s5 ⟨i, H5, I5, st5, n5, w5⟩
    rcases turn i n H5 w5 with ⟨stop, qq⟩ | ⟨go, Nx, hNx, step⟩
    · refine thnF (Tn.done (X.blk { s2 with heap := h3 } H3 scope ce fp) rfl rfl rfl hc i [] s5 _ H5 (fun _ _ => False) I5 (stat I5 n5) st5 stop) fun r s6 ⟨hr, I6⟩ => ?_
      subst hr
      have I7 : Inv X pins σ H5 s6 := I3.call' (ch := fp) I6.os I6.base I6.hok I6.bare fun b hb => ⟨(f3 b hb).1.2.2.2.1, (f3 b hb).1.2.1, (f3 b hb).1.2.2.2.2.1, (f3 b hb).1.2.2.2.2.2⟩
      have nC : H5 h3.objs.size = none := by rw [← cL]; exact I6.free
      obtain ⟨m, hn, _⟩ := I6.loc
      exact hRR D h3.objs.size s6 m H5 I7 qq (by rw [← cL]; exact hn) (I3.fpOk (Nat.le_refl _) nC)
    · refine thnF (Tn.item (X.blk { s2 with heap := h3 } H3 scope ce fp) rfl rfl rfl hc i [] s5 _ H5 (fun _ _ => False) I5 (stat I5 n5) st5 go) fun r s6 ⟨u, hr, h6⟩ => ?_
      subst hr
      refine thnF h6 fun _ s7 ⟨x, H7, I7, r7, y7, st7, n7⟩ => ?_
      refine thnF (pg.run _ s7 _ H7 x u _ (I7.pinned (stat I7 n7) (Tn.obj _ _ st7)) r7 (step x H7 y7)) fun _ s8 ⟨σ8, H8, I8, hw8, q8⟩ => ?_
      refine thnF (pt.run _ s8 σ8 H8 _ I8 q8) fun b s9 ⟨H9, I9, q9⟩ => ?_
      have fin : ∀ {s' : Shared} {H' : Hp}, Inv (X.blk { s2 with heap := h3 } H3 scope ce fp) ([] ++ pinsAt fp s7.heap) σ8 H' s' → Nx H' →
          ∃ m, m < n ∧ ∃ i H', Inv (X.blk { s2 with heap := h3 } H3 scope ce fp) [] (wipe σ (own.map (·.2))) H' s' ∧ tn i s'.heap ∧ (∀ b ∈ fp, H' b = none) ∧ W i m H' := fun {s' H'} I' nx => by
        obtain ⟨m', hm, w'⟩ := hNx H' nx
        have kept : ∀ b ∈ fp, ∀ o, s7.heap.get? b = some o → s'.heap.get? b = some o ∧ H' b = none := fun b hb o e =>
          let z := I'.pin (b, o) (List.mem_append_right _ (List.mem_append_right _ (mem_pinsAt hb e)))
          ⟨z.1, z.2.1⟩
        refine ⟨m', hm, i + 1, H', (I'.unpinned (pins := [])).weak (by rw [← hw8, wipe_length]) (fun j v e => ?_), Tn.keep _ _ _ st7 fun b hb o e => (kept b hb o e).1, fun b hb => ?_, w'⟩
        · rw [← hw8] at e
          exact (wipe_some e).1
        · obtain ⟨o, e, _⟩ := Tn.obj _ _ st7 b hb
          exact (kept b hb o e).2
      cases b with
      | false => exact fin I9 (by simpa using q9)
      | true =>
        have q9' := (if_pos (rfl : true = true)) ▸ q9
        show wpAny _ _ _ _ _ _
        refine thnF (pk.run _ s9 σ8 H9 _ I9 q9') fun z s10 ⟨yk, H10, I10, r10, q10⟩ => ?_
        refine thnF (pv.run _ s10 σ8 H10 _ I10 q10) fun z2 s11 ⟨yv, H11, I11, r11, H12, rl, nx⟩ => ?_
        exact S.put (X.blk { s2 with heap := h3 } H3 scope ce fp) rfl rfl rfl I11 rl r10 r11 fun s12 I12 => fin I12 nx
  rw [← e4]
  rw [ece] at loop
  exact codeAny_compStart_dict loop (Tn.self X.A 0 _ _ _ st4 loop)
theorem pe_dcS {kx vx tg iter : Expr} {ifs : List Expr} {scope : Scope} {own : List (Str × Nat)} {pos : Pos} {wi : TI} {g : TG} {tt : TT} {tk tv : TE} (S : Sto X) (hc : X.calm = true) (hN : X.N.Nodup) (hi : PI X tg iter wi)
    (ok : BlkOk X.N X.env.scope scope own)
    (hg : ∀ s H C cl fp, PG (X.blk s H scope (compEnvC scope cl C X.env) fp) tg g)
    (ht : ∀ s H C cl fp, PTs (X.blk s H scope (compEnvC scope cl C X.env) fp) ifs tt)
    (hk : ∀ s H C cl fp, PE (X.blk s H scope (compEnvC scope cl C X.env) fp) kx tk)
    (he : ∀ s H C cl fp, PE (X.blk s H scope (compEnvC scope cl C X.env) fp) vx tv)
    (hs : ∀ x, foldedSetIterable iter X.env x = pure x := by intro _; rfl) :
    PE X (.DictComp kx vx [⟨tg, iter, ifs, 0⟩] scope pos) (tDcS S wi g tt tk tv (own.map (·.2))) := by
  refine ⟨fun pins s σ H Q I h => ?_⟩
  rw [arm_eval_DictComp]
  refine dc_coreS (use := none) S hc hN I hi ok hg ht hk he hs h fun D C s' m H' I' q hn f => ⟨m, hn, fun h'' sb => ?_⟩
  obtain ⟨f0, f1, f2, f3, f4, f5⟩ := f
  exact ⟨.ref D, H', I'.turned (t' := s'.toks) (fun b o hb e => (sb.2 b hb).trans e) f0 f1 f3 f4 f5, rfl, q⟩
/-- a dict comprehension stored in a local name, on one line -/
theorem ps_setDcS {i : Nat} {y : Str} {py : Pos} {kx vx tg iter : Expr} {ifs : List Expr} {scope : Scope} {own : List (Str × Nat)} {pos spos : Pos} {wi : TI} {g : TG} {tt : TT} {tk tv : TE} (S : Sto X) (hc : X.calm = true) (hN : X.N.Nodup) (hy : X.N[i]? = some y)
    (hyl : X.env.scope.names.lookup y = some .local) (hsw : swapsWith (.DictComp kx vx [⟨tg, iter, ifs, 0⟩] scope pos) (some (.Name y py)) spos.line X.env = pure true) (hi : PI X tg iter wi)
    (ok : BlkOk X.N X.env.scope scope own)
    (hg : ∀ s H C cl fp, PG (X.blk s H scope (compEnvC scope cl C X.env) fp) tg g)
    (ht : ∀ s H C cl fp, PTs (X.blk s H scope (compEnvC scope cl C X.env) fp) ifs tt)
    (hk : ∀ s H C cl fp, PE (X.blk s H scope (compEnvC scope cl C X.env) fp) kx tk)
    (he : ∀ s H C cl fp, PE (X.blk s H scope (compEnvC scope cl C X.env) fp) vx tv)
    (hs : ∀ x, foldedSetIterable iter X.env x = pure x := by intro _; rfl) :
    PS X (.Assign [.Name y py] (.DictComp kx vx [⟨tg, iter, ifs, 0⟩] scope pos) spos) (tAsg (tDcS S wi g tt tk tv (own.map (·.2))) (gName i)) := by
  refine ⟨fun pins s σ H D I h => ?_⟩
  rw [exec_Assign_Name_used _ _ _ _ hsw]
  refine wpAny_bind (wpAny_standAt (wpAny_bind ?_))
  show wpAny _ X.A (do let _ ← comprehension (.DictComp kx vx [⟨tg, iter, ifs, 0⟩] scope pos) scope X.env (firstIterPos [⟨tg, iter, ifs, 0⟩] pos) newDict false (eval iter X.env) (some (assign (.Name y py) X.env))) _ _ s
  have h : tDcS S wi g tt tk tv (own.map (·.2)) σ H (fun x H1 => gName i x σ H1 D.nx) := h
  refine wpAny_bind (thn (dc_coreS (Qf := fun _ s' => SP X pins D .next s') S hc hN I hi ok hg ht hk he hs h fun L C s' m H' I' q hn f => ?_) fun _ s' hq => wpAny_pure (wpAny_pure hq))
  show wpAny _ _ (assign (.Name y py) X.env (.ref L)) _ _ _
  refine wpAny_assign_Name (store_ok2 (v := V.ref L) I' hN hy (.inl hyl) rfl (fun s2 I2 ⟨a, sb, ha⟩ => ?_) (.inr hyl))
  obtain ⟨f0, f1, f2, f3, f4, f5⟩ := f
  have haC : C ≠ a := by
    rcases ha with z | z
    · rw [z]; exact f1
    · exact fun e => f4 y a z e.symm
  refine ⟨m, hn.sameBut sb haC, fun h3 sb3 => ?_⟩
  exact ⟨_, H', I2.turned (t' := s2.toks) (fun b o hb e => (sb3.2 b hb).trans e) f0 f1 f3 f4 f5, q⟩
theorem sw_trueD {kx vx : Expr} {gs : List Comprehension} {scope : Scope} {pos py : Pos} {y : Str} {l : Nat} {env : Env} (hk : env.scope.kind = .function) (hy : env.scope.names.lookup y = some .local) (hl : (py.line == pos.line) = true)
    (ha : (scope.names.any fun (n, k) => n == y && (k == .local || k == .cell)) = false) : swapsWith (.DictComp kx vx gs scope pos) (some (.Name y py)) l env = pure true := by
  have ky : env.kindOf y = some .local := hy
  have hb : env.blockKind = .function := by unfold Env.blockKind; rw [hk]; rfl
  unfold swapsWith
  simp only [hb, ky, ha, Expr.pos, hl]
  rfl
end
end Tg
end
section
set_option Elab.async false
set_option autoImplicit false
set_option linter.all false
set_option maxRecDepth 100000
set_option maxHeartbeats 4000000
/-! Walks over dicts whose keys are tuples; their comprehensions. -/
namespace Tg
open PySem PySem.Spec PyProof.Rows L2
section
variable {X : Cx}
/-- the store into a dict with tuple keys -/
def relT (H : Hp) (D : Addr) (y z : V) (H' : Hp) : Prop := ∃ kvs k b, H D = some (.dT kvs) ∧ y = .ref b ∧ H b = some (.tup (k.map kV)) ∧ kvs.length < sizeLine ∧ H' = upd H D (.dT (putK kvs k z))
def stT (X : Cx) (hu : X.A.units < cLine) : Sto X where
  o0 := .dT []
  rel := relT
  new := fun h H hb => dt_empty h hb
  put := by
    intro Y hP hw hA pins σ H H' s E D y z u r Q I h ry rz q
    obtain ⟨kvs, k, b, hD, rfl, hb, hz, rfl⟩ := h
    cases (show u = Value.ref b from ry)
    obtain ⟨z1, hd, xs, rel, dd⟩ := dt_of I.hok hD
    have hzx : xs.length ≤ sizeLine := by rw [← Paired.length rel]; exact z1
    have hl : (putK kvs k z).length ≤ sizeLine := by have := length_putK kvs k z; omega
    refine wpAny_dictSet_heap (hsz := hzx) (knd := tupleKind (mixKind Y.prog Y.w)) (show Y.A.units < cLine by rw [hA]; exact hu) (key_of I.hok hb) dd fun h' dd' hs => q _ ?_
    obtain ⟨ob, es, ep, e1, e2, e3, e4, _, e5⟩ := dd'
    refine d_write I (by rw [hD]; exact True.intro) hs ⟨ob, e1⟩ ⟨hl, hd, _, (rel.put k hb rz).keeps fun c ys ec => ?_, ob, es, ep, e1, e2, e3, e4, e5⟩
    rw [upd_ne (ne_of ec hD (fun z => nomatch z))]
    exact ec
/-- a locked dict: its entries, keys and values -/
theorem frzTv {pins : List (Addr × Obj)} {σ : L2.St} {H : Hp} {s : Shared} {d : Addr} {o : Obj} {kvs : List (List Key × V)} (I : Inv X pins σ H s) (h : H d = some (.frz o (.dT kvs))) :
    (d == sysModules) = false ∧ s.heap.get? d = some o ∧ ∃ (es : Array DictEntry) (ep : Nat), o.data = .dict es ep ∧ s.heap.DictRaw d es ep ∧ es.size = kvs.length ∧
      ∀ (i : Nat) (hi : i < es.size), ∃ (k : List Key) (v : V) (q : Addr), kvs[i]? = some (k, v) ∧ es[i].key = .ref q ∧ H q = some (.tup (k.map kV)) ∧ RelV v es[i].val := by
  obtain ⟨hd, z, hs, xs, pr, o', es, ep, ho, hx, hdt, he, _⟩ := I.hok d _ h
  rw [hd] at ho
  cases ho
  have l1 : es.size = xs.length := size_of_entries he
  have l2 : kvs.length = xs.length := Paired.length pr
  refine ⟨hs, hd, es, ep, hdt, ⟨o, hd, hx, hdt⟩, l1.trans l2.symm, fun i hi => ?_⟩
  have hik : i < kvs.length := by omega
  obtain ⟨b, hb, e1, e2, e3⟩ := paired_get pr (List.getElem?_eq_getElem hik)
  have q := entry_at he i
  rw [hb, Array.getElem?_eq_getElem hi] at q
  have q' := Option.some.inj q
  refine ⟨kvs[i].1, kvs[i].2, b.2.1, List.getElem?_eq_getElem hik, ?_, e2, ?_⟩
  · rw [q']; rfl
  · rw [q']; exact e3
/-- the values -/
def Itdt (d : Addr) (o : Obj) (kvs : List (List Key × V)) : It :=
  ⟨fun i H => H d = some (.frz o (.dT kvs)) ∧ i < kvs.length, fun i H x H' => H' = H ∧ ∃ k, kvs[i]? = some (k, x), fun i H => H d = some (.frz o (.dT kvs)) ∧ kvs.length ≤ i⟩
/-- the pairs, each a new tuple of the key's own tuple and the value -/
def Itit (d : Addr) (o : Obj) (kvs : List (List Key × V)) : It :=
  ⟨fun i H => H d = some (.frz o (.dT kvs)) ∧ i < kvs.length, fun i H x H' => ∃ T q k v, kvs[i]? = some (k, v) ∧ x = .ref T ∧ H T = none ∧ H q = some (.tup (k.map kV)) ∧ H' = upd H T (.tup [.ref q, v]), fun i H => H d = some (.frz o (.dT kvs)) ∧ kvs.length ≤ i⟩
theorem one_mem {b it : Addr} (h : b ∈ [it]) : b = it := by simpa using h
theorem turn_valsT {P : Program} {w : World} {K : PySem.W.Frag} {tg : Expr} {d : Addr} {o : Obj} {es : Array DictEntry} {ep : Nat} {kvs : List (List Key × V)} (it : Addr) (hod : o.data = .dict es ep) (hn : es.size = kvs.length) :
    Turn P w K tg (Itdt d o kvs) [it] it (fun i h => h.IsValIter it d i es.size ep) where
  mem := List.mem_singleton.mpr rfl
  obj := fun i h st b hb => by
    cases one_mem hb
    obtain ⟨oi, e, _, dd⟩ := st
    exact ⟨oi, e, fun v z => by rw [dd] at z; cases z⟩
  keep := fun i h h' st k => st.at fun oi e => k it (List.mem_singleton.mpr rfl) oi e
  item := by
    intro X hP hw hK hc i pins s σ H E I hf st hg
    subst hP hw hK
    obtain ⟨hd, hi⟩ := hg
    obtain ⟨f0, f1, f2, f3, f4, f5⟩ := hf it (List.mem_singleton.mpr rfl)
    obtain ⟨hs, hgd, es', ep', hdt, raw, hsz, ent⟩ := frzTv I hd
    obtain ⟨rfl, rfl⟩ := dict_ep hod hdt
    have hi' : i < es'.size := by omega
    obtain ⟨k, v, q, e1, _, _, rv⟩ := ent i hi'
    refine wpAny_pyNext_values_item_raw st raw hi' fun h' st' sb => ?_
    have I1 : Inv X pins σ H { s with heap := h' } := I.turned (t' := s.toks) (fun b ob hb e => (sb.2 b hb).trans e) f0 f1 f3 f4 f5
    obtain ⟨oi, e, c, dd⟩ := id st'
    exact ⟨_, rfl, go_of (s := { s with heap := h' }) e c dd (by decide) ⟨v, H, I1, rv, ⟨rfl, k, e1⟩, st', fun b hb => (hf b hb).1⟩⟩
  done := by
    intro X hP hw hK hc i pins s σ H E I hf st hg
    subst hP hw hK
    obtain ⟨hd, hi⟩ := hg
    obtain ⟨f0, f1, f2, f3, f4, f5⟩ := hf it (List.mem_singleton.mpr rfl)
    obtain ⟨hs, hgd, es', ep', hdt, raw, hsz, ent⟩ := frzTv I hd
    obtain ⟨rfl, rfl⟩ := dict_ep hod hdt
    exact wpAny_pyNext_values_end_raw (I.ok.hd hc) st raw (by omega) fun h' eb => ⟨rfl, I.turned (t' := s.toks) (fun b ob hb e => eb b ob hb e) f0 f1 f3 f4 f5⟩
  self := fun _ _ _ _ _ st h => wpAny_pyIter_valiter st h
theorem turn_itemsT {P : Program} {w : World} {K : PySem.W.Frag} {elts : List Expr} {kk : Nat} {tpos : Pos} {d : Addr} {o : Obj} {es : Array DictEntry} {ep : Nat} {kvs : List (List Key × V)} (it : Addr) (hod : o.data = .dict es ep) (hn : es.size = kvs.length) :
    Turn P w K (.Tuple elts kk tpos) (Itit d o kvs) [it] it (fun i h => ∃ ok ov, IsItemIter h it d i es.size ep ok ov) where
  mem := List.mem_singleton.mpr rfl
  obj := fun i h st b hb => by
    cases one_mem hb
    obtain ⟨ok, ov, e⟩ := st
    exact ⟨_, e, fun v z => nomatch z⟩
  keep := fun i h h' st k => let ⟨ok, ov, e⟩ := st; ⟨ok, ov, k it (List.mem_singleton.mpr rfl) _ e⟩
  item := by
    intro X hP hw hK hc i pins s σ H E I hf st hg
    subst hP hw hK
    obtain ⟨hd, hi⟩ := hg
    obtain ⟨hs, hgd, es', ep', hdt, raw, hsz, ent⟩ := frzTv I hd
    obtain ⟨rfl, rfl⟩ := dict_ep hod hdt
    have hi' : i < es'.size := by omega
    obtain ⟨k, v, q, e1, ek, hq, rv⟩ := ent i hi'
    obtain ⟨ok, ov, he⟩ := st
    have hlt : it < s.heap.objs.size := Heap.lt_size he
    have hT : H s.heap.objs.size = none := I.hok.fresh (Nat.le_refl _)
    refine wpAny_pyNext_items_item_raw he raw hi' fun h' ho hT' hz hk => ?_
    refine ⟨_, rfl, wpAny_letOwnedTupleGo_items (s := { s with heap := h' }) ho fun h'' he' sb => ?_⟩
    have hT2 : h''.get? s.heap.objs.size = some { cls := .type "tuple", data := .seq #[es'[i].key, es'[i].val] } := (sb.2 _ (Nat.ne_of_gt hlt)).trans hT'
    have new : ObjOk X.prog X.w (upd H s.heap.objs.size (.tup [.ref q, v])) h'' s.heap.objs.size (.tup [.ref q, v]) :=
      ⟨by show 2 ≤ sizeLine; decide, [es'[i].key, es'[i].val], .cons ek (.cons rv .nil), ⟨_, hT2, rfl, _, rfl⟩⟩
    have I1 : Inv X pins σ (upd H s.heap.objs.size (.tup [.ref q, v])) { s with heap := h'' } :=
      I.turnedNew (t' := s.toks) (ch := [it]) (fun b ob hb e => (sb.2 b (by simpa using hb)).trans (hk b ob (by simpa using hb) e)) hf (Nat.le_refl _) new
    refine ⟨.ref s.heap.objs.size, _, I1, rfl, ⟨_, q, k, v, e1, rfl, hT, hq, rfl⟩, ⟨_, _, he'⟩, fun b hb => ?_⟩
    cases one_mem hb
    rw [upd_ne (Nat.ne_of_lt hlt)]
    exact (hf _ hb).1
  done := by
    intro X hP hw hK hc i pins s σ H E I hf st hg
    subst hP hw hK
    obtain ⟨hd, hi⟩ := hg
    obtain ⟨f0, f1, f2, f3, f4, f5⟩ := hf it (List.mem_singleton.mpr rfl)
    obtain ⟨hs, hgd, es', ep', hdt, raw, hsz, ent⟩ := frzTv I hd
    obtain ⟨rfl, rfl⟩ := dict_ep hod hdt
    obtain ⟨ok, ov, he⟩ := st
    exact wpAny_pyNext_items_end_raw (I.ok.hd hc) he raw (by omega) fun h' eb => ⟨rfl, I.turned (t' := s.toks) (fun b ob hb e => eb b ob hb e) f0 f1 f3 f4 f5⟩
  self := fun _ _ _ _ _ st h => let ⟨_, _, e⟩ := st; PySem.W.kcp_self e h
def iValsT (td : TE) : TI := fun σ H R => td σ H fun x H1 => ∃ d o kvs, x = .ref d ∧ H1 d = some (.frz o (.dT kvs)) ∧ R (Itdt d o kvs) H1
def iItemsT (td : TE) : TI := fun σ H R => td σ H fun x H1 => ∃ d o kvs, x = .ref d ∧ H1 d = some (.frz o (.dT kvs)) ∧ R (Itit d o kvs) H1
section
variable {tg e : Expr} {td : TE} {apos cpos : Pos}
theorem raw_noDict {s : Shared} {d : Addr} {es : Array DictEntry} {ep : Nat} (x : s.heap.DictRaw d es ep) : ∀ b, Value.ref d = .ref b → ∃ ob, s.heap.get? b = some ob ∧ ob.dict = none := fun b e => by
  cases e
  obtain ⟨o, ho, hx, _⟩ := x
  exact ⟨o, ho, hx.2.1⟩
theorem pi_valuesT (he : PE X e td) (hbase : attributeBase e "values" X.env (eval e X.env) = eval e X.env := by rfl) (hline : (apos.endLine == cpos.line) = true := by rfl) :
    PI X tg (.Call (.Attribute e "values" apos) [] [] cpos) (iValsT td) := by
  refine ⟨fun pins s σ H R I h => ?_⟩
  refine wpAny_Call_method (T := "dict") (id := "dict.values") hbase rfl hline F.plainAttrs_dict F.slot_dict_values F.type_dict_values (thn (he.run pins s σ H _ I h) fun u s1 ⟨x, H1, I1, rx, d, o, kvs, ex, hd, q⟩ => ?_)
  subst ex
  obtain rfl : u = Value.ref d := rx
  obtain ⟨hs, hgd, es, ep, hdt, raw, hsz, ent⟩ := frzTv I1 hd
  refine ⟨raw.typeIs, raw_noDict raw, ?_⟩
  have I2 : Inv X pins σ H1 { s1 with heap := s1.heap.push { cls := .type "dict_values", data := .fields #[.ref d] } } := I1.kept (t' := s1.toks) fun b ob q => Heap.get?_push_of_some _ q
  show wpAny _ _ (callWith cpos (.builtin "dict.values") [.ref d] [] []) _ X.xe s1
  refine method_meetsIn F.slot_dict_values F.entry_dict_values rfl (PySem.evalArgs_none ⟨rfl, raw.typeIs, F.args_dict_values_1 _, _, meets_dict_values_raw d hs, ⟨es, ep, raw⟩, ?_⟩)
  exact wpAny_pyIter_values_raw ⟨_, Heap.get?_push_size _ rfl, rfl, rfl⟩ (raw.at fun o e => Heap.get?_push_of_some _ e) (pi_one (tk := s1.toks) I2 _ (turn_valsT _ hdt hsz) ⟨_, Heap.get?_push_size _ rfl, rfl, rfl⟩ q)
theorem pi_itemsT {elts : List Expr} {kk : Nat} {tpos : Pos} (he : PE X e td) (hbase : attributeBase e "items" X.env (eval e X.env) = eval e X.env := by rfl) (hline : (apos.endLine == cpos.line) = true := by rfl) :
    PI X (.Tuple elts kk tpos) (.Call (.Attribute e "items" apos) [] [] cpos) (iItemsT td) := by
  refine ⟨fun pins s σ H R I h => ?_⟩
  refine wpAny_Call_method (T := "dict") (id := "dict.items") hbase rfl hline F.plainAttrs_dict F.slot_dict_items F.type_dict_items (thn (he.run pins s σ H _ I h) fun u s1 ⟨x, H1, I1, rx, d, o, kvs, ex, hd, q⟩ => ?_)
  subst ex
  obtain rfl : u = Value.ref d := rx
  obtain ⟨hs, hgd, es, ep, hdt, raw, hsz, ent⟩ := frzTv I1 hd
  refine ⟨raw.typeIs, raw_noDict raw, ?_⟩
  have I2 : Inv X pins σ H1 { s1 with heap := s1.heap.push { cls := .type "dict_items", data := .fields #[.ref d] } } := I1.kept (t' := s1.toks) fun b ob q => Heap.get?_push_of_some _ q
  show wpAny _ _ (callWith cpos (.builtin "dict.items") [.ref d] [] []) _ X.xe s1
  refine method_meetsIn F.slot_dict_items F.entry_dict_items rfl (PySem.evalArgs_none ⟨rfl, raw.typeIs, F.args_dict_items_1 _, _, meets_dict_items_raw d hs, ⟨es, ep, raw⟩, ?_⟩)
  exact wpAny_pyIter_items_raw ⟨_, Heap.get?_push_size _ rfl, rfl, rfl⟩ (raw.at fun o e => Heap.get?_push_of_some _ e) (pi_one (tk := s1.toks) I2 _ (turn_itemsT _ hdt hsz) ⟨_, _, Heap.get?_push_size _ rfl⟩ q)
end
theorem walk_valuesT {d : Addr} {o : Obj} {kvs : List (List Key × V)} : Walk (Itdt d o kvs) kvs.length (fun H => H d = some (.frz o (.dT kvs))) (fun i H x H' => H' = H ∧ ∃ k, kvs[i]? = some (k, x)) :=
  ⟨fun _ _ hi q => ⟨q, hi⟩, fun _ q => ⟨q, Nat.le_refl _⟩, fun _ _ _ _ _ _ y => y⟩
theorem walk_itemsT {d : Addr} {o : Obj} {kvs : List (List Key × V)} : Walk (Itit d o kvs) kvs.length (fun H => H d = some (.frz o (.dT kvs)))
    (fun i H x H' => ∃ T q k v, kvs[i]? = some (k, v) ∧ x = .ref T ∧ H T = none ∧ H q = some (.tup (k.map kV)) ∧ H' = upd H T (.tup [.ref q, v])) :=
  ⟨fun _ _ hi q => ⟨q, hi⟩, fun _ q => ⟨q, Nat.le_refl _⟩, fun _ _ _ _ _ _ y => y⟩
/-- a dict comprehension over a walk -/
theorem dcS_it {S : Sto X} {J : It} {n : Nat} {G : Hp → Prop} {Y : Nat → Hp → V → Hp → Prop} (w : Walk J n G Y) {g : TG} {tt : TT} {tk tv : TE} {vs : List Nat} {σ : L2.St} {H1 : Hp} {D : Addr} {Qd : Hp → Prop} (Pv : Nat → Hp → Prop)
    (h0 : Pv 0 (upd H1 D S.o0)) (hG : ∀ i H, i ≤ n → Pv i H → G H)
    (hs : ∀ i x H H', i < n → Pv i H → Y i H x H' → g x (wipe σ vs) H' fun σ2 H2 => wipe σ2 vs = wipe σ vs ∧ tt σ2 H2 fun b H3 =>
      if b = true then tk σ2 H3 fun y H4 => tv σ2 H4 fun z H5 => ∃ H6, S.rel H5 D y z H6 ∧ Pv (i + 1) H6 else Pv (i + 1) H3) (hd : ∀ H, Pv n H → Qd H) :
    ∃ W : Nat → Nat → Hp → Prop, (∃ m, W 0 m (upd H1 D S.o0)) ∧ ∀ i m H, W i m H →
      (J.stop i H ∧ Qd H) ∨ (J.go i H ∧ ∃ Nx : Hp → Prop, (∀ H', Nx H' → ∃ m', m' < m ∧ W (i + 1) m' H') ∧ ∀ x H', J.yld i H x H' →
        g x (wipe σ vs) H' fun σ2 H2 => wipe σ2 vs = wipe σ vs ∧ tt σ2 H2 fun b H3 =>
          if b = true then tk σ2 H3 fun y H4 => tv σ2 H4 fun z H5 => ∃ H6, S.rel H5 D y z H6 ∧ Nx H6 else Nx H3) := by
  refine ⟨fun i m H => m = n - i ∧ i ≤ n ∧ Pv i H, ⟨n, rfl, Nat.zero_le _, h0⟩, ?_⟩
  rintro i m H ⟨rfl, hi, p⟩
  have q := hG i H hi p
  rcases Nat.lt_or_ge i n with hlt | hge
  · exact .inr ⟨w.goes i H hlt q, Pv (i + 1), fun H' p' => ⟨n - (i + 1), by omega, rfl, hlt, p'⟩, fun x H' y => hs i x H H' hlt p (w.yields i H x H' hlt q y)⟩
  · have e : i = n := by omega
    subst e
    exact .inl ⟨w.stops H q, hd H p⟩
end
end Tg
end
section
set_option Elab.async false
set_option autoImplicit false
set_option linter.all false
set_option maxRecDepth 100000
set_option maxHeartbeats 4000000
/-! sorted(d), tuple(d.values()), dict(d), dict(pairs), list(d.items()), .. where the keys are tuples of ints. -/
namespace Tg
open PySem PySem.Spec PyProof.Rows L2
section
variable {X : Cx} {pins : List (Addr × Obj)} {σ : L2.St} {H : Hp} {s : Shared} {d : Addr} {kvs : List (List Key × V)}
/-- a dict's entries, keys and values -/
theorem rawT (I : Inv X pins σ H s) (h : H d = some (.dT kvs)) : (d == sysModules) = false ∧ kvs.length ≤ sizeLine ∧ ∃ (es : Array DictEntry) (ep : Nat), s.heap.DictRaw d es ep ∧ es.size = kvs.length ∧
    ∀ (i : Nat) (hi : i < es.size), ∃ (k : List Key) (v : V) (q : Addr), kvs[i]? = some (k, v) ∧ es[i].key = .ref q ∧ H q = some (.tup (k.map kV)) ∧ RelV v es[i].val := by
  obtain ⟨z, hs, xs, pr, o, es, ep, ho, hx, hdt, he, _⟩ := I.hok d _ h
  have l1 : es.size = xs.length := size_of_entries he
  have l2 : kvs.length = xs.length := Paired.length pr
  refine ⟨hs, z, es, ep, ⟨o, ho, hx, hdt⟩, l1.trans l2.symm, fun i hi => ?_⟩
  have hik : i < kvs.length := by omega
  obtain ⟨b, hb, _, e2, e3⟩ := paired_get pr (List.getElem?_eq_getElem hik)
  have q := entry_at he i
  rw [hb, Array.getElem?_eq_getElem hi] at q
  have q' := Option.some.inj q
  refine ⟨kvs[i].1, kvs[i].2, b.2.1, List.getElem?_eq_getElem hik, ?_, e2, ?_⟩
  · rw [q']; rfl
  · rw [q']; exact e3
end
theorem code_cd (k : K) : TS.code 64 k = cd k := by
  induction k with
  | nil => rfl
  | cons a k ih => show a * 64 ^ k.length + TS.code 64 k = a * 64 ^ k.length + cd k; rw [ih]
section
variable {X : Cx}
/-- keys by their addresses -/
def KeysAt (H : Hp) (ps : List (Addr × K)) : Prop := ∀ z ∈ ps, H z.1 = some (.tup (z.2.map V.int))
/-- the order of the greatest term last -/
def Asc (ps : List (Addr × K)) : Prop := ps.Pairwise fun a b => cd a.2 ≤ cd b.2
def rSortD : List V → Hp → VK → Prop := fun vs H Q => ∃ (d : Addr) (t : T) (L : Nat), vs = [V.ref d] ∧ H d = some (.dT (et t)) ∧ t.length < 64 ∧ 1 ≤ L ∧ (∀ e ∈ t, e.1.length = L ∧ Sm e.1) ∧
  ∀ (ps : List (Addr × K)) (p : Addr), (ps.map (·.2)).Perm (t.map (·.1)) → Asc ps → KeysAt H ps → H p = none → Q (.ref p) (upd H p (.lst (ps.map fun z => V.ref z.1)))
theorem et_get {t : T} {i : Nat} {k : List Key} {v : V} (h : (et t)[i]? = some (k, v)) : ∃ e, t[i]? = some e ∧ k = ek e.1 ∧ v = .int e.2 := by
  unfold et at h
  rw [List.getElem?_map] at h
  obtain ⟨e, h1, h2⟩ := Option.map_eq_some_iff.mp h
  cases h2
  exact ⟨e, h1, rfl, rfl⟩
/-- the keys of a dict, by address, in its order -/
theorem keys_list {P : Nat → Value → Prop} {H : Hp} {t : T} {acc : Array Value} (ia : ItemsOf P acc t.length) (hP : ∀ i v, P i v → ∃ (e : K × Int) (q : Addr), t[i]? = some e ∧ v = .ref q ∧ H q = some (.tup (e.1.map V.int))) :
    ∃ ps : List (Addr × K), acc.toList = ps.map (fun z => Value.ref z.1) ∧ ps.map (·.2) = t.map (·.1) ∧ KeysAt H ps := by
  obtain ⟨n1, n2⟩ := ia
  have key : ∀ (l : List Value) (u : T), l.length = u.length → (∀ (i : Nat) (v : Value), l[i]? = some v → ∃ (e : K × Int) (q : Addr), u[i]? = some e ∧ v = .ref q ∧ H q = some (.tup (e.1.map V.int))) →
      ∃ ps : List (Addr × K), l = ps.map (fun z => Value.ref z.1) ∧ ps.map (·.2) = u.map (·.1) ∧ KeysAt H ps := by
    intro l
    induction l with
    | nil =>
      intro u hl _
      have : u = [] := List.eq_nil_of_length_eq_zero hl.symm
      subst this
      exact ⟨[], rfl, rfl, fun z hz => by simp at hz⟩
    | cons v l ih =>
      intro u hl h
      cases u with
      | nil => simp at hl
      | cons e u =>
        obtain ⟨e', q, h1, h2, h3⟩ := h 0 v rfl
        cases (Option.some.inj h1)
        obtain ⟨ps, a1, a2, a3⟩ := ih u (by simpa using hl) fun i w hw => h (i + 1) w hw
        refine ⟨(q, e.1) :: ps, by rw [List.map_cons, ← a1, h2], by rw [List.map_cons, List.map_cons, a2], fun z hz => ?_⟩
        rcases List.mem_cons.mp hz with z1 | z1
        · rw [z1]; exact h3
        · exact a3 z z1
  refine key acc.toList t (by rw [Array.length_toList, n1]) fun i v hv => hP i v ?_
  rw [Array.getElem?_toList] at hv
  exact n2 i v hv
theorem perm_map_inv {α β : Type} {f : α → β} {l : List β} {m : List α} (h : l.Perm (m.map f)) : ∃ n : List α, l = n.map f ∧ n.Perm m := by
  generalize e : m.map f = k at h
  induction h generalizing m with
  | nil => exact ⟨[], rfl, by rw [List.map_eq_nil_iff.mp e]⟩
  | @cons x l1 l2 hp ih =>
    cases m with
    | nil => cases e
    | cons y m =>
      rw [List.map_cons] at e
      injection e with e1 e2
      obtain ⟨n, a, b⟩ := ih e2
      exact ⟨y :: n, by rw [List.map_cons, a, e1], b.cons y⟩
  | swap x y l =>
    cases m with
    | nil => cases e
    | cons a m =>
      cases m with
      | nil => simp at e
      | cons b m =>
        simp only [List.map_cons, List.cons.injEq] at e
        obtain ⟨e1, e2, e3⟩ := e
        exact ⟨b :: a :: m, by simp [e1, e2, e3], List.Perm.swap ..⟩
  | trans h1 h2 ih1 ih2 =>
    obtain ⟨n, a, b⟩ := ih2 e
    obtain ⟨n', a', b'⟩ := ih1 a.symm
    exact ⟨n', a', b'.trans b⟩
theorem cr_sortD (hc : X.calm = true) : CallR X (.builtin "sorted") rSortD := by
  intro pins s σ H vs us Q I r h
  obtain ⟨d, t, L, rfl, hd, h64, hL, hk, q⟩ := h
  rw [Vals.ref1 r]
  obtain ⟨hs, hz, es, ep, raw, hn, ent⟩ := rawT I hd
  rw [et_length] at hn
  refine Calls.call_function_entry kind_sorted plain_sorted entry_sorted (args_sorted1 _) ?_
  unfold Builtin.«sorted»
  refine wpAny_bind (m := checkCount "sorted" 1 1 _) (wpAny_pure ?_)
  refine wpAny_bind (PySem.W.kdu_collect (A := X.A.in1) (PySem.KdlSrc.rawDict hs) (I.ok.hd hc) raw (by rw [hn, sizeLine_eq]; omega) fun h1 tk acc k1 ia => ?_)
  replace ia : ItemsOf (fun i v => ∃ hi : i < es.size, v = es[i].key) acc t.length := ⟨ia.1.trans hn, ia.2⟩
  obtain ⟨ps, e1, e2, e3⟩ := keys_list (H := H) ia fun i v ⟨hi, hv⟩ => by
    obtain ⟨k, w, qa, g1, g2, g3, _⟩ := ent i hi
    obtain ⟨e, g4, rfl, _⟩ := et_get g1
    rw [ek_kV] at g3
    exact ⟨e, qa, g4, by rw [hv, g2], g3⟩
  have hlen : ps.length = t.length := by
    have := congrArg List.length e2
    rw [List.length_map, List.length_map] at this
    exact this
  rw [e1]
  refine wpAny_bind (wpAny_newList ?_ (by rw [List.length_map, hlen, sizeLine_eq]; omega))
  have I1 : Inv X pins σ H { s with heap := h1, toks := tk } := I.kept k1
  have ho : (h1.push (seqObj "list" (ps.map fun z => Value.ref z.1).toArray 0)).get? h1.objs.size = some (seqObj "list" (ps.map fun z => Value.ref z.1).toArray 0) := Heap.get?_push_size _ rfl
  have tup : ∀ (g : Heap), (∀ b o, s.heap.get? b = some o → g.get? b = some o) → ∀ z ∈ ps, TS.TupInts g (.ref z.1) z.2 := fun g kg z hz' => by
    obtain ⟨_, its, rv, ob, hob, hcl, n, hdt⟩ := I.hok z.1 _ (e3 z hz')
    exact ⟨z.1, its.toArray, rfl, ⟨ob, kg _ _ hob, hcl, n, hdt⟩, by simpa using rv.ints⟩
  have kz : ∀ z ∈ ps, z.2.length = L ∧ TS.Bd 64 z.2 := fun z hz' => by
    have hm : z.2 ∈ t.map (·.1) := by rw [← e2]; exact List.mem_map_of_mem hz'
    obtain ⟨e, he, ee⟩ := List.mem_map.mp hm
    obtain ⟨a1, a2⟩ := hk e he
    rw [← ee]
    exact ⟨a1, a2⟩
  have hfresh : H h1.objs.size = none := I1.hok.fresh (Nat.le_refl _)
  show wpAny _ _ _ _ _ { s with heap := h1.push (seqObj "list" (ps.map fun z => Value.ref z.1).toArray 0), toks := tk }
  refine wpAny_bind (wpAny_holding (wpAny_call_entry slot_list_sort ⟨_, ho, rfl⟩ entry_list_sort (TS.sort_tups (d := L) (B := 64) ho (by rw [List.length_map, hlen]; exact h64) hL (fun v hv => ?_)
    (fun v => cd (TS.intsOf (h1.push (seqObj "list" (ps.map fun z => Value.ref z.1).toArray 0)) v)) (fun v _ ns tv => by rw [tv.ints, code_cd]) fun out a1 a2 => ⟨_, rfl, ?_⟩) (args_list_sort _)))
  · obtain ⟨z, hz', rfl⟩ := List.mem_map.mp hv
    obtain ⟨b1, b2⟩ := kz z hz'
    exact ⟨z.2, tup _ (fun b o e => Heap.get?_push_of_some _ (k1 b o e)) z hz', b1, b2⟩
  · -- the sorted list
    have rd : ∀ z ∈ ps, TS.intsOf (h1.push (seqObj "list" (ps.map fun z => Value.ref z.1).toArray 0)) (.ref z.1) = z.2 := fun z hz' =>
      (tup _ (fun b o e => Heap.get?_push_of_some _ (k1 b o e)) z hz').ints
    obtain ⟨qs, b1, b2⟩ : ∃ qs : List (Addr × K), out.toList = qs.map (fun z => Value.ref z.1) ∧ qs.Perm ps := by
      have a1' : out.toList.Perm (ps.map fun z => Value.ref z.1) := a1
      exact perm_map_inv a1'
    have mem : ∀ z ∈ qs, z ∈ ps := fun z hz' => b2.mem_iff.mp hz'
    obtain ⟨ep', he'⟩ := sortedHeap_at (out := out) ho
    have I2 : Inv X pins σ (upd H h1.objs.size (.lst (qs.map fun z => V.ref z.1))) { s with heap := sortedHeap (h1.push (seqObj "list" (ps.map fun z => Value.ref z.1).toArray 0)) h1.objs.size (ps.map fun z => Value.ref z.1) out, toks := tk } := by
      refine I1.laid (fun b o e => ?_) (Nat.le_refl _) ⟨?_, out.toList, ep', ?_, he'⟩
      · have hlt : b < h1.objs.size := Heap.lt_size e
        rw [sortedHeap_old (Nat.ne_of_lt hlt) (Nat.lt_of_lt_of_le hlt (by rw [size_push']; omega))]
        exact Heap.get?_push_of_some _ e
      · rw [List.length_map, b2.length_eq, hlen, sizeLine_eq]; omega
      · rw [b1]
        clear b1 b2 mem I1 he'
        induction qs with
        | nil => exact .nil
        | cons z qs ih => exact .cons rfl ih
    refine wpAny_pure ⟨_, rfl, .ref h1.objs.size, _, I2, rfl, q qs h1.objs.size ?_ ?_ (fun z hz' => e3 z (mem z hz')) hfresh⟩
    · rw [← e2]
      exact b2.map _
    · rw [b1, List.pairwise_map] at a2
      refine List.Pairwise.imp_of_mem (fun {a b} ha hb hab => ?_) a2
      have hab' : cd (TS.intsOf _ (.ref a.1)) ≤ cd (TS.intsOf _ (.ref b.1)) := hab
      rw [rd a (mem a ha), rd b (mem b hb)] at hab'
      exact hab'
end
end Tg
end
section
set_option Elab.async false
set_option autoImplicit false
set_option linter.all false
set_option maxRecDepth 100000
set_option maxHeartbeats 4000000
/-! sum, min of a tuple of ints; max(d, default=x). -/
namespace Tg
open PySem PySem.Spec PyProof.Rows L2
section
variable {X : Cx}
theorem ints_at {ns : List Int} {its : List Value} (r : Vals (ns.map V.int) its) {i : Nat} {v : Value} (h : its.toArray[i]? = some v) : ∃ t, v = Value.int (ns.getD i 0) t := by
  have h' : its[i]? = some v := by simpa using h
  have hl : its.length = ns.length := by have := r.length; simpa using this.symm
  have hi : i < ns.length := by rw [← hl]; exact (List.getElem?_eq_some_iff.mp h').1
  obtain ⟨u, e, ru⟩ := Vals.get (i := i) (x := V.int ns[i]) r (by rw [List.getElem?_map, List.getElem?_eq_getElem hi]; rfl)
  rw [h'] at e
  cases e
  obtain ⟨t, e⟩ := ru
  refine ⟨t, ?_⟩
  rw [e, List.getD_eq_getElem?_getD, List.getElem?_eq_getElem hi]
  rfl
def rSumT (K : PySem.W.Frag) : List V → Hp → VK → Prop := fun vs H Q => ∃ (a : Addr) (ns : List Int), vs = [V.ref a] ∧ SqT K H a (ns.map V.int) ∧ Q (.int ns.sum) H
theorem cr_sumT (hc : X.calm = true) : CallR X (.builtin "sum") (rSumT X.K) := by
  intro pins s σ H vs us Q I r h
  obtain ⟨a, ns, rfl, hs, q⟩ := h
  obtain ⟨its, rv, ht, hz⟩ := I.tuple hs
  rw [Vals.ref1 r]
  have hl : its.length = ns.length := by have := rv.length; simpa using this.symm
  have hlt : a < s.heap.objs.size := ht.lt
  refine call_sum_walkG (wpAny_pyIter_tuple (show s.heap.IsTuple a its.toArray from ht) ?_)
  refine ⟨s.heap.objs.size, _, _, its.toArray.size, _, _, fun i => ns.getD i 0, rfl, Walks.tuple (A := X.A.in1) (I.ok.hd hc) s.heap.objs.size a (Nat.ne_of_lt hlt) its.toArray,
    ⟨⟨_, Heap.get?_push_size _ rfl, rfl, rfl⟩, ?_⟩, fun b hb => ?_, fun i v hv => ints_at rv hv, fun h' tk t' hk => ?_⟩
  · obtain ⟨o, ho, hx⟩ := ht
    exact ⟨o, Heap.get?_push_of_some _ ho, hx⟩
  · show b < (s.heap.push _).objs.size
    rw [Heap.size_push]
    rcases List.mem_cons.mp hb with e | hb
    · rw [e]; exact Nat.lt_succ_self _
    · rw [List.mem_singleton.mp hb]; exact Nat.lt_succ_of_lt hlt
  · have e1 : preSum (fun i => ns.getD i 0) its.toArray.size = ns.sum := by
      rw [preSum_getD, List.take_of_length_le (by simp [hl])]
    rw [e1]
    refine ⟨.int _, H, I.kept (t' := tk) fun b u e => hk b u (fun hm => ?_) (Heap.get?_push_of_some _ e), ⟨t', rfl⟩, q⟩
    have e2 := Heap.lt_size e
    rw [List.mem_singleton.mp hm] at e2
    exact absurd e2 (Nat.lt_irrefl _)
def rMinT (K : PySem.W.Frag) : List V → Hp → VK → Prop := fun vs H Q => ∃ (a : Addr) (ns : List Int), vs = [V.ref a] ∧ SqT K H a (ns.map V.int) ∧ ns ≠ [] ∧ ∀ m, m ∈ ns → (∀ y, y ∈ ns → m ≤ y) → Q (.int m) H
theorem cr_minT (hc : X.calm = true) : CallR X (.builtin "min") (rMinT X.K) := by
  intro pins s σ H vs us Q I r h
  obtain ⟨a, ns, rfl, hs, hne, q⟩ := h
  obtain ⟨its, rv, ht, hz⟩ := I.tuple hs
  rw [Vals.ref1 r]
  have hl : its.length = ns.length := by have := rv.length; simpa using this.symm
  have hpos : 0 < ns.length := List.length_pos_iff.mpr hne
  have hlt : a < s.heap.objs.size := ht.lt
  refine call_min_walk (wpAny_pyIter_tuple (show s.heap.IsTuple a its.toArray from ht) ?_)
  refine ⟨s.heap.objs.size, _, _, its.toArray.size, _, _, _, rfl, Walks.tuple (A := X.A.in1) (I.ok.hd hc) s.heap.objs.size a (Nat.ne_of_lt hlt) its.toArray,
    ⟨⟨_, Heap.get?_push_size _ rfl, rfl, rfl⟩, ?_⟩, fun b hb => ?_, (by simp; omega), CmpOf.ints_lt (fun i => ns.getD i 0) (fun i v hv => ints_at rv hv), fun v h' tk hP hk => ?_⟩
  · obtain ⟨o, ho, hx⟩ := ht
    exact ⟨o, Heap.get?_push_of_some _ ho, hx⟩
  · show b < (s.heap.push _).objs.size
    rw [Heap.size_push]
    rcases List.mem_cons.mp hb with e | hb
    · rw [e]; exact Nat.lt_succ_self _
    · rw [List.mem_singleton.mp hb]; exact Nat.lt_succ_of_lt hlt
  · obtain ⟨t, rfl⟩ := ints_at rv hP
    obtain ⟨b1, b2⟩ := argBest_lt (fun i => ns.getD i 0) (its.toArray.size - 1)
    have hsz : its.toArray.size = ns.length := by simp [hl]
    have hb : argBest (fun i j => decide (ns.getD i 0 < ns.getD j 0)) (its.toArray.size - 1) < ns.length := by omega
    refine ⟨.int _, H, I.kept (t' := tk) fun b u e => hk b u (fun hm => ?_) (Heap.get?_push_of_some _ e), ⟨t, rfl⟩, q _ ?_ fun y hy => ?_⟩
    · have e2 := Heap.lt_size e
      rw [List.mem_singleton.mp hm] at e2
      exact absurd e2 (Nat.lt_irrefl _)
    · rw [List.getD_eq_getElem?_getD, List.getElem?_eq_getElem hb]
      exact List.getElem_mem hb
    · obtain ⟨i, hi, e⟩ := List.mem_iff_getElem.mp hy
      have e2 : ns.getD i 0 = y := by rw [List.getD_eq_getElem?_getD, List.getElem?_eq_getElem hi, ← e]; rfl
      rw [← e2]
      exact b2 i (by omega)
def rMaxKD : List V → List V → Hp → VK → Prop := fun vs zs H Q => ∃ (a : Addr) (kvs : List (Key × V)) (is : List Int) (z : V), vs = [V.ref a] ∧ zs = [z] ∧ H a = some (.dK kvs) ∧ kvs.map (·.1) = is.map Sum.inl ∧
  (is = [] → Q z H) ∧ ∀ m, m ∈ is → (∀ j ∈ is, j ≤ m) → Q (.int m) H
theorem crk_maxKD (hc : X.calm = true) : CallRK X (.builtin "max") [Str.ofString "default"] rMaxKD := by
  intro pins s σ H xs zs us ws Q I r rz h
  obtain ⟨a, kvs, is, z, rfl, rfl, ha, hv, h0, q⟩ := h
  rw [Vals.ref1 r]
  obtain ⟨wz, rfl, rwz⟩ : ∃ u, ws = [u] ∧ RelV z u := by
    cases rz with
    | cons r0 r1 => cases r1; exact ⟨_, rfl, r0⟩
  obtain ⟨_, hsys, vs, rel, dof⟩ := dk_of I.hok ha
  obtain ⟨ep, dat⟩ := dof.dictAt
  obtain ⟨ob, es, ho, hex, hdat, hko, hpr, hnd⟩ := id dat
  have hlt : a < s.heap.objs.size := Heap.lt_size ho
  have hkeys : vs.map (·.1) = is.map Sum.inl := (KV.keys rel).symm.trans hv
  have hlv : vs.length = is.length := by
    have e1 := congrArg List.length hkeys
    simpa using e1
  have hval : ∀ (i : Nat) (v : Value), (∃ k x, vs[i]? = some (k, x) ∧ (mixKind X.prog X.w).is k v = true) → ∃ t, v = Value.int (is.getD i 0) t := fun i v ⟨k, x, hk, hkey⟩ => by
    have e1 : (vs.map (·.1))[i]? = some k := by rw [List.getElem?_map, hk]; rfl
    rw [hkeys, List.getElem?_map] at e1
    obtain ⟨j, hj, e2⟩ := Option.map_eq_some_iff.mp e1
    subst e2
    obtain ⟨t, e3⟩ := Value.isInt_shape (k := j) (v := v) hkey
    refine ⟨t, ?_⟩
    rw [e3, List.getD_eq_getElem?_getD, hj]
    rfl
  have mv : ∀ {s' : Shared}, Moved [s.heap.objs.size] (fun a b => b = a) { s with heap := s.heap.push { cls := .type "dict_keyiterator", data := .fields #[.ref a, .int 0 0, .int vs.length 0, .int ep 0] } } s' → Inv X pins σ H s' := fun {s'} hm => by
    rw [Moved.eq_with hm]
    exact I.kept (t' := s'.toks) fun b u e => hm.heap b u (fun hI => absurd (Heap.lt_size e) (by rw [List.mem_singleton.mp hI]; exact Nat.lt_irrefl _)) (Heap.get?_push_of_some _ e)
  show wpAny _ _ (call (.builtin "max") [Value.ref a] [(Str.ofString "default", wz)]) _ _ _
  refine call_max_walkD (wpAny_pyIter_dict (knd := mixKind X.prog X.w) hsys dat ?_)
  refine ⟨s.heap.objs.size, _, _, _, vs.length, _, _, s.heap, fun i j => decide (is.getD i 0 > is.getD j 0), rfl, (Walks.dictKeys (knd := mixKind X.prog X.w) (A := X.A.in1) (I.ok.hd hc) s.heap.objs.size a (Nat.ne_of_lt hlt) vs ep).toS,
    ⟨⟨_, Heap.get?_push_size _ rfl, rfl, rfl⟩, dat.keep fun b u e => Heap.get?_push_of_some _ e⟩, fun b hb => ?_, fun b o e hb => ?_, fun b o e => Heap.get?_push_of_some _ e, fun hn s' hm => ?_, fun hn => ⟨?_, fun v s' hP hm => ?_⟩⟩
  · show b < (s.heap.push _).objs.size
    rw [Heap.size_push]
    rcases List.mem_cons.mp hb with e | hb
    · rw [e]; exact Nat.lt_succ_self _
    · rw [List.mem_singleton.mp hb]; exact Nat.lt_succ_of_lt hlt
  · have e2 := Heap.lt_size e
    rw [List.mem_singleton.mp hb] at e2
    exact absurd e2 (Nat.lt_irrefl _)
  · have : is = [] := List.eq_nil_of_length_eq_zero (by omega)
    exact ⟨z, H, mv hm, rwz, h0 this⟩
  · intro i j vi vj s' Q' E' _ hi hj hq
    exact CmpOf.ints_gt (fun i => is.getD i 0) hval i j vi vj s' Q' E' hi hj hq
  · obtain ⟨t, rfl⟩ := hval _ v hP
    obtain ⟨b1, b2⟩ := argBest_gt (fun i => is.getD i 0) (vs.length - 1)
    have hb : argBest (fun i j => decide (is.getD i 0 > is.getD j 0)) (vs.length - 1) < is.length := by omega
    refine ⟨.int _, H, mv hm, ⟨t, rfl⟩, q _ ?_ fun j hj => ?_⟩
    · rw [List.getD_eq_getElem?_getD, List.getElem?_eq_getElem hb]
      exact List.getElem_mem hb
    · obtain ⟨i, hi, e⟩ := List.mem_iff_getElem.mp hj
      have e2 : is.getD i 0 = j := by rw [List.getD_eq_getElem?_getD, List.getElem?_eq_getElem hi, ← e]; rfl
      rw [← e2]
      exact b2 i (by omega)
end
end Tg
end
section
set_option Elab.async false
set_option autoImplicit false
set_option linter.all false
set_option maxRecDepth 100000
set_option maxHeartbeats 4000000
/-! list(d.items()), dict(pairs). -/
namespace Tg
open PySem PySem.Spec PyProof.Rows L2
/-- the tuples at ts are the pairs of the entries, the keys' tuples known -/
def Prs (H : Hp) (kvs : List (List Key × V)) (ts : List Addr) : Prop := Paired (fun (e : List Key × V) T => ∃ q, H T = some (.tup [.ref q, e.2]) ∧ H q = some (.tup (e.1.map kV))) kvs ts
theorem Prs.mono {H H' : Hp} {kvs : List (List Key × V)} {ts : List Addr} (p : Prs H kvs ts) (h : ∀ b xs, H b = some (.tup xs) → H' b = some (.tup xs)) : Prs H' kvs ts :=
  Paired.mapP p fun _ _ ⟨q, a, b⟩ => ⟨q, h _ _ a, h _ _ b⟩
section
variable {X : Cx}
/-- list(v), v the items of a dict -/
def rListIt : List V → Hp → VK → Prop := fun xs H Q => ∃ (p d : Addr) (kvs : List (List Key × V)), xs = [.ref p] ∧ H p = some (DX.itemsO p d) ∧ H d = some (.dT kvs) ∧
  ∀ (H' : Hp) (l : Addr) (ts : List Addr), (∀ b o, H b = some o → H' b = some o) → H l = none → H' l = some (.lst (ts.map V.ref)) → Prs H' kvs ts → Q (.ref l) H'
theorem cr_listIt (hc : X.calm = true) : CallR X (.type "list") rListIt := by
  intro pins s σ H xs us Q I r h
  obtain ⟨p, d, kvs, rfl, hp, hd, q⟩ := h
  obtain rfl := Vals.ref1 r
  have view : s.heap.IsItemsView p d := (show ObjOk X.prog X.w H s.heap p (DX.itemsO p d) from I.hok p _ hp).1
  obtain ⟨hs, hz, es, ep, raw, hn, ent⟩ := rawT I hd
  refine PySem.W.dil_call (I.ok.hd hc) view raw (by rw [hn]; exact hz) fun h' tk acc c as k hS hl hg hacc => ?_
  have I1 : Inv X pins σ H { s with heap := h', toks := tk } := I.kept (t' := tk) k
  have nd : as.Nodup := List.Pairwise.imp (fun h => Nat.ne_of_lt h) hg.rise
  -- each made tuple, by its place
  have at' : ∀ (j : Nat) (a : Addr), as[j]? = some a → ∃ (k : List Key) (v : V) (b : Addr), kvs[j]? = some (k, v) ∧ H b = some (.tup (k.map kV)) ∧ ∀ H2, ObjOk X.prog X.w H2 h' a (.tup [.ref b, v]) := fun j a hj => by
    obtain ⟨hj', e⟩ := hg.pairs j a hj
    obtain ⟨k, v, b, e1, e2, e3, e4⟩ := ent j hj'
    refine ⟨k, v, b, e1, e3, fun H2 => ⟨by show 2 ≤ sizeLine; decide, [es[j].key, es[j].val], .cons e2 (.cons e4 .nil), ⟨_, e, rfl, _, rfl⟩⟩⟩
  have hlS : H s.heap.objs.size = none := I.hok.fresh (Nat.le_refl _)
  -- the list first
  obtain ⟨H1, e1⟩ : ∃ H1, H1 = upd H s.heap.objs.size (.lst (as.map V.ref)) := ⟨_, rfl⟩
  have I2 : Inv X pins σ H1 { s with heap := h', toks := tk } := by
    rw [e1]
    refine I1.take (h' := h') (t' := tk) (fun b o _ e => e) (I.fpOk (Nat.le_refl _) hlS) ?_
    exact ⟨by rw [List.length_map, hl, hn]; exact hz, as.map Value.ref, c, vals_refs as, by rw [← hacc]; simpa using hS⟩
  have fresh : ∀ a ∈ as, s.heap.objs.size ≤ a ∧ H1 a = none ∧ ∃ vs, (∃ (j : Nat) (k : List Key) (v : V) (b : Addr), as[j]? = some a ∧ kvs[j]? = some (k, v) ∧ vs = [V.ref b, v] ∧ H b = some (.tup (k.map kV))) ∧ ∀ H2, ObjOk X.prog X.w H2 h' a (.tup vs) := fun a ha => by
    have hab := hg.above a ha
    obtain ⟨j, hj⟩ := List.mem_iff_getElem?.mp ha
    obtain ⟨k, v, b, f1, f2, f3⟩ := at' j a hj
    refine ⟨Nat.le_of_lt hab, ?_, _, ⟨j, k, v, b, hj, f1, rfl, f2⟩, f3⟩
    rw [e1, upd_ne (Nat.ne_of_gt hab)]
    exact I.hok.fresh (Nat.le_of_lt hab)
  obtain ⟨H3, I3, up, q3⟩ := DX.takeT I as H1 I2 nd fresh
  have up0 : ∀ b o, H b = some o → H3 b = some o := fun b o e => up b o (by rw [e1, upd_ne (ne_of_none e hlS)]; exact e)
  refine ⟨.ref s.heap.objs.size, H3, I3, rfl, q H3 _ as up0 hlS (up _ _ (by rw [e1, upd_same])) ?_⟩
  -- the pairs by their places
  have key : ∀ (l : List Addr) (u : List (List Key × V)), l.length = u.length → (∀ (j : Nat) (a : Addr), l[j]? = some a → ∃ (k : List Key) (v : V) (b : Addr), u[j]? = some (k, v) ∧ H3 a = some (.tup [.ref b, v]) ∧ H3 b = some (.tup (k.map kV))) → Prs H3 u l := by
    intro l
    induction l with
    | nil =>
      intro u hl _
      have : u = [] := List.eq_nil_of_length_eq_zero hl.symm
      subst this; exact .nil
    | cons a l ih =>
      intro u hl h
      cases u with
      | nil => simp at hl
      | cons e u =>
        obtain ⟨k, v, b, g1, g2, g3⟩ := h 0 a rfl
        cases Option.some.inj g1
        exact .cons ⟨b, g2, g3⟩ (ih u (by simpa using hl) fun j c hj => h (j + 1) c hj)
  refine key as kvs (hl.trans hn) fun j a hj => ?_
  obtain ⟨vs, ⟨j', k, v, b, g1, g2, rfl, g4⟩, g5⟩ := q3 a (List.mem_of_getElem? hj)
  have hlt : j < as.length := (List.getElem?_eq_some_iff.mp hj).1
  have ej : j = j' := (List.getElem?_inj hlt nd).mp (hj.trans g1.symm)
  subst ej
  exact ⟨k, v, b, g2, g5, up0 _ _ g4⟩
/-- a fresh dict, tracked -/
theorem dT_new {pins : List (Addr × Obj)} {σ : L2.St} {H : Hp} {s : Shared} {h' : Heap} {tk : Nat} {d : Addr} {kvs : List (List Key × V)} {xs : List (List Key × Addr × Value)} (I : Inv X pins σ H s) (k : ∀ b o, s.heap.get? b = some o → h'.get? b = some o) (hd : s.heap.objs.size ≤ d)
    (rel : KT H kvs xs) (dd : h'.DictOfH (tupleKind (mixKind X.prog X.w)) d xs) (hz : kvs.length ≤ sizeLine) : Inv X pins σ (upd H d (.dT kvs)) { s with heap := h', toks := tk } := by
  refine I.laid k hd ⟨hz, ?_, xs, ?_, ?_⟩
  · have := I.big
    exact beq_eq_false_iff_ne.mpr (Nat.ne_of_gt (Nat.lt_of_lt_of_le this hd))
  · refine Paired.mapP rel fun p q ⟨z1, z2, z3⟩ => ⟨z1, ?_, z3⟩
    rw [upd_ne (ne_of_none z2 (I.hok.fresh hd))]
    exact z2
  · obtain ⟨o, es, ep, e1, e2, e3, e4, _, e5⟩ := dd
    exact ⟨o, es, ep, e1, e2, e3, e4, e5⟩
/-- dict(l), l a list of pairs, no key twice -/
def rDictPs : List V → Hp → VK → Prop := fun xs H Q => ∃ (p : Addr) (ts : List Addr) (kvs : List (List Key × V)), xs = [.ref p] ∧ H p = some (.lst (ts.map V.ref)) ∧ Prs H kvs ts ∧ (kvs.map (·.1)).Nodup ∧
  ∀ d, H d = none → Q (.ref d) (upd H d (.dT kvs))
theorem cr_dictPs (hc : X.calm = true) (hu : X.A.units + 2 < cLine) : CallR X (.type "dict") rDictPs := by
  intro pins s σ H xs us Q I r h
  obtain ⟨p, ts, kvs, rfl, hp, pr, hn, q⟩ := h
  obtain rfl := Vals.ref1 r
  obtain ⟨hz, its, n, rv, hob⟩ := I.hok p _ hp
  have hits : its = ts.map Value.ref := by
    clear hob hz hp pr q
    induction ts generalizing its with
    | nil => cases rv; rfl
    | cons t ts ih =>
      cases rv with
      | cons r0 r1 =>
        cases r0
        rw [ih _ r1, List.map_cons]
  subst hits
  have hlen : kvs.length = ts.length := Paired.length pr
  rw [List.length_map] at hz
  -- the pairs as they stand
  obtain ⟨xs, rel, pl⟩ : ∃ xs : List (List Key × Addr × Value), KT H kvs xs ∧ Paired (fun (x : List Key × Addr × Value) T => s.heap.IsTuple T #[.ref x.2.1, x.2.2]) xs ts := by
    clear hob hz hp q hn hlen r rv
    induction pr with
    | nil => exact ⟨[], .nil, .nil⟩
    | @cons e T l1 l2 hT t ih =>
      obtain ⟨xs, r1, r2⟩ := ih
      obtain ⟨b, a1, a2⟩ := hT
      obtain ⟨_, its, rv, tp⟩ := I.hok T _ a1
      cases rv with
      | cons r0 rr =>
        cases rr with
        | cons r3 rr =>
          cases rr
          cases r0
          exact ⟨(e.1, b, _) :: xs, .cons ⟨rfl, a2, r3⟩ r1, .cons tp r2⟩
  have hxl : xs.length = ts.length := (Paired.length rel).symm.trans hlen
  have hkeys : xs.map (·.1) = kvs.map (·.1) := by
    clear pl hxl hob hz hp q hlen r rv pr
    induction rel with
    | nil => rfl
    | cons z t ih => rw [List.map_cons, List.map_cons, ih (List.nodup_cons.mp hn).2, z.1]
  have hnd : (xs.map (·.1)).Nodup := by rw [hkeys]; exact hn
  have items : PairItems s.heap (ts.map Value.ref).toArray (fun j => ts.getD j 0) (xs.map fun x => (Value.ref x.2.1, x.2.2)) := by
    refine ⟨by simp [hxl], fun j k v hj => ?_⟩
    rw [List.getElem?_map] at hj
    obtain ⟨x, hx, ex⟩ := Option.map_eq_some_iff.mp hj
    cases ex
    obtain ⟨T, hT, tp⟩ := paired_get pl hx
    have e1 : ts.getD j 0 = T := by rw [List.getD_eq_getElem?_getD, hT]; rfl
    refine ⟨?_, ?_⟩
    · show (ts.map Value.ref).toArray[j]? = some (.ref (ts.getD j 0))
      rw [List.getElem?_toArray, List.getElem?_map, hT, e1]
      rfl
    · show PairAt s.heap (ts.getD j 0) _ _
      rw [e1]; exact .inl tp
  have plain : PlainSeq "list" s.heap p (ts.map Value.ref).toArray := ⟨_, n, hob, rfl, rfl, rfl⟩
  refine call_dict_pairsH (knd := tupleKind (mixKind X.prog X.w)) (ps := xs) (PairArg.list p (ts.map Value.ref).toArray (fun j => ts.getD j 0) (xs.map fun x => (Value.ref x.2.1, x.2.2)))
    (I.ok.hd hc) (show X.A.units + 2 < cLine from hu) ⟨plain, items⟩ ⟨(List.length_map ..).symm, fun i k v e => ?_⟩ (fun h' hk x hx => ?_) (by rw [List.length_map, hxl]; exact hz) fun h' tk dd hk => ?_
  · have e' : (xs.map fun x => (Value.ref x.2.1, x.2.2))[i]? = some (k, v) := e
    rw [List.getElem?_map] at e'
    obtain ⟨x, hx, ex⟩ := Option.map_eq_some_iff.mp e'
    cases ex
    exact ⟨x.1, x.2.1, hx, rfl⟩
  · obtain ⟨i, hi⟩ := List.mem_iff_getElem?.mp hx
    obtain ⟨e, he, z1, z2, z3⟩ := DX.pget rel hi
    have kk := key_of I.hok z2
    rw [← z1]
    obtain ⟨o, its, m, g1, g2, g3, g4⟩ := kk
    exact ⟨o, its, m, hk _ _ (Nat.ne_of_lt (Heap.lt_size g1)) (fun q => nomatch q) g1, g2, g3, g4⟩
  · rw [storedAllH_nil_of_nodup xs hnd] at dd
    have hfr : H s.heap.objs.size = none := I.hok.fresh (Nat.le_refl _)
    exact ⟨.ref s.heap.objs.size, _, dT_new I (fun b o e => hk b o (fun q => nomatch q) e) (Nat.le_refl _) rel dd (by rw [hlen]; exact hz), rfl, q _ hfr⟩
/-! ### dict(d) -/
def rDictCp (P : Program) (w : World) : List V → Hp → VK → Prop := fun xs H Q => ∃ (p : Addr) (kvs : List (List Key × V)), xs = [.ref p] ∧ H p = some (.dT kvs) ∧ (kvs.map fun e => (tupleKind (mixKind P w)).hash e.1).Nodup ∧
  ∀ d, H d = none → Q (.ref d) (upd H d (.dT kvs))
theorem cr_dictCp (hu : X.A.units + 2 < cLine) : CallR X (.type "dict") (rDictCp X.prog X.w) := by
  intro pins s σ H xs us Q I r h
  obtain ⟨p, kvs, rfl, hp, hn, q⟩ := h
  obtain rfl := Vals.ref1 r
  obtain ⟨hz, hs, xs, rel, dd⟩ := dt_of I.hok hp
  have hlen : kvs.length = xs.length := Paired.length rel
  have hkeys : xs.map (·.1) = kvs.map (·.1) := by
    clear dd hlen hz hp q hn r
    induction rel with
    | nil => rfl
    | cons z t ih => rw [List.map_cons, List.map_cons, ih, z.1]
  have hap : (xs.map fun x => (tupleKind (mixKind X.prog X.w)).hash x.1).Nodup := by
    have e : (xs.map fun x => (tupleKind (mixKind X.prog X.w)).hash x.1) = (xs.map (·.1)).map (tupleKind (mixKind X.prog X.w)).hash := by rw [List.map_map]; rfl
    rw [e, hkeys, List.map_map]
    exact hn
  refine callType_codes (Q₁ := fun ob s₁ => ob = .ref s.heap.objs.size ∧ s₁ = { s with heap := s.heap.push { cls := .type "dict", data := .dict #[] } }) PySem.F.kt_called_dict (PySem.F.kt_typeCall_dict_1 _) PySem.F.entry_dict_init
    (kt_code_dict_new _ ⟨rfl, rfl⟩) ?_
  rintro ob s₁ ⟨rfl, rfl⟩
  have ty : Shared.TypeIs { s with heap := s.heap.push { cls := .type "dict", data := .dict #[] } } (.ref s.heap.objs.size) "dict" := ⟨_, Heap.get?_push_size _ rfl, rfl⟩
  refine ⟨ty, PySem.F.args_dict_init_2 _ _, ?_⟩
  unfold Builtin.«dict.__init__»
  refine wpAny_bind ?_
  unfold Builtin.Dict.selfAndRest
  refine wpAny_bind (wpAny_notOrdered_dict ty ?_)
  show wpAny _ _ (pure (s.heap.objs.size, [Value.ref p])) _ _ _
  refine wpAny_pure ?_
  have dpush : (s.heap.push { cls := .type "dict", data := .dict #[] }).DictOfH (tupleKind (mixKind X.prog X.w)) p xs := by
    obtain ⟨o, es, ep, e1, e2, e3, e4, e5, e6⟩ := dd
    exact ⟨o, es, ep, Heap.get?_push_of_some _ e1, e2, e3, e4, fun x hx => let ⟨ob, its, m, g1, g⟩ := e5 x hx; ⟨ob, its, m, Heap.get?_push_of_some _ g1, g⟩, e6⟩
  refine updateFrom_dictH (A := X.A.in1) (s := { s with heap := s.heap.push { cls := .type "dict", data := .dict #[] } }) (knd := tupleKind (mixKind X.prog X.w)) .none (show X.A.units + 2 < cLine from hu) (Nat.ne_of_gt dd.lt_size) hs
    (Heap.DictOfH.new s.heap) dpush (.inr ⟨fun x hx => ?_, hap⟩) (by rw [List.length_nil, ← hlen]; omega) fun h' hd' ho' sb => ?_
  · obtain ⟨o, es, ep, e1, e2, e3, e4, e5, e6⟩ := dpush
    exact IsTupleKey.typeIs (s := { s with heap := s.heap.push { cls := .type "dict", data := .dict #[] } }) (e5 x hx)
  · rw [storedAllH_nil_of_nodup xs dd.nodup] at hd'
    have hfr : H s.heap.objs.size = none := I.hok.fresh (Nat.le_refl _)
    exact ⟨rfl, .ref s.heap.objs.size, _, dT_new (s := s) (d := s.heap.objs.size) (tk := s.toks) I (fun b o e => sb.extBut b o (Nat.ne_of_lt (Heap.lt_size e)) (Heap.get?_push_of_some _ e)) (Nat.le_refl _) rel hd' hz, rfl, q _ hfr⟩
/-! ### tuple(d.values()) -/
def valsO (p d : Addr) : HO := .ext fun h => h.IsValuesView p d
def rValsT : V → List V → Hp → VK → Prop := fun x xs H Q => ∃ (a : Addr) (kvs : List (List Key × V)), x = .ref a ∧ xs = [] ∧ H a = some (.dT kvs) ∧ ∀ p, H p = none → Q (.ref p) (upd H p (valsO p a))
theorem mt_valsT : MtR X "dict.values" rValsT := by
  intro pins s σ H x xs v us Q I rx rxs h
  obtain ⟨a, kvs, rfl, rfl, ha, q⟩ := h
  cases rx
  cases rxs
  obtain ⟨hs, hz, es, ep, raw, hn, ent⟩ := rawT I ha
  have hf : H s.heap.objs.size = none := I.hok.fresh (Nat.le_refl _)
  refine call_meetsIn PySem.F.slot_dict_values raw.typeIs PySem.F.entry_dict_values (PySem.F.args_dict_values_1 _) (meets_dict_values_raw a hs) ⟨⟨es, ep, raw⟩, ?_⟩
  exact ⟨.ref s.heap.objs.size, _, I.laid (t' := s.toks) (fun b u e => Heap.get?_push_of_some _ e) (Nat.le_refl _)
    (show ObjOk X.prog X.w _ _ _ (valsO s.heap.objs.size a) from ⟨⟨_, Heap.get?_push_size _ rfl, rfl, rfl⟩, ⟨_, Heap.get?_push_size _ rfl⟩, fun h1 h2 x k => let ⟨o, ho, r⟩ := x; ⟨o, k o ho, r⟩⟩), rfl, q _ hf⟩
def rTupVals : List V → Hp → VK → Prop := fun xs H Q => ∃ (p d : Addr) (kvs : List (List Key × V)), xs = [.ref p] ∧ H p = some (valsO p d) ∧ H d = some (.dT kvs) ∧
  ∀ q, H q = none → Q (.ref q) (upd H q (.tup (kvs.map (·.2))))
theorem cr_tupVals (hc : X.calm = true) : CallR X (.type "tuple") rTupVals := by
  intro pins s σ H xs us Q I r h
  obtain ⟨p, d, kvs, rfl, hp, hd, q⟩ := h
  obtain rfl := Vals.ref1 r
  have view : s.heap.IsValuesView p d := (show ObjOk X.prog X.w H s.heap p (valsO p d) from I.hok p _ hp).1
  obtain ⟨hs, hz, es, ep, raw, hn, ent⟩ := rawT I hd
  refine callType_codes (Q₁ := fun ob s₁ => s₁.TypeIs ob "tuple" ∧ EP X pins σ Q ob s₁) PySem.F.called_tuple (PySem.F.typeCall_tuple_1 _) PySem.F.entry_object_init ?_ fun ob s₁ h₁ => ?_
  · refine codeAny_of_tree ?_
    show wpAny _ X.A.in1.in1 (do checkBuiltinCall "tuple.__new__" ⟨[.type "tuple", .ref p], []⟩; again (.builtin "tuple.__new__" ⟨[.type "tuple", .ref p], []⟩)) _ _ s
    refine wpAny_bind (wpAny_of_eq (PySem.F.newCall_tuple_1 _) (wpAny_pure ⟨plainId_quiet PySem.F.plain_tuple_new _, codeAny_builtin PySem.F.entry_tuple_new ?_⟩))
    rw [Around.under_plainId PySem.F.plain_tuple_new _]
    have hsub := sub_tuple_self
    have hinit := init_tuple_lookup
    have hmh := madeHere_tuple
    have ty : s.TypeIs (.ref p) "dict_values" := view.typeIs
    have hh1 : X.A.in1.in1.handled = none := I.ok.hd hc
    have hsz : es.size ≤ sizeLine := by rw [hn]; exact hz
    have ok : s.heap.IsValuesView p d ∧ s.heap.DictRaw d es ep := ⟨view, raw⟩
    wp_walk using wpAny_typeOf ty, PySem.W.kdu_collect (A := X.A.in1.in1) (PySem.KdlSrc.rawValues) hh1 ok hsz
    intro h1 tk acc k1 ia
    show wpAny _ _ (Builtin.Tuple.tupleExact acc.toList.toArray >>= fun v => ret v) _ _ _
    unfold Builtin.Tuple.tupleExact
    refine wpAny_bind (wpAny_newObj_type ?_ (by show acc.toList.toArray.size ≤ sizeLine; simp only [Array.toArray_toList]; rw [ia.1]; exact hsz))
    have I1 : Inv X pins σ H { s with heap := h1, toks := tk } := I.kept k1
    have hfresh : H h1.objs.size = none := I1.hok.fresh (Nat.le_refl _)
    refine wpAny_pure ⟨⟨_, Heap.get?_push_size _ rfl, rfl⟩, .ref h1.objs.size, upd H h1.objs.size (.tup (kvs.map (·.2))), I1.laid (t' := tk) (fun b o e => Heap.get?_push_of_some _ e) (Nat.le_refl _) ⟨by rw [List.length_map]; exact hz, acc.toList, ?_, ⟨_, Heap.get?_push_size _ rfl, rfl, _, rfl⟩⟩, rfl, q _ hfresh⟩
    refine vals_of_at (by rw [List.length_map, Array.length_toList]; exact hn.symm.trans ia.1.symm) fun j x u hj hu => ?_
    obtain ⟨hi, hv⟩ := ia.2 j u (by rw [← Array.getElem?_toList]; exact hu)
    obtain ⟨k, v, b, e1, _, _, e4⟩ := ent j hi
    rw [List.getElem?_map, e1] at hj
    cases hj
    rw [hv]
    exact e4
  · exact ⟨h₁.1, PySem.F.args_object_init_2 ob _, object_init_meets PySem.F.called_tuple.init.lookup PySem.F.called_tuple.made (by decide) X.prog X.w X.A.in1 _ s₁ ⟨h₁.1, rfl, h₁.2⟩⟩
end
end Tg
end
section
set_option Elab.async false
set_option autoImplicit false
set_option linter.all false
set_option maxRecDepth 100000
set_option maxHeartbeats 4000000
/-! zip whose pairs are kept: dict(zip(..)), list(zip(..)), over any two iterators. -/
namespace Tg
open PySem PySem.Spec PyProof.Rows
section
variable {prog : Program} {w : World} {A : Around} {E : Value → Shared → Prop} {s : Shared}
/-! ### the keys of a dict, one by one -/
theorem key_step {it d : Addr} {i ep : Nat} {es : Array DictEntry} {Q : Value → Shared → Prop} (hit : s.heap.IsKeyIter it d i es.size ep) (hm : s.heap.DictRaw d es ep) (hlt : i < es.size)
    (hQ : ∀ h', h'.IsKeyIter it d (i + 1) es.size ep → Heap.SameBut it s.heap h' → Q es[i].key { s with heap := h' }) : wpAny (model prog w) A (Builtin.SmallTypes.nextOf (.ref it)) Q E s := by
  obtain ⟨o, ho, hc, hd⟩ := id hit
  obtain ⟨od, hod, hcd, hdd⟩ := id hm
  unfold Builtin.SmallTypes.nextOf
  refine wpAny_bind (wpAny_callSpecial?_slot (name := Str.ofString "__next__") hit.typeIs PySem.F.slot_dict_keyiterator_next (wpAny_call_entry PySem.F.slot_dict_keyiterator_next hit.typeIs PySem.F.entry_dict_keyiterator_next ?_ (PySem.F.args_dict_keyiterator_next_1 _)))
  refine wpAny_bind (wpAny_pure ?_)
  refine wpAny_bind ?_
  refine wpAny_bind ?_
  first | refine wpAny_bind (wpAny_typeNameOfWhole_keyiter hit.typeIs (wpAny_pure ?_)) | refine wpAny_bind (wpAny_typeNameOf_keyiter hit.typeIs (wpAny_pure ?_))
  refine wpAny_bind (wpAny_fieldsOf ho hd ?_)
  have own0 : Builtin.Dict_items.ownsTuple "dict_keyiterator" = false := by decide
  simp only [own0, Bool.false_eq_true, if_false]
  show wpAny _ _ (if (Value.ref d == Value.none) = true then _ else _) _ _ s
  rw [if_neg (show ¬ ((Value.ref d == Value.none) = true) from Bool.false_ne_true)]
  refine wpAny_bind (wpAny_pure ?_)
  refine wpAny_bind (wpAny_dictEntries hod hdd ?_)
  rw [if_neg (by simp)]
  refine wpAny_bind (wpAny_pure ?_)
  refine wpAny_bind (wpAny_dictEpoch hod hdd ?_)
  rw [if_neg (by simp)]
  refine wpAny_pure ?_
  simp only [show ¬ ((i : Int) < 0) from by omega, if_false, Int.toNat_natCast, Array.getElem?_eq_getElem hlt]
  refine wpAny_bind ?_
  first | refine wpAny_bind (wpAny_typeNameOfWhole_keyiter hit.typeIs (wpAny_pure ?_)) | refine wpAny_bind (wpAny_typeNameOf_keyiter hit.typeIs (wpAny_pure ?_))
  refine wpAny_bind (wpAny_isOneOf_keyiter hit.typeIs ?_)
  show wpAny _ _ (setField (.ref it) 1 (rawInt ((i : Int) + 1)) >>= _) _ _ s
  refine wpAny_bind (wpAny_setField ho hd (by simp) ?_)
  have hit2 : (s.heap.update it (Obj.mapFields (·.setIfInBounds 1 (rawInt ((i : Int) + 1))))).IsKeyIter it d (i + 1) es.size ep :=
    ⟨_, Heap.get?_update_self _ ho (Obj.isFreed_of_fields (Obj.data_mapFields hd _)), (Obj.cls_mapFields ..).trans hc, by rw [Obj.data_mapFields hd]; simp [rawInt]⟩
  refine wpAny_bind (wpAny_holding ?_)
  refine wpAny_bind (wpAny_isOneOf_keyiter (s := { s with heap := s.heap.update it (Obj.mapFields (·.setIfInBounds 1 (rawInt ((i : Int) + 1)))) }) hit2.typeIs ?_)
  show wpAny _ _ (Pure.pure es[i].key) _ _ _
  exact wpAny_pure (wpAny_pure ⟨_, rfl, wpAny_pure (hQ _ hit2 (Heap.SameBut.update ..))⟩)
theorem key_stop {it d : Addr} {i ep : Nat} {es : Array DictEntry} {Q : Value → Shared → Prop} (hh : A.handled = none) (hit : s.heap.IsKeyIter it d i es.size ep) (hm : s.heap.DictRaw d es ep) (hge : es.size ≤ i)
    (hE : ∀ h' e, Heap.ExtBut it s.heap h' → (∃ o, h'.get? e = some o ∧ o.cls = .type "StopIteration") → E (.ref e) { s with heap := h' }) : wpAny (model prog w) A (Builtin.SmallTypes.nextOf (.ref it)) Q E s := by
  obtain ⟨o, ho, hc, hd⟩ := id hit
  obtain ⟨od, hod, hcd, hdd⟩ := id hm
  unfold Builtin.SmallTypes.nextOf
  refine wpAny_bind (wpAny_callSpecial?_slot (name := Str.ofString "__next__") hit.typeIs PySem.F.slot_dict_keyiterator_next (wpAny_call_entry PySem.F.slot_dict_keyiterator_next hit.typeIs PySem.F.entry_dict_keyiterator_next ?_ (PySem.F.args_dict_keyiterator_next_1 _)))
  refine wpAny_bind (wpAny_pure ?_)
  refine wpAny_bind ?_
  refine wpAny_bind ?_
  first | refine wpAny_bind (wpAny_typeNameOfWhole_keyiter hit.typeIs (wpAny_pure ?_)) | refine wpAny_bind (wpAny_typeNameOf_keyiter hit.typeIs (wpAny_pure ?_))
  refine wpAny_bind (wpAny_fieldsOf ho hd ?_)
  have own0 : Builtin.Dict_items.ownsTuple "dict_keyiterator" = false := by decide
  simp only [own0, Bool.false_eq_true, if_false]
  show wpAny _ _ (if (Value.ref d == Value.none) = true then _ else _) _ _ s
  rw [if_neg (show ¬ ((Value.ref d == Value.none) = true) from Bool.false_ne_true)]
  refine wpAny_bind (wpAny_pure ?_)
  refine wpAny_bind (wpAny_dictEntries hod hdd ?_)
  rw [if_neg (by simp)]
  refine wpAny_bind (wpAny_pure ?_)
  refine wpAny_bind (wpAny_dictEpoch hod hdd ?_)
  rw [if_neg (by simp)]
  refine wpAny_pure ?_
  simp only [show ¬ ((i : Int) < 0) from by omega, if_false, Int.toNat_natCast, Array.getElem?_eq_none hge]
  refine wpAny_bind ?_
  first | refine wpAny_bind (wpAny_typeNameOfWhole_keyiter hit.typeIs (wpAny_pure ?_)) | refine wpAny_bind (wpAny_typeNameOf_keyiter hit.typeIs (wpAny_pure ?_))
  show wpAny _ _ (setField (.ref it) 0 .none >>= _) _ _ s
  refine wpAny_bind (wpAny_setField ho hd (by simp) ?_)
  show wpAny _ _ (newExc (.type "StopIteration") [] >>= _) _ _ _
  refine wpAny_bind ?_
  simp only [newExc, newTuple]
  refine wpAny_bind (wpAny_newObj_type ?_ (by size_fits))
  refine wpAny_bind (m := firstArgMember _ _) (wpAny_of_eq (a := Value.none) (by first | rfl | (simp only [firstArgMember]; rfl)) ?_)
  refine wpAny_newObj_type ?_ (by size_fits)
  simp only [raiseNew]
  refine wpAny_bind (wpAny_handled ?_)
  first | rw [show A.in1.handled = none from hh] | rw [hh]
  refine wpAny_bind (wpAny_pure (wpAny_throw ?_))
  exact hE _ _ (((Heap.SameBut.update ..).extBut.push _).push _) ⟨_, Heap.get?_push_size _ rfl, rfl⟩
end
theorem drawKeys {prog : Program} {w : World} {A : Around} (hh : A.handled = none) (it d : Addr) (hne : d ≠ it) (es : Array DictEntry) (ep : Nat) :
    Draws prog w A it [it, d] es.size (fun i v => ∃ hi : i < es.size, v = es[i].key) (fun i h => h.IsKeyIter it d i es.size ep ∧ h.DictRaw d es ep) where
  live := fun _ _ st => let ⟨o, ho, _⟩ := st.1; ⟨o, ho⟩
  frame := fun _ _ _ st hk => ⟨st.1.at fun o e => hk it (by simp) o e, st.2.at fun o e => hk d (by simp) o e⟩
  item := fun i s Q E hi st hQ => key_step st.1 st.2 hi fun h' a b => hQ _ h' s.toks ⟨hi, rfl⟩ ⟨a, st.2.at fun o e => b.extBut d o hne e⟩ b
  done := fun s Q E st hE => key_stop hh st.1 st.2 (Nat.le_refl _) hE
theorem beginsKeys (d : Addr) (hd : (d == sysModules) = false) (es : Array DictEntry) (ep : Nat) : Begins (.ref d) { cls := .type "dict_keyiterator", data := .fields #[.ref d, .int 0 0, .int es.size 0, .int ep 0] } fun h => h.DictRaw d es ep where
  iter := fun prog w A E s Q hl h => wpAny_pyIter_dict_raw hd hl h
  keeps := fun h h' x hk => x.at fun o e => hk d o e
  free := rfl
section
variable {prog : Program} {w : World} {A : Around} {E : Value → Shared → Prop} {s : Shared} {z TI TO i1 i2 : Addr} {fp1 fp2 : List Addr} {n1 n2 : Nat} {P1 P2 : Nat → Value → Prop} {St1 St2 : Nat → Heap → Prop}
/-! ### next while the last pair is still known -/
theorem held_item {i : Nat} {T : Addr} {f : Bool} {oT : Obj} {Q : Value → Shared → Prop} (S : ZipSep2 z TI TO i1 i2 fp1 fp2) (D1 : Draws prog w A i1 fp1 n1 P1 St1) (D2 : Draws prog w A i2 fp2 n2 P2 St2)
    (hz : IsZipHeld s.heap z TI TO T f) (hT : s.heap.get? T = some oT) (hTI : IsTupOf2 s.heap TI (.ref i1) (.ref i2)) (st1 : St1 i s.heap) (st2 : St2 i s.heap) (l1 : i < n1) (l2 : i < n2)
    (hQ : ∀ x1 x2 h' tk, P1 i x1 → P2 i x2 → IsZipHeld h' z TI TO T true → St1 (i + 1) h' → St2 (i + 1) h' → IsTupOf2 h' s.heap.objs.size x1 x2 → h'.objs.size = s.heap.objs.size + 1 →
      (∀ c o, c ≠ z → c ≠ i1 → c ≠ i2 → s.heap.get? c = some o → h'.get? c = some o) → Q (.ref s.heap.objs.size) { s with heap := h', toks := tk }) :
    wpAny (model prog w) A (Builtin.«zip.__next__» ⟨[.ref z], []⟩) (fun fin s' => ∃ v, fin = .done (.ret v) ∧ Q v s') E s := by
  obtain ⟨hp, g, d, tk0, os⟩ := s
  show wpAny _ _ (field (.ref z) 2 >>= _) _ _ _
  refine wpAny_bind (wpAny_field hz rfl (x := .bool false) rfl ?_)
  show wpAny _ _ (field (.ref z) 3 >>= _) _ _ _
  refine wpAny_bind (wpAny_field hz rfl (x := .ref TI) rfl ?_)
  refine wpAny_bind (wpAny_seqItems hTI rfl ?_)
  show wpAny _ _ (Builtin.SmallTypes.ownedTupleIsFree (.ref z) >>= _) _ _ _
  refine wpAny_bind (wpAny_tupleHeld_zip hz hT fun g0 hz0 hs0 => ?_)
  simp only [Bool.false_eq_true, if_false]
  refine wpAny_bind ?_
  rw [← Array.forIn_toList]
  simp only [List.forIn_cons, List.forIn_nil]
  refine wpAny_bind (wpAny_bind (wpAny_holding ?_))
  show wpAny _ _ (Builtin.SmallTypes.nextOf (.ref i1) >>= _) _ _ _
  refine wpAny_bind (D1.item i ⟨g0, g, d, tk0, os⟩ _ _ l1 (D1.over st1 hs0 S.zf1) fun x1 p1 tk1 hx1 sn1 hp1 => wpAny_pure ?_)
  replace hp1 : Heap.SameBut i1 g0 p1 := hp1
  refine wpAny_pure ?_
  refine wpAny_bind (wpAny_bind (wpAny_holding ?_))
  show wpAny _ _ (Builtin.SmallTypes.nextOf (.ref i2) >>= _) _ _ _
  refine wpAny_bind (D2.item i ⟨p1, g, d, tk1, os⟩ _ _ l2 (D2.over (D2.over st2 hs0 S.zf2) hp1 S.sep1_2) fun x2 p2 tk2 hx2 sn2 hp2 => wpAny_pure ?_)
  replace hp2 : Heap.SameBut i2 p1 p2 := hp2
  refine wpAny_pure (wpAny_pure ?_)
  show wpAny _ _ (newTuple [x1, x2] >>= _) _ _ _
  refine wpAny_bind (wpAny_newTuple ?_)
  have hsz : p2.objs.size = hp.objs.size := by rw [hp2.1, hp1.1, hs0.1]
  have hz2 : IsZipHeld p2 z TI TO T true := hp2.extBut _ _ S.zi2 (hp1.extBut _ _ S.zi1 hz0)
  have hk : ∀ c o, c ≠ z → c ≠ i1 → c ≠ i2 → hp.get? c = some o → p2.get? c = some o := fun c o c1 c2 c3 e => hp2.extBut _ _ c3 (hp1.extBut _ _ c2 (hs0.extBut _ _ c1 e))
  refine wpAny_pure ⟨_, rfl, ?_⟩
  show Q (.ref p2.objs.size) ⟨p2.push { cls := .type "tuple", data := .seq #[x1, x2] }, g, d, tk2, os⟩
  have pr : IsTupOf2 (p2.push { cls := .type "tuple", data := .seq #[x1, x2] }) p2.objs.size x1 x2 := Heap.get?_push_size _ rfl
  have hz4 : (p2.push { cls := .type "tuple", data := .seq #[x1, x2] }).objs.size = p2.objs.size + 1 := Heap.size_push ..
  have q := hQ x1 x2 (p2.push { cls := .type "tuple", data := .seq #[x1, x2] }) tk2 hx1 hx2 (Heap.get?_push_of_some _ hz2) (D1.frame _ _ _ (D1.over sn1 hp2 S.sep2_1) fun b _ o e => Heap.get?_push_of_some _ e) (D2.frame _ _ _ sn2 fun b _ o e => Heap.get?_push_of_some _ e)
  rw [hsz] at pr hz4 ⊢
  exact q pr hz4 fun c o c1 c2 c3 e => Heap.get?_push_of_some _ (hk c o c1 c2 c3 e)
theorem held_end {i : Nat} {T : Addr} {f : Bool} {oT : Obj} {Q : Fin → Shared → Prop} (S : ZipSep2 z TI TO i1 i2 fp1 fp2) (D1 : Draws prog w A i1 fp1 n1 P1 St1) (D2 : Draws prog w A i2 fp2 n2 P2 St2)
    (hz : IsZipHeld s.heap z TI TO T f) (hT : s.heap.get? T = some oT) (hTI : IsTupOf2 s.heap TI (.ref i1) (.ref i2)) (st1 : St1 i s.heap) (st2 : St2 i s.heap) (l1 : i ≤ n1) (l2 : i ≤ n2) (hend : i = n1 ∨ i = n2)
    (hE : ∀ h' tk e, (∀ c o, c ≠ z → c ≠ i1 → c ≠ i2 → s.heap.get? c = some o → h'.get? c = some o) → (∃ o, h'.get? e = some o ∧ o.cls = .type "StopIteration") → E (.ref e) { s with heap := h', toks := tk }) :
    wpAny (model prog w) A (Builtin.«zip.__next__» ⟨[.ref z], []⟩) Q E s := by
  obtain ⟨hp, g, d, tk0, os⟩ := s
  show wpAny _ _ (field (.ref z) 2 >>= _) _ _ _
  refine wpAny_bind (wpAny_field hz rfl (x := .bool false) rfl ?_)
  show wpAny _ _ (field (.ref z) 3 >>= _) _ _ _
  refine wpAny_bind (wpAny_field hz rfl (x := .ref TI) rfl ?_)
  refine wpAny_bind (wpAny_seqItems hTI rfl ?_)
  show wpAny _ _ (Builtin.SmallTypes.ownedTupleIsFree (.ref z) >>= _) _ _ _
  refine wpAny_bind (wpAny_tupleHeld_zip hz hT fun g0 hz0 hs0 => ?_)
  simp only [Bool.false_eq_true, if_false]
  refine wpAny_bind ?_
  rw [← Array.forIn_toList]
  simp only [List.forIn_cons, List.forIn_nil]
  refine wpAny_bind (wpAny_bind (wpAny_holding ?_))
  show wpAny _ _ (Builtin.SmallTypes.nextOf (.ref i1) >>= _) _ _ _
  by_cases h1 : i < n1
  · refine wpAny_bind (D1.item i ⟨g0, g, d, tk0, os⟩ _ _ h1 (D1.over st1 hs0 S.zf1) fun x1 p1 tk1 hx1 sn1 hp1 => wpAny_pure ?_)
    replace hp1 : Heap.SameBut i1 g0 p1 := hp1
    have e2 : i = n2 := by omega
    refine wpAny_pure ?_
    refine wpAny_bind (wpAny_bind (wpAny_holding ?_))
    show wpAny _ _ (Builtin.SmallTypes.nextOf (.ref i2) >>= _) _ _ _
    refine wpAny_bind (D2.done ⟨p1, g, d, tk1, os⟩ _ _ (by rw [← e2]; exact D2.over (D2.over st2 hs0 S.zf2) hp1 S.sep1_2) fun q e hq he => ?_)
    exact hE q tk1 e (fun c o c1 c2 c3 x => hq _ _ c3 (hp1.extBut _ _ c2 (hs0.extBut _ _ c1 x))) he
  · have e1 : i = n1 := by omega
    refine wpAny_bind (D1.done ⟨g0, g, d, tk0, os⟩ _ _ (by rw [← e1]; exact D1.over st1 hs0 S.zf1) fun q e hq he => ?_)
    exact hE q tk0 e (fun c o c1 c2 c3 x => hq _ _ c2 (hs0.extBut _ _ c1 x)) he
/-- a zip amid its work; b: what is written meanwhile -/
def ZS (z TI TO i1 i2 : Addr) (St1 St2 : Nat → Heap → Prop) (b : Addr) (i : Nat) (h : Heap) : Prop := IsTupOf2 h TI (.ref i1) (.ref i2) ∧ St1 i h ∧ St2 i h ∧
  ((IsZip h z TI TO .none ∧ ∃ x y, IsTupOf2 h TO x y) ∨ ∃ T f oT, IsZipHeld h z TI TO T f ∧ h.get? T = some oT ∧ T ≠ z ∧ T ≠ i1 ∧ T ≠ i2 ∧ T ≠ b)
theorem zs_item {i : Nat} {b : Addr} {Q : Option Value → Shared → Prop} (S : ZipSep2 z TI TO i1 i2 fp1 fp2) (D1 : Draws prog w A.in1 i1 fp1 n1 P1 St1) (D2 : Draws prog w A.in1 i2 fp2 n2 P2 St2)
    (st : ZS z TI TO i1 i2 St1 St2 b i s.heap) (hb : b < s.heap.objs.size) (l1 : i < n1) (l2 : i < n2)
    (hQ : ∀ x1 x2 h' tk, P1 i x1 → P2 i x2 → ZS z TI TO i1 i2 St1 St2 b (i + 1) h' → IsTupOf2 h' s.heap.objs.size x1 x2 → h'.objs.size = s.heap.objs.size + 1 →
      (∀ c o, c ≠ z → c ≠ TO → c ≠ i1 → c ≠ i2 → s.heap.get? c = some o → h'.get? c = some o) → Q (some (.ref s.heap.objs.size)) { s with heap := h', toks := tk }) :
    wpAny (model prog w) A (pyNext (.ref z)) Q E s := by
  obtain ⟨hTI, st1, st2, hz⟩ := st
  have lt : ∀ {c o}, s.heap.get? c = some o → s.heap.objs.size ≠ c := fun e => Nat.ne_of_gt (Heap.lt_size e)
  have m1 : s.heap.objs.size ≠ i1 := let ⟨_, e⟩ := D1.live _ _ st1; lt e
  have m2 : s.heap.objs.size ≠ i2 := let ⟨_, e⟩ := D2.live _ _ st2; lt e
  rcases hz with ⟨hz, x, y, hTO⟩ | ⟨T, f, oT, hz, hT, r1, r2, r3, r4⟩
  · refine wpAny_pyNext_zipD2_item S D1 D2 hz hTI hTO st1 st2 l1 l2 fun x1 x2 h' tk p1 p2 a1 a2 a3 a4 a5 a6 k => ?_
    exact hQ x1 x2 h' tk p1 p2 ⟨k _ _ S.TIz S.TITO S.TIi1 S.TIi2 hTI, a3, a4, .inr ⟨s.heap.objs.size, false, _, a1, a5, lt hz, m1, m2, Nat.ne_of_gt hb⟩⟩ a5 a6 k
  · have ty : s.TypeIs (.ref z) "zip" := ⟨_, hz, rfl⟩
    unfold pyNext
    refine wpAny_bind (wpAny_attempt (wpAny_callSpecial?_slot (name := Str.ofString "__next__") ty PySem.F.slot_zip_next (wpAny_call_entry PySem.F.slot_zip_next ty PySem.F.entry_zip_next ?_ (PySem.F.args_zip_next_1 _))))
    refine held_item S D1 D2 hz hT hTI st1 st2 l1 l2 fun x1 x2 h' tk p1 p2 a1 a3 a4 a5 a6 k => wpAny_pure ?_
    exact hQ x1 x2 h' tk p1 p2 ⟨k _ _ S.TIz S.TIi1 S.TIi2 hTI, a3, a4, .inr ⟨T, true, oT, a1, k _ _ r1 r2 r3 hT, r1, r2, r3, r4⟩⟩ a5 a6 fun c o c1 _ c2 c3 e => k c o c1 c2 c3 e
theorem zs_end {i : Nat} {b : Addr} {Q : Option Value → Shared → Prop} (S : ZipSep2 z TI TO i1 i2 fp1 fp2) (D1 : Draws prog w A.in1 i1 fp1 n1 P1 St1) (D2 : Draws prog w A.in1 i2 fp2 n2 P2 St2)
    (st : ZS z TI TO i1 i2 St1 St2 b i s.heap) (l1 : i ≤ n1) (l2 : i ≤ n2) (hend : i = n1 ∨ i = n2)
    (hQ : ∀ h' tk, (∀ c o, c ≠ z → c ≠ TO → c ≠ i1 → c ≠ i2 → s.heap.get? c = some o → h'.get? c = some o) → Q none { s with heap := h', toks := tk }) : wpAny (model prog w) A (pyNext (.ref z)) Q E s := by
  obtain ⟨hTI, st1, st2, hz⟩ := st
  rcases hz with ⟨hz, x, y, hTO⟩ | ⟨T, f, oT, hz, hT, r1, r2, r3, r4⟩
  · exact wpAny_pyNext_zipD2_end S D1 D2 hz hTI hTO st1 st2 l1 l2 hend hQ
  · have ty : s.TypeIs (.ref z) "zip" := ⟨_, hz, rfl⟩
    unfold pyNext
    refine wpAny_bind (wpAny_attempt (wpAny_callSpecial?_slot (name := Str.ofString "__next__") ty PySem.F.slot_zip_next (wpAny_call_entry PySem.F.slot_zip_next ty PySem.F.entry_zip_next ?_ (PySem.F.args_zip_next_1 _))))
    refine held_end S D1 D2 hz hT hTI st1 st2 l1 l2 hend fun h' tk e k he => ?_
    obtain ⟨o, ho, hc⟩ := he
    refine wpAny_bind (wpAny_isInstance (T := "StopIteration") (b := true) ⟨o, ho, hc⟩ isSubtype_stop ?_)
    exact wpAny_pure (hQ _ _ fun c o c1 _ c2 c3 e => k c o c1 c2 c3 e)
theorem zs_frame {i : Nat} {b : Addr} {h h' : Heap} (D1 : Draws prog w A i1 fp1 n1 P1 St1) (D2 : Draws prog w A i2 fp2 n2 P2 St2) (st : ZS z TI TO i1 i2 St1 St2 b i h) (b1 : b ≠ z) (b2 : b ≠ TI) (b3 : b ≠ TO) (b4 : b ∉ fp1) (b5 : b ∉ fp2)
    (k : ∀ c o, c ≠ b → h.get? c = some o → h'.get? c = some o) : ZS z TI TO i1 i2 St1 St2 b i h' := by
  obtain ⟨hTI, st1, st2, hz⟩ := st
  refine ⟨k _ _ (Ne.symm b2) hTI, D1.frame _ _ _ st1 fun c hc o e => k c o (fun q => b4 (q ▸ hc)) e, D2.frame _ _ _ st2 fun c hc o e => k c o (fun q => b5 (q ▸ hc)) e, ?_⟩
  rcases hz with ⟨hz, x, y, hTO⟩ | ⟨T, f, oT, hz, hT, r1, r2, r3, r4⟩
  · exact .inl ⟨k _ _ (Ne.symm b1) hz, x, y, k _ _ (Ne.symm b3) hTO⟩
  · exact .inr ⟨T, f, oT, k _ _ (Ne.symm b1) hz, k _ _ r4 hT, r1, r2, r3, r4⟩
end
/-! ### dict(zip(..)) -/
theorem argZip {prog : Program} {w : World} {z TI TO i1 i2 : Addr} {fp1 fp2 : List Addr} {n1 n2 : Nat} {P1 P2 : Nat → Value → Prop} {St1 St2 : Nat → Heap → Prop} (S : ZipSep2 z TI TO i1 i2 fp1 fp2)
    (D1 : ∀ A : Around, A.handled = none → Draws prog w A i1 fp1 n1 P1 St1) (D2 : ∀ A : Around, A.handled = none → Draws prog w A i2 fp2 n2 P2 St2)
    (A0 : Around) (h0 : A0.handled = none) (L1 : ∀ h, St1 0 h → ∀ b ∈ fp1, ∃ o, h.get? b = some o) (L2 : ∀ h, St2 0 h → ∀ b ∈ fp2, ∃ o, h.get? b = some o) :
    PairArg prog w "zip" z (z :: TI :: TO :: (fp1 ++ fp2)) [z, TO, i1, i2] (min n1 n2) (fun i k v => P1 i k ∧ P2 i v)
      (fun h => IsZip h z TI TO .none ∧ IsTupOf2 h TI (.ref i1) (.ref i2) ∧ (∃ x y, IsTupOf2 h TO x y) ∧ St1 0 h ∧ St2 0 h) where
  type := fun s ok => ⟨_, ok.1, rfl⟩
  notDict := by decide
  keep := fun h h' ok k => by
    obtain ⟨hz, hTI, ⟨x, y, hTO⟩, st1, st2⟩ := ok
    exact ⟨k _ _ hz, k _ _ hTI, ⟨x, y, k _ _ hTO⟩, (D1 A0 h0).frame _ _ _ st1 fun b _ o e => k b o e, (D2 A0 h0).frame _ _ _ st2 fun b _ o e => k b o e⟩
  there := fun h ok b hb => by
    obtain ⟨hz, hTI, ⟨x, y, hTO⟩, st1, st2⟩ := ok
    rcases List.mem_cons.mp hb with e | hb
    · rw [e]; exact ⟨_, hz⟩
    rcases List.mem_cons.mp hb with e | hb
    · rw [e]; exact ⟨_, hTI⟩
    rcases List.mem_cons.mp hb with e | hb
    · rw [e]; exact ⟨_, hTO⟩
    rcases List.mem_append.mp hb with hb | hb
    · exact L1 h st1 b hb
    · exact L2 h st2 b hb
  sub := fun b hb => by
    have hb' : b = z ∨ b = TO ∨ b = i1 ∨ b = i2 := by simpa using hb
    rcases hb' with e | e | e | e
    · rw [e]; exact List.mem_cons_self
    · rw [e]; exact List.mem_cons_of_mem _ (List.mem_cons_of_mem _ List.mem_cons_self)
    · rw [e]; exact List.mem_cons_of_mem _ (List.mem_cons_of_mem _ (List.mem_cons_of_mem _ (List.mem_append_left _ S.mem1)))
    · rw [e]; exact List.mem_cons_of_mem _ (List.mem_cons_of_mem _ (List.mem_cons_of_mem _ (List.mem_append_right _ S.mem2)))
  noKeys := fun A s Q E hA ok h => getAttrOr_miss_zip ok.1 rfl rfl rfl zip_no_keys (by decide +kernel) hA h
  iter := fun A s d Q E hA ok hd hdf h => by
    obtain ⟨hz, hTI, ⟨x, y, hTO⟩, st1, st2⟩ := ok
    have d1 : d ≠ z := fun e => hdf (e ▸ List.mem_cons_self)
    have d2 : d ≠ TI := fun e => hdf (e ▸ List.mem_cons_of_mem _ List.mem_cons_self)
    have d3 : d ≠ TO := fun e => hdf (e ▸ List.mem_cons_of_mem _ (List.mem_cons_of_mem _ List.mem_cons_self))
    have d4 : d ∉ fp1 := fun e => hdf (List.mem_cons_of_mem _ (List.mem_cons_of_mem _ (List.mem_cons_of_mem _ (List.mem_append_left _ e))))
    have d5 : d ∉ fp2 := fun e => hdf (List.mem_cons_of_mem _ (List.mem_cons_of_mem _ (List.mem_cons_of_mem _ (List.mem_append_right _ e))))
    have c1 := D1 A.in1 hA
    have c2 := D2 A.in1 hA
    refine wpAny_pyIter_zip hz (h z [z, TO, i1, i2] (ZS z TI TO i1 i2 St1 St2 d) s.heap s.toks ?_ ⟨hTI, st1, st2, .inl ⟨hz, x, y, hTO⟩⟩ (fun _ _ e => e) fun b hb => .inl hb)
    exact {
      off := fun hm => by
        have hb' : d = z ∨ d = TO ∨ d = i1 ∨ d = i2 := by simpa using hm
        rcases hb' with e | e | e | e
        · exact d1 e
        · exact d3 e
        · exact d4 (e ▸ S.mem1)
        · exact d5 (e ▸ S.mem2)
      frame := fun i h1 h2 st k => zs_frame c1 c2 st d1 d2 d3 d4 d5 k
      item := fun i s1 Q1 E1 hi st hds hQ => zs_item S c1 c2 st hds (by omega) (by omega) fun x1 x2 h' tk p1 p2 st' tp _ k => hQ s1.heap.objs.size x1 x2 h' tk ⟨p1, p2⟩ (.inl ⟨_, tp, rfl, _, rfl⟩) st' fun c o hc e =>
        k c o (fun q => hc (by simp [q])) (fun q => hc (by simp [q])) (fun q => hc (by simp [q])) (fun q => hc (by simp [q])) e
      done := fun s1 Q1 E1 st hQ => zs_end S c1 c2 st (by omega) (by omega) (by omega) fun h' tk k => hQ h' tk fun c o hc e =>
        k c o (fun q => hc (by simp [q])) (fun q => hc (by simp [q])) (fun q => hc (by simp [q])) (fun q => hc (by simp [q])) e }
end Tg
end
section
set_option Elab.async false
set_option autoImplicit false
set_option linter.all false
set_option maxRecDepth 100000
set_option maxHeartbeats 4000000
/-! list(zip(..)). -/
namespace Tg
open PySem PySem.Spec PyProof.Rows
/-- pairs that were made, above lo, rising -/
structure MkZ (R : Nat → Value → Value → Prop) (lo : Addr) (h : Heap) (as : List Addr) : Prop where
  rise : as.Pairwise (· < ·)
  above : ∀ a ∈ as, lo < a
  pairs : ∀ (j : Nat) (a : Addr), as[j]? = some a → ∃ x y, R j x y ∧ IsTupOf2 h a x y
section
variable {prog : Program} {w : World} {A : Around} {E : Value → Shared → Prop} {s : Shared} {z TI TO i1 i2 : Addr} {fp1 fp2 : List Addr} {n1 n2 : Nat} {P1 P2 : Nat → Value → Prop} {St1 St2 : Nat → Heap → Prop}
/-- the loop of list.extend over a zip; L: the list -/
theorem zl_loop {R : Result → Shared → Prop} {L m0 : Addr} (S : ZipSep2 z TI TO i1 i2 fp1 fp2) (D1 : Draws prog w A.in1.in1 i1 fp1 n1 P1 St1) (D2 : Draws prog w A.in1.in1 i2 fp2 n2 P2 St2) (res : Value)
    (b1 : L ≠ z) (b2 : L ≠ TI) (b3 : L ≠ TO) (b4 : L ∉ fp1) (b5 : L ∉ fp2) (hz : z ≤ m0) (hTO : TO ≤ m0) (hi1 : i1 ≤ m0) (hi2 : i2 ≤ m0) (hL : L ≤ m0) (hn : min n1 n2 ≤ sizeLine) {h₁ : Heap}
    (hR : ∀ h' tk acc c as, (∀ b o, b ≠ L → b ≠ z → b ≠ TO → b ≠ i1 → b ≠ i2 → h₁.get? b = some o → h'.get? b = some o) → h'.get? L = some { cls := .type "list", dict := none, data := .seq acc c, slots := #[] } →
      as.length = min n1 n2 → MkZ (fun j x y => P1 j x ∧ P2 j y) m0 h' as → acc.toList = as.map Value.ref → R (.ok (.ret res)) { s with heap := h', toks := tk }) :
    ∀ (k i : Nat) (h : Heap) (tk c : Nat) (acc : Array Value) (as : List Addr), min n1 n2 - i = k → i ≤ min n1 n2 → ZS z TI TO i1 i2 St1 St2 L i h → (∀ b o, b ≠ L → b ≠ z → b ≠ TO → b ≠ i1 → b ≠ i2 → h₁.get? b = some o → h.get? b = some o) →
      h.get? L = some { cls := .type "list", dict := none, data := .seq acc c, slots := #[] } → acc.toList = as.map Value.ref → as.length = i → MkZ (fun j x y => P1 j x ∧ P2 j y) m0 h as → m0 < h.objs.size →
      codeAny (model prog w) A (.builtin "list.extend.loop" ⟨[.ref L, .ref z, res], []⟩) R { s with heap := h, toks := tk } := by
  have Li1 : L ≠ i1 := fun q => b4 (q ▸ S.mem1)
  have Li2 : L ≠ i2 := fun q => b5 (q ▸ S.mem2)
  intro k
  induction k with
  | zero =>
    intro i h tk c acc as hk hi st keep hS hacc hal hG hm
    refine codeAny_builtin PySem.F.entry_extend_loop ?_
    rw [Around.under_plainId PySem.F.plain_extend_loop _]
    show wpAny _ A.in1 (pyNext (.ref z) >>= _) _ _ _
    refine wpAny_bind (zs_end (s := { s with heap := h, toks := tk }) (A := A.in1) S D1 D2 st (by omega) (by omega) (by omega) fun h' tk' kp => ?_)
    refine wpAny_pure (hR h' tk' acc c as (fun b o c0 c1 c2 c3 c4 e => kp b o c1 c2 c3 c4 (keep b o c0 c1 c2 c3 c4 e)) (kp L _ b1 b3 Li1 Li2 hS) (by omega) ⟨hG.rise, hG.above, fun j a hj => ?_⟩ hacc)
    obtain ⟨x, y, r, e⟩ := hG.pairs j a hj
    have up := hG.above a (List.mem_of_getElem? hj)
    exact ⟨x, y, r, kp a _ (Nat.ne_of_gt (Nat.lt_of_le_of_lt hz up)) (Nat.ne_of_gt (Nat.lt_of_le_of_lt hTO up)) (Nat.ne_of_gt (Nat.lt_of_le_of_lt hi1 up)) (Nat.ne_of_gt (Nat.lt_of_le_of_lt hi2 up)) e⟩
  | succ k ih =>
    intro i h tk c acc as hk hi st keep hS hacc hal hG hm
    have hsz : acc.size = i := by rw [← Array.length_toList, hacc, List.length_map, hal]
    have hLh : L < h.objs.size := Heap.lt_size hS
    refine codeAny_builtin PySem.F.entry_extend_loop ?_
    rw [Around.under_plainId PySem.F.plain_extend_loop _]
    show wpAny _ A.in1 (pyNext (.ref z) >>= _) _ _ _
    refine wpAny_bind (zs_item (s := { s with heap := h, toks := tk }) (A := A.in1) S D1 D2 st hLh (by omega) (by omega) fun x1 x2 h' tk' p1 p2 st' tp hz' kp => ?_)
    dsimp only at tp hz' kp ⊢
    have hS' := kp L _ b1 b3 Li1 Li2 hS
    have up : ∀ b o, b ≠ L → h'.get? b = some o → (h'.update L (Obj.mapSeq (·.push (Value.ref h.objs.size)))).get? b = some o := fun b o hb e => (Heap.get?_update_other _ _ (Ne.symm hb)).trans e
    have hLm : L < m0 + 1 := Nat.lt_succ_of_le hL
    have nL : h.objs.size ≠ L := Nat.ne_of_gt hLh
    show wpAny _ A.in1 (updateSeq L (·.push (Value.ref h.objs.size)) >>= _) _ _ _
    refine wpAny_bind ?_
    refine wpAny_updateSeq hS' rfl (wpAny_pure ⟨plainId_quiet PySem.F.plain_extend_loop _, ih (i + 1) _ tk' _ (acc.push (Value.ref h.objs.size)) (as ++ [h.objs.size]) (by omega) (by omega)
      (zs_frame D1 D2 st' b1 b2 b3 b4 b5 fun c o hc e => up c o hc e)
      (fun b o c0 c1 c2 c3 c4 e => up b o c0 (kp b o c1 c2 c3 c4 (keep b o c0 c1 c2 c3 c4 e))) (Heap.get?_update_self _ hS' rfl) (by rw [Array.toList_push, hacc, List.map_append]; rfl) (by rw [List.length_append, hal]; rfl) ⟨?_, ?_, ?_⟩ ?_⟩)
      (by rw [hsz]; omega) (by show (acc.push (Value.ref h.objs.size)).size ≤ sizeLine + 1; rw [Array.size_push, hsz]; omega)
    · refine List.pairwise_append.mpr ⟨hG.rise, List.pairwise_singleton _ _, fun a ha b hb => ?_⟩
      rw [List.mem_singleton.mp hb]
      obtain ⟨j, hj⟩ := List.mem_iff_getElem?.mp ha
      obtain ⟨_, _, _, e⟩ := hG.pairs j a hj
      exact Heap.lt_size e
    · intro a ha
      rcases List.mem_append.mp ha with ha | ha
      · exact hG.above a ha
      · rw [List.mem_singleton.mp ha]; exact hm
    · intro j b hj
      rcases Nat.lt_trichotomy j as.length with l | l | l
      · rw [List.getElem?_append_left l] at hj
        obtain ⟨x, y, r, e⟩ := hG.pairs j b hj
        have ab := hG.above b (List.mem_of_getElem? hj)
        exact ⟨x, y, r, up b _ (Nat.ne_of_gt (Nat.lt_of_le_of_lt hL ab)) (kp b _ (Nat.ne_of_gt (Nat.lt_of_le_of_lt hz ab)) (Nat.ne_of_gt (Nat.lt_of_le_of_lt hTO ab)) (Nat.ne_of_gt (Nat.lt_of_le_of_lt hi1 ab)) (Nat.ne_of_gt (Nat.lt_of_le_of_lt hi2 ab)) e)⟩
      · subst l
        have hb : h.objs.size = b := by simpa using hj
        subst hb
        refine ⟨x1, x2, ?_, up _ _ nL tp⟩
        rw [hal]; exact ⟨p1, p2⟩
      · rw [List.getElem?_eq_none (by rw [List.length_append, List.length_singleton]; omega)] at hj
        cases hj
    · have e : (h'.update L (Obj.mapSeq (·.push (Value.ref h.objs.size)))).get? h.objs.size = _ := up _ _ nL tp
      exact Nat.lt_trans hm (Heap.lt_size e)
theorem zip_no_len : typeLookup (.type "zip") "__len__" = pure none := by rw [typeLookup_type, builtinLookup_eq_fast]; kernel_rfl
theorem zip_no_hint : typeLookup (.type "zip") "__length_hint__" = pure none := by rw [typeLookup_type, builtinLookup_eq_fast]; kernel_rfl
theorem hint_zip (ty : s.TypeIs (.ref z) "zip") {Q : Bool → Shared → Prop} (h : Q true s) : wpAny (model prog w) A (Builtin.List.listLengthHint (.ref z)) Q E s := by
  unfold Builtin.List.listLengthHint
  refine wpAny_bind (wpAny_specialOf ty zip_no_len ?_)
  wp_delta
  refine wpAny_ite_split (fun q => absurd q (by decide)) (fun _ => ?_)
  refine wpAny_ite_split (fun q => absurd q (by decide)) (fun _ => ?_)
  refine wpAny_bind (wpAny_specialOf ty zip_no_hint ?_)
  exact wpAny_pure h
theorem zl_extend {R : Result → Shared → Prop} {L : Addr} (S : ZipSep2 z TI TO i1 i2 fp1 fp2) (hh : A.handled = none) (D1 : Draws prog w A.in1.in1 i1 fp1 n1 P1 St1) (D2 : Draws prog w A.in1.in1 i2 fp2 n2 P2 St2) (res : Value) (c₀ : Nat)
    (ok : IsZip s.heap z TI TO .none ∧ IsTupOf2 s.heap TI (.ref i1) (.ref i2) ∧ (∃ x y, IsTupOf2 s.heap TO x y) ∧ St1 0 s.heap ∧ St2 0 s.heap)
    (b1 : L ≠ z) (b2 : L ≠ TI) (b3 : L ≠ TO) (b4 : L ∉ fp1) (b5 : L ∉ fp2) (hn : min n1 n2 ≤ sizeLine) (hS : s.heap.get? L = some { cls := .type "list", data := .seq #[] c₀ })
    (hR : ∀ h' tk acc c as, (∀ b o, b ≠ L → b ≠ z → b ≠ TO → b ≠ i1 → b ≠ i2 → s.heap.get? b = some o → h'.get? b = some o) → h'.get? L = some { cls := .type "list", dict := none, data := .seq acc c, slots := #[] } →
      as.length = min n1 n2 → (∃ m0, s.heap.objs.size ≤ m0 + 1 ∧ MkZ (fun j x y => P1 j x ∧ P2 j y) m0 h' as) → acc.toList = as.map Value.ref → R (.ok (.ret res)) { s with heap := h', toks := tk }) :
    wpAny (model prog w) A.in1 (Builtin.List.listExtendWith (.ref L) (.ref z) res)
      (fun fin s' => match fin with | .done f => R (.ok f) s' | .again c' => c'.quiet = true ∧ codeAny (model prog w) A c' R s') (fun e s' => R (.error e) s') s := by
  obtain ⟨hz, hTI, ⟨x, y, hTO⟩, st1, st2⟩ := ok
  have ty : s.TypeIs (.ref z) "zip" := ⟨_, hz, rfl⟩
  obtain ⟨m0, hm0⟩ : ∃ m0, s.heap.objs.size = m0 + 1 := Nat.exists_eq_succ_of_ne_zero (Nat.ne_of_gt (Nat.lt_of_le_of_lt (Nat.zero_le _) (Heap.lt_size hS)))
  have le : ∀ {b : Addr} {o : Obj}, s.heap.get? b = some o → b ≤ m0 := fun e => Nat.le_of_lt_succ (Nat.lt_of_lt_of_eq (Heap.lt_size e) hm0)
  have j1 : i1 ≤ m0 := let ⟨_, e⟩ := D1.live _ _ st1; le e
  have j2 : i2 ≤ m0 := let ⟨_, e⟩ := D2.live _ _ st2; le e
  have key : ∀ (h : Heap) (c tk : Nat), h.objs.size = s.heap.objs.size → (∀ b o, b ≠ L → s.heap.get? b = some o → h.get? b = some o) → h.get? L = some { cls := .type "list", data := .seq #[] c } →
      codeAny (model prog w) A (.builtin "list.extend.loop" ⟨[.ref L, .ref z, res], []⟩) R { s with heap := h, toks := tk } := fun h c tk hsz k hL =>
    zl_loop (s := s) (h₁ := s.heap) (m0 := m0) S D1 D2 res b1 b2 b3 b4 b5 (le hz) (le hTO) j1 j2 (le hS) hn
      (fun h' tk' acc c' as kp e l g a => hR h' tk' acc c' as kp e l ⟨m0, by omega, g⟩ a) (min n1 n2) 0 h tk c #[] [] (Nat.sub_zero _) (Nat.zero_le _)
      (zs_frame D1 D2 ⟨hTI, st1, st2, .inl ⟨hz, x, y, hTO⟩⟩ b1 b2 b3 b4 b5 k) (fun b o c0 _ _ _ _ e => k b o c0 e) hL rfl rfl ⟨List.Pairwise.nil, (fun _ ha => nomatch ha), (fun j a hj => by simp at hj)⟩ (by rw [hsz, hm0]; exact Nat.lt_succ_self _)
  unfold Builtin.List.listExtendWith
  refine wpAny_bind (wpAny_typeOf (T := "zip") ty ?_)
  have g1 : Builtin.List.listSameRef (.ref L) (.ref z) = false := by simp [Builtin.List.listSameRef, b1]
  have g2 : (Value.type "zip" == Value.type "list") = false := by decide
  have g3 : (Value.type "zip" == Value.type "tuple") = false := by decide
  simp only [g1, g2, g3, Bool.or_false, Bool.false_eq_true, if_false]
  refine wpAny_bind (wpAny_pyIter_zip hz ?_)
  refine wpAny_bind (wpAny_holding (hint_zip ty ?_))
  refine wpAny_ite_split (fun _ => ?_) (fun q => wpAny_pure ⟨plainId_quiet PySem.F.plain_extend_loop _, key _ c₀ _ rfl (fun b o _ e => e) hS⟩)
  refine wpAny_bind (wpAny_rule ?_)
  refine wpAny_bind ?_
  show wpAny _ _ (updateSeq L (·.push .none) >>= fun _ => updateSeq L (·.pop)) _ _ _
  refine wpAny_bind (wpAny_updateSeq hS rfl ?_)
  have hS₂ := Heap.get?_update_self (Obj.mapSeq (·.push Value.none)) hS rfl
  refine wpAny_updateSeq (hz := by seq_fits) hS₂ rfl ?_
  have hS₃ := Heap.get?_update_self (Obj.mapSeq (·.pop)) hS₂ rfl
  refine wpAny_pure ⟨plainId_quiet PySem.F.plain_extend_loop _, key _ _ _ ?_ (fun b o hb e => ?_) hS₃⟩
  · rw [(Heap.SameBut.update ..).1, (Heap.SameBut.update ..).1]
  · exact (Heap.get?_update_other _ _ (Ne.symm hb)).trans ((Heap.get?_update_other _ _ (Ne.symm hb)).trans e)
theorem zl_call {Q : Value → Shared → Prop} (S : ZipSep2 z TI TO i1 i2 fp1 fp2) (hh : A.handled = none) (D1 : ∀ A : Around, A.handled = none → Draws prog w A i1 fp1 n1 P1 St1) (D2 : ∀ A : Around, A.handled = none → Draws prog w A i2 fp2 n2 P2 St2)
    (ok : IsZip s.heap z TI TO .none ∧ IsTupOf2 s.heap TI (.ref i1) (.ref i2) ∧ (∃ x y, IsTupOf2 s.heap TO x y) ∧ St1 0 s.heap ∧ St2 0 s.heap) (f1 : ∀ b ∈ fp1, b < s.heap.objs.size) (f2 : ∀ b ∈ fp2, b < s.heap.objs.size) (hn : min n1 n2 ≤ sizeLine)
    (hQ : ∀ h' tk acc c as, (∀ b o, b ≠ z → b ≠ TO → b ≠ i1 → b ≠ i2 → s.heap.get? b = some o → h'.get? b = some o) → h'.get? s.heap.objs.size = some { cls := .type "list", dict := none, data := .seq acc c, slots := #[] } →
      as.length = min n1 n2 → MkZ (fun j x y => P1 j x ∧ P2 j y) s.heap.objs.size h' as → acc.toList = as.map Value.ref → Q (.ref s.heap.objs.size) { s with heap := h', toks := tk }) :
    wpAny (model prog w) A (call (.type "list") [.ref z]) Q E s := by
  refine callType_codes (Q₁ := fun ob s₁ => ob = .ref s.heap.objs.size ∧ s₁ = { s with heap := s.heap.push { cls := .type "list", data := .seq #[] } }) PySem.F.called_list (PySem.F.typeCall_list_1 _) PySem.F.entry_list_init
    (code_list_new _ ⟨rfl, rfl⟩) fun ob s₁ q => ?_
  obtain ⟨rfl, rfl⟩ := q
  obtain ⟨hz, hTI, ⟨x, y, hTO⟩, st1, st2⟩ := ok
  have hS : (s.heap.push { cls := .type "list", data := .seq #[] }).get? s.heap.objs.size = some { cls := .type "list", data := .seq #[] } := Heap.get?_push_size _ rfl
  have lt : ∀ {b : Addr} {o : Obj}, s.heap.get? b = some o → s.heap.objs.size ≠ b := fun e => Nat.ne_of_gt (Heap.lt_size e)
  have c1 := D1 A.in1.in1.in1 hh
  have c2 := D2 A.in1.in1.in1 hh
  have n1' : s.heap.objs.size ∉ fp1 := fun q => absurd (f1 _ q) (Nat.lt_irrefl _)
  have n2' : s.heap.objs.size ∉ fp2 := fun q => absurd (f2 _ q) (Nat.lt_irrefl _)
  have m1 : s.heap.objs.size ≠ i1 := fun q => n1' (q ▸ S.mem1)
  have m2 : s.heap.objs.size ≠ i2 := fun q => n2' (q ▸ S.mem2)
  refine ⟨⟨_, hS, rfl⟩, PySem.F.args_list_init_2 _ _, ?_⟩
  show wpAny _ _ (do let old ← Builtin.List.listItems (.ref s.heap.objs.size); Builtin.List.listUpdate (.ref s.heap.objs.size) (fun _ => #[]); letGo old.toList.reverse; Builtin.List.listExtendWith (.ref s.heap.objs.size) (.ref z) .none) _ _ _
  refine wpAny_bind ?_
  unfold Builtin.List.listItems
  refine wpAny_bind (wpAny_seqItems hS rfl (wpAny_pure ?_))
  show wpAny _ _ (updateSeq s.heap.objs.size (fun _ => #[]) >>= fun _ => letGo (#[] : Array Value).toList.reverse >>= fun _ => Builtin.List.listExtendWith (.ref s.heap.objs.size) (.ref z) .none) _ _ _
  refine wpAny_bind (wpAny_updateSeq hS rfl ?_)
  have hS₂ := Heap.get?_update_self (Obj.mapSeq (fun _ => (#[] : Array Value))) hS rfl
  have oth : ∀ b o, b ≠ s.heap.objs.size → (s.heap.push { cls := .type "list", data := .seq #[] }).get? b = some o → ((s.heap.push { cls := .type "list", data := .seq #[] }).update s.heap.objs.size (Obj.mapSeq (fun _ => (#[] : Array Value)))).get? b = some o :=
    fun b o hb e => (Heap.get?_update_other _ _ (Ne.symm hb)).trans e
  have oth2 : ∀ b o, s.heap.get? b = some o → ((s.heap.push { cls := .type "list", data := .seq #[] }).update s.heap.objs.size (Obj.mapSeq (fun _ => (#[] : Array Value)))).get? b = some o :=
    fun b o e => oth b o (Nat.ne_of_lt (Heap.lt_size e)) (Heap.get?_push_of_some _ e)
  refine wpAny_bind (wpAny_letGo ?_)
  refine zl_extend (A := A.in1) (s := { s with heap := (s.heap.push { cls := .type "list", data := .seq #[] }).update s.heap.objs.size (Obj.mapSeq (fun _ => (#[] : Array Value))) }) S hh c1 c2 .none _
    ⟨oth2 _ _ hz, oth2 _ _ hTI, ⟨x, y, oth2 _ _ hTO⟩, c1.frame _ _ _ st1 fun b _ o e => oth2 b o e, c2.frame _ _ _ st2 fun b _ o e => oth2 b o e⟩
    (lt hz) (lt hTI) (lt hTO) n1' n2' hn hS₂ fun h' tk acc c as kp e l g a => ?_
  obtain ⟨m0, hm, g⟩ := g
  refine ⟨rfl, hQ h' tk acc c as (fun b o c1 c2 c3 c4 e' => kp b o (Nat.ne_of_lt (Heap.lt_size e')) c1 c2 c3 c4 (oth2 b o e')) e l ⟨g.rise, fun b hb => ?_, g.pairs⟩ a⟩
  have := g.above b hb
  have e2 : ((s.heap.push { cls := .type "list", data := .seq #[] }).update s.heap.objs.size (Obj.mapSeq (fun _ => (#[] : Array Value)))).objs.size = s.heap.objs.size + 1 := by rw [(Heap.SameBut.update ..).1, Heap.size_push]
  have hm' : ((s.heap.push { cls := .type "list", data := .seq #[] }).update s.heap.objs.size (Obj.mapSeq (fun _ => (#[] : Array Value)))).objs.size ≤ m0 + 1 := hm
  rw [e2] at hm'
  have : m0 < b := this
  show s.heap.objs.size < b
  omega
end
end Tg
end
section
set_option Elab.async false
set_option autoImplicit false
set_option linter.all false
set_option maxRecDepth 100000
set_option maxHeartbeats 4000000
/-! list(zip(l, t)), dict(zip(d, t)), for a, b in zip(l, t): l a list, t a tuple, d a dict with tuple keys. -/
namespace Tg
open PySem PySem.Spec PyProof.Rows L2
section
variable {X : Cx} {e e2 : Expr} {ta : TA} {p p2 pos2 pos : Pos}
theorem five {N c : Nat} (h : c ∈ [N + 4, N + 2, N + 3, N, N + 1]) : N ≤ c := by
  have e' : c = N + 4 ∨ c = N + 2 ∨ c = N + 3 ∨ c = N ∨ c = N + 1 := by simpa using h
  omega
theorem lt5 {N c a : Nat} (l : a < N) (h : c = N ∨ c = a) : c < N + 5 := by omega
theorem lt5' {N c a : Nat} (l : a < N) (h : c = N + 1 ∨ c = a) : c < N + 5 := by omega
theorem ns5 {N c : Nat} (h : c ∉ [N + 4, N + 2, N + 3, N, N + 1]) : c ≠ N + 4 ∧ c ≠ N + 2 ∧ c ≠ N + 3 ∧ c ≠ N ∧ c ≠ N + 1 := by
  simpa using h
def tListZip (K : PySem.W.Frag) (ta : TA) : TE := fun σ H Q => ta σ H fun vs H1 => ∃ (a b : Addr) (xs ys : List V), vs = [.ref a, .ref b] ∧ SqL K H1 a xs ∧ SqT K H1 b ys ∧ xs.length = ys.length ∧
  ∀ (H' : Hp) (l : Addr) (ts : List Addr), (∀ c o, H1 c = some o → H' c = some o) → H1 l = none → H' l = some (.lst (ts.map V.ref)) → Paired (fun (z : V × V) T => H' T = some (.tup [z.1, z.2])) (xs.zip ys) ts → Q (.ref l) H'
theorem pe_listZip (hc : X.calm = true) (hg : Gl X "list") (hm : X.mg "list" = none) (hg2 : Gl X "zip") (hm2 : X.mg "zip" = none) (ha : PA X [e, e2] ta)
    (hs : starEach [e, e2] X.env = (false, eval e X.env) :: starEach [e2] X.env := by rfl) (hpl : (backTo pos2 (starEach [e2] X.env)).any (·.1) = false := by rfl) :
    PE X (.Call (.Name "list" p) [.Call (.Name "zip" p2) [e, e2] [] pos2] [] pos) (tListZip X.K ta) := by
  refine ⟨fun pins s σ H Q I h => ?_⟩
  refine Call_ (ld_blt I hg hm PyProof.Rows.boot_list ?_)
  refine PyProof.Rows.callWith_type1 (PyProof.Rows.args_cons ?_ rfl) rfl rfl
  refine Call_ (ld_blt I hg2 hm2 PyProof.Rows.boot_zip (PyProof.Rows.callWith_type1 (thn (ha.run pos2 pins s σ H _ I h) fun us s1 ⟨vs, H1, I1, r1, q1⟩ => ?_) hs hpl))
  obtain ⟨a, b, xs, ys, rfl, hqx, hqy, hlen, q⟩ := q1
  cases r1 with
  | cons r rr =>
    cases rr with
    | cons r' rr =>
      cases rr
      cases r
      cases r'
      obtain ⟨its, rv, p1, hz1⟩ := I1.list hqx
      obtain ⟨its2, rv2, tp2, hz2⟩ := I1.tuple hqy
      have il : its.toArray.size = xs.length := by rw [List.size_toArray, ← rv.length]
      have il2 : its2.toArray.size = ys.length := by rw [List.size_toArray, ← rv2.length]
      have la : a < s1.heap.objs.size := p1.lt
      have lb : b < s1.heap.objs.size := tp2.lt
      refine zip_begins2 (begins_list a its.toArray) (begins_tuple b its2.toArray) p1.isList (show s1.heap.IsTuple b its2.toArray from tp2) fun h' hz hTI hTO h1 h2 hsz hk => ?_
      refine PyProof.Rows.args_nil ?_
      have I2 : Inv X pins σ H1 { s1 with heap := h' } := I1.kept (t' := s1.toks) hk
      obtain ⟨N, hN⟩ : ∃ N, N = s1.heap.objs.size := ⟨_, rfl⟩
      have e1 : h'.objs.size = N + 5 := by rw [hN]; exact hsz
      rw [← hN] at hz hTI hTO h1 h2 la lb ⊢
      have S := zip_sep2 (N := N) (fp1 := [a]) (fp2 := [b]) (fun c hc => by rw [List.mem_singleton.mp hc]; exact la) (fun c hc => by rw [List.mem_singleton.mp hc]; exact lb)
      have fp5 : ∀ c, c ∈ [N + 4, N + 2, N + 3, N, N + 1] → FpOk X pins H1 c := fun c hcm => by
        have hle : s1.heap.objs.size ≤ c := by rw [← hN]; exact five hcm
        exact I1.fpOk hle (I1.hok.fresh hle)
      refine zl_call (s := { s1 with heap := h' }) (n1 := its.toArray.size) (n2 := its2.toArray.size) S (I2.ok.hd hc) (fun A hA => Draws.list hA N a (Nat.ne_of_lt la) its.toArray) (fun A hA => Draws.tuple hA (N + 1) b (Nat.ne_of_lt (Nat.lt_succ_of_lt lb)) its2.toArray)
        ⟨hz, hTI, ⟨_, _, hTO⟩, ⟨⟨_, h1, rfl, rfl⟩, p1.isList.at fun o e => hk a o e⟩, ⟨⟨_, h2, rfl, rfl⟩, (show s1.heap.IsTuple b its2.toArray from tp2).at fun o e => hk b o e⟩⟩ (fun c hc' => ?_) (fun c hc' => ?_) (by rw [il, il2]; omega) fun h3 tk acc c as kp hS hl hG hacc => ?_
      · show c < h'.objs.size
        rw [e1]
        exact lt5 la (by simpa using hc')
      · show c < h'.objs.size
        rw [e1]
        exact lt5' lb (by simpa using hc')
      · have nd : as.Nodup := List.Pairwise.imp (fun h => Nat.ne_of_lt h) hG.rise
        have I3 : Inv X pins σ H1 { s1 with heap := h3, toks := tk } := Inv.turnedL (s := { s1 with heap := h' }) (h' := h3) (t' := tk) (ch := [N + 4, N + 2, N + 3, N, N + 1]) I2 (fun c o hcm q => let z := ns5 hcm; kp c o z.1 z.2.2.1 z.2.2.2.1 z.2.2.2.2 q) fp5
        have hle : s1.heap.objs.size ≤ h'.objs.size := by rw [← hN, e1]; exact Nat.le_add_right _ _
        have hlS : H1 h'.objs.size = none := I2.hok.fresh (Nat.le_refl _)
        have la2 : as.length = xs.length := by rw [hl, il, il2, ← hlen, Nat.min_self]
        obtain ⟨H4, eH4⟩ : ∃ H4, H4 = upd H1 h'.objs.size (.lst (as.map V.ref)) := ⟨_, rfl⟩
        have I4 : Inv X pins σ H4 { s1 with heap := h3, toks := tk } := by
          rw [eH4]
          refine I3.take (h' := h3) (t' := tk) (fun b o _ e => e) (I1.fpOk hle (I1.hok.fresh hle)) ?_
          exact ⟨by rw [List.length_map, la2]; exact hz1, as.map Value.ref, c, vals_refs as, by rw [← hacc]; simpa using hS⟩
        have at' : ∀ (j : Nat) (T : Addr), as[j]? = some T → ∃ (x y : V), xs[j]? = some x ∧ ys[j]? = some y ∧ ∀ H2, ObjOk X.prog X.w H2 h3 T (.tup [x, y]) := fun j T hj => by
          obtain ⟨u, v, ⟨pu, pv⟩, ht⟩ := hG.pairs j T hj
          have lj : j < xs.length := by rw [← la2]; exact (List.getElem?_eq_some_iff.mp hj).1
          have lj2 : j < ys.length := by omega
          obtain ⟨u', hu', ru⟩ := rv.get (List.getElem?_eq_getElem lj)
          obtain ⟨v', hv', rw'⟩ := rv2.get (List.getElem?_eq_getElem lj2)
          have eu : u' = u := by
            have q : its.toArray[j]? = some u := pu
            rw [List.getElem?_toArray, hu'] at q
            exact Option.some.inj q
          have ev : v' = v := by
            have q : its2.toArray[j]? = some v := pv
            rw [List.getElem?_toArray, hv'] at q
            exact Option.some.inj q
          subst eu ev
          exact ⟨_, _, List.getElem?_eq_getElem lj, List.getElem?_eq_getElem lj2, fun H2 => ⟨by show 2 ≤ sizeLine; decide, [u', v'], .cons ru (.cons rw' .nil), ⟨_, ht, rfl, _, rfl⟩⟩⟩
        have fresh : ∀ T ∈ as, s1.heap.objs.size ≤ T ∧ H4 T = none ∧ ∃ vs, (∃ (j : Nat) (x y : V), as[j]? = some T ∧ xs[j]? = some x ∧ ys[j]? = some y ∧ vs = [x, y]) ∧ ∀ H2, ObjOk X.prog X.w H2 h3 T (.tup vs) := fun T hT => by
          have ab : h'.objs.size < T := hG.above T hT
          obtain ⟨j, hj⟩ := List.mem_iff_getElem?.mp hT
          obtain ⟨x, y, f1, f2, f3⟩ := at' j T hj
          refine ⟨Nat.le_trans hle (Nat.le_of_lt ab), ?_, _, ⟨j, x, y, hj, f1, f2, rfl⟩, f3⟩
          rw [eH4, upd_ne (Nat.ne_of_gt ab)]
          exact I2.hok.fresh (Nat.le_of_lt ab)
        obtain ⟨H5, I5, up, q5⟩ := DX.takeT I1 as H4 I4 nd fresh
        have up0 : ∀ b o, H1 b = some o → H5 b = some o := fun b o e => up b o (by rw [eH4, upd_ne (ne_of_none e hlS)]; exact e)
        refine ⟨.ref h'.objs.size, H5, I5, rfl, q H5 _ as up0 hlS (up _ _ (by rw [eH4, upd_same])) ?_⟩
        have key : ∀ (l : List Addr) (u : List (V × V)), l.length = u.length → (∀ (j : Nat) (T : Addr), l[j]? = some T → ∃ x y, u[j]? = some (x, y) ∧ H5 T = some (.tup [x, y])) → Paired (fun (z : V × V) T => H5 T = some (.tup [z.1, z.2])) u l := by
          intro l
          induction l with
          | nil =>
            intro u hl _
            have : u = [] := List.eq_nil_of_length_eq_zero hl.symm
            subst this; exact .nil
          | cons T l ih =>
            intro u hl h
            cases u with
            | nil => simp at hl
            | cons z u =>
              obtain ⟨x, y, g1, g2⟩ := h 0 T rfl
              cases Option.some.inj g1
              exact .cons g2 (ih u (by simpa using hl) fun j c hj => h (j + 1) c hj)
        refine key as (xs.zip ys) (by rw [List.length_zip, la2]; omega) fun j T hj => ?_
        obtain ⟨vs, ⟨j', x, y, g1, g2, g3, rfl⟩, g5⟩ := q5 T (List.mem_of_getElem? hj)
        have hlt : j < as.length := (List.getElem?_eq_some_iff.mp hj).1
        have ej : j = j' := (List.getElem?_inj hlt nd).mp (hj.trans g1.symm)
        subst ej
        refine ⟨x, y, ?_, g5⟩
        rw [List.getElem?_zip_eq_some]
        exact ⟨g2, g3⟩
end
end Tg
end
section
set_option Elab.async false
set_option autoImplicit false
set_option linter.all false
set_option maxRecDepth 100000
set_option maxHeartbeats 4000000
/-! dict(zip(d, t)), for a, b in zip(l, t): l a list, t a tuple, d a dict with tuple keys. -/
namespace Tg
open PySem PySem.Spec PyProof.Rows L2
section
variable {X : Cx} {e e2 : Expr} {ta : TA} {p p2 pos2 pos : Pos}
/-- the entries ys at the keys of kvs -/
def keyed (kvs : List (List Key × V)) (ys : List V) : List (List Key × V) := (kvs.zip ys).map fun z => (z.1.1, z.2)
theorem keyed_length {kvs : List (List Key × V)} {ys : List V} (h : kvs.length = ys.length) : (keyed kvs ys).length = kvs.length := by
  unfold keyed
  rw [List.length_map, List.length_zip]; omega
theorem keyed_keys : ∀ {kvs : List (List Key × V)} {ys : List V}, kvs.length = ys.length → (keyed kvs ys).map (·.1) = kvs.map (·.1)
  | [], _, _ => rfl
  | k :: kvs, [], h => by simp at h
  | k :: kvs, y :: ys, h => by
    show k.1 :: (keyed kvs ys).map (·.1) = k.1 :: kvs.map (·.1)
    rw [keyed_keys (by simpa using h)]
theorem KT_keyed {H : Hp} : ∀ {kvs : List (List Key × V)} {xs : List (List Key × Addr × Value)} {ys : List V} {vs : List Value}, KT H kvs xs → Vals ys vs → kvs.length = ys.length →
    KT H (keyed kvs ys) ((xs.zip vs).map fun z => (z.1.1, z.1.2.1, z.2))
  | _, _, _, _, .nil, _, _ => .nil
  | _, _, _, _, .cons _ _, .nil, h => by simp at h
  | _, _, _, _, .cons r t, .cons rv tv, h => .cons ⟨r.1, r.2.1, rv⟩ (KT_keyed t tv (by simpa using h))
theorem KT_keys {H : Hp} : ∀ {kvs : List (List Key × V)} {xs : List (List Key × Addr × Value)}, KT H kvs xs → kvs.map (·.1) = xs.map (·.1)
  | _, _, .nil => rfl
  | _, _, .cons z t => by rw [List.map_cons, List.map_cons, KT_keys t, z.1]
def tDictZip (K : PySem.W.Frag) (ta : TA) : TE := fun σ H Q => ta σ H fun vs H1 => ∃ (d b : Addr) (kvs : List (List Key × V)) (ys : List V), vs = [.ref d, .ref b] ∧ H1 d = some (.dT kvs) ∧ SqT K H1 b ys ∧ kvs.length = ys.length ∧
  ∀ r, H1 r = none → Q (.ref r) (upd H1 r (.dT (keyed kvs ys)))
theorem pe_dictZip (hc : X.calm = true) (hu : X.A.units + 2 < cLine) (hg : Gl X "dict") (hm : X.mg "dict" = none) (hg2 : Gl X "zip") (hm2 : X.mg "zip" = none) (ha : PA X [e, e2] ta)
    (hs : starEach [e, e2] X.env = (false, eval e X.env) :: starEach [e2] X.env := by rfl) (hpl : (backTo pos2 (starEach [e2] X.env)).any (·.1) = false := by rfl) :
    PE X (.Call (.Name "dict" p) [.Call (.Name "zip" p2) [e, e2] [] pos2] [] pos) (tDictZip X.K ta) := by
  refine ⟨fun pins s σ H Q I h => ?_⟩
  refine Call_ (ld_blt I hg hm PyProof.Rows.boot_dict ?_)
  refine PyProof.Rows.callWith_type1 (PyProof.Rows.args_cons ?_ rfl) rfl rfl
  refine Call_ (ld_blt I hg2 hm2 PyProof.Rows.boot_zip (PyProof.Rows.callWith_type1 (thn (ha.run pos2 pins s σ H _ I h) fun us s1 ⟨vs, H1, I1, r1, q1⟩ => ?_) hs hpl))
  obtain ⟨d, b, kvs, ys, rfl, hd, hqy, hlen, q⟩ := q1
  cases r1 with
  | cons r rr =>
    cases rr with
    | cons r' rr =>
      cases rr
      cases r
      cases r'
      obtain ⟨its2, rv2, tp2, hz2⟩ := I1.tuple hqy
      obtain ⟨hz, hsys, xs, rel, dd⟩ := dt_of I1.hok hd
      obtain ⟨o, es, ep, ho, hx, hdat, hes, hkeys, hnd⟩ := id dd
      have l1 : es.size = xs.length := size_of_entries hes
      have l0 : kvs.length = xs.length := Paired.length rel
      have il2 : its2.toArray.size = ys.length := by rw [List.size_toArray, ← rv2.length]
      have raw : s1.heap.DictRaw d es ep := ⟨o, ho, hx, hdat⟩
      have ld : d < s1.heap.objs.size := raw.lt_size
      have lb : b < s1.heap.objs.size := tp2.lt
      refine zip_begins2 (beginsKeys d hsys es ep) (begins_tuple b its2.toArray) raw (show s1.heap.IsTuple b its2.toArray from tp2) fun h' hz0 hTI hTO h1 h2 hsz hk => ?_
      refine PyProof.Rows.args_nil ?_
      have I2 : Inv X pins σ H1 { s1 with heap := h' } := I1.kept (t' := s1.toks) hk
      have ksz : ∀ x ∈ xs, ∃ o, s1.heap.get? x.2.1 = some o := fun x hx => let ⟨o, _, _, g, _⟩ := hkeys x hx; ⟨o, g⟩
      obtain ⟨N, hN⟩ : ∃ N, N = s1.heap.objs.size := ⟨_, rfl⟩
      have e1 : h'.objs.size = N + 5 := by rw [hN]; exact hsz
      rw [← hN] at hz0 hTI hTO h1 h2 ld lb ⊢
      have S := zip_sep2 (N := N) (fp1 := [d]) (fp2 := [b]) (fun c hc => by rw [List.mem_singleton.mp hc]; exact ld) (fun c hc => by rw [List.mem_singleton.mp hc]; exact lb)
      have fp5 : ∀ c, c ∈ [N + 4, N + 2, N + 3, N, N + 1] → FpOk X pins H1 c := fun c hcm => by
        have hle : s1.heap.objs.size ≤ c := by rw [← hN]; exact five hcm
        exact I1.fpOk hle (I1.hok.fresh hle)
      have xl : xs.length = its2.length := by rw [← l0, hlen, rv2.length]
      have il2' : its2.toArray.size = es.size := by rw [l1, xl, List.size_toArray]
      obtain ⟨ps, eps⟩ : ∃ ps : List (List Key × Addr × Value), ps = (xs.zip its2).map fun z => (z.1.1, z.1.2.1, z.2) := ⟨_, rfl⟩
      have pl : ps.length = xs.length := by rw [eps, List.length_map, List.length_zip]; omega
      have pget : ∀ (i : Nat) (x : List Key × Addr × Value) (v : Value), xs[i]? = some x → its2[i]? = some v → ps[i]? = some (x.1, x.2.1, v) := fun i x v g1 g2 => by
        rw [eps, List.getElem?_map, (List.getElem?_zip_eq_some (z := (x, v))).mpr ⟨g1, g2⟩]
        rfl
      have rel2 : KT H1 (keyed kvs ys) ps := by rw [eps]; exact KT_keyed rel rv2 hlen
      have hkeys2 : ps.map (·.1) = xs.map (·.1) := by
        have a1 : (keyed kvs ys).map (·.1) = ps.map (·.1) := KT_keys rel2
        have a2 : kvs.map (·.1) = xs.map (·.1) := KT_keys rel
        rw [← a1, keyed_keys hlen, a2]
      refine call_dict_pairsH (s := { s1 with heap := h' }) (knd := tupleKind (mixKind X.prog X.w)) (ps := ps)
        (argZip S (fun A hA => drawKeys hA N d (Nat.ne_of_lt ld) es ep) (fun A hA => Draws.tuple hA (N + 1) b (Nat.ne_of_lt (Nat.lt_succ_of_lt lb)) its2.toArray) X.A (I1.ok.hd hc) (fun h st c hc' => ?_) (fun h st c hc' => ?_))
        (I2.ok.hd hc) (show X.A.units + 2 < cLine from hu) ⟨hz0, hTI, ⟨_, _, hTO⟩, ⟨⟨_, h1, rfl, rfl⟩, raw.at fun o e => hk d o e⟩, ⟨⟨_, h2, rfl, rfl⟩, (show s1.heap.IsTuple b its2.toArray from tp2).at fun o e => hk b o e⟩⟩
        ⟨by rw [pl, il2', Nat.min_self, l1], fun i k v e => ?_⟩ (fun h3 k3 x hx => ?_) (by rw [il2', Nat.min_self, l1, ← l0]; exact hz) fun h3 tk dd3 k3 => ?_
      · have e' : c = N ∨ c = d := by simpa using hc'
        rcases e' with q | q
        · rw [q]; obtain ⟨o, g, _⟩ := st.1; exact ⟨o, g⟩
        · rw [q]; obtain ⟨o, g, _⟩ := st.2; exact ⟨o, g⟩
      · have e' : c = N + 1 ∨ c = b := by simpa using hc'
        rcases e' with q | q
        · rw [q]; obtain ⟨o, g, _⟩ := st.1; exact ⟨o, g⟩
        · rw [q]; obtain ⟨o, g, _⟩ := st.2; exact ⟨o, g⟩
      · obtain ⟨⟨hi, hkey⟩, hv⟩ := e
        have ent := entry_at hes i
        have lx : i < xs.length := by omega
        rw [Array.getElem?_eq_getElem hi, List.getElem?_eq_getElem lx] at ent
        have ent' := Option.some.inj ent
        have hv' : its2[i]? = some v := by
          have z : its2.toArray[i]? = some v := hv
          rw [List.getElem?_toArray] at z
          exact z
        refine ⟨_, _, pget i _ v (List.getElem?_eq_getElem lx) hv', ?_⟩
        rw [hkey, ent']
        rfl
      · obtain ⟨i, hi⟩ := List.mem_iff_getElem?.mp hx
        have lx : i < xs.length := by rw [← pl]; exact (List.getElem?_eq_some_iff.mp hi).1
        have lv : i < its2.length := by omega
        have e3 := pget i _ _ (List.getElem?_eq_getElem lx) (List.getElem?_eq_getElem lv)
        rw [hi] at e3
        cases Option.some.inj e3
        obtain ⟨o4, it4, m4, g1, g2, g3, g4⟩ := hkeys xs[i] (List.getElem_mem lx)
        have lt4 : xs[i].2.1 < N := by rw [hN]; exact Heap.lt_size g1
        refine ⟨o4, it4, m4, k3 _ _ ?_ ?_ (hk _ _ g1), g2, g3, g4⟩
        · show xs[i].2.1 ≠ h'.objs.size
          rw [e1]
          exact Nat.ne_of_lt (Nat.lt_of_lt_of_le lt4 (Nat.le_add_right _ _))
        · intro hm
          have e' : xs[i].2.1 = N + 4 ∨ xs[i].2.1 = N + 3 ∨ xs[i].2.1 = N ∨ xs[i].2.1 = N + 1 := by simpa using hm
          have : N ≤ xs[i].2.1 := by
            rcases e' with q | q | q | q
            · rw [q]; exact Nat.le_add_right _ _
            · rw [q]; exact Nat.le_add_right _ _
            · rw [q]; exact Nat.le_refl _
            · rw [q]; exact Nat.le_add_right _ _
          exact absurd (Nat.lt_of_lt_of_le lt4 this) (Nat.lt_irrefl _)
      · have ndp : (ps.map (·.1)).Nodup := by rw [hkeys2]; exact hnd
        rw [storedAllH_nil_of_nodup ps ndp] at dd3
        have I3 : Inv X pins σ H1 { s1 with heap := h3, toks := tk } := Inv.turnedL (s := { s1 with heap := h' }) (h' := h3) (t' := tk) (ch := [N + 4, N + 2, N + 3, N, N + 1]) I2
          (fun c o hcm g => let z := ns5 hcm; k3 c o (by simp; exact ⟨z.1, z.2.2.1, z.2.2.2.1, z.2.2.2.2⟩) g) fp5
        have hle : s1.heap.objs.size ≤ h'.objs.size := by rw [← hN, e1]; exact Nat.le_add_right _ _
        have hfr : H1 h'.objs.size = none := I2.hok.fresh (Nat.le_refl _)
        refine ⟨.ref h'.objs.size, upd H1 h'.objs.size (.dT (keyed kvs ys)), ?_, rfl, q _ hfr⟩
        refine I3.take (h' := h3) (t' := tk) (fun b o _ e => e) (I1.fpOk hle (I1.hok.fresh hle)) ⟨by rw [keyed_length hlen]; exact hz, ?_, ps, ?_, ?_⟩
        · have := I1.big
          exact beq_eq_false_iff_ne.mpr (Nat.ne_of_gt (Nat.lt_of_lt_of_le this hle))
        · refine Paired.mapP rel2 fun p q ⟨z1, z2, z3⟩ => ⟨z1, ?_, z3⟩
          rw [upd_ne (ne_of_none z2 hfr)]
          exact z2
        · obtain ⟨o, es, ep, g1, g2, g3, g4, _, g5⟩ := dd3
          exact ⟨o, es, ep, g1, g2, g3, g4, g5⟩
end
/-! ### for a, b in zip(list, tuple) -/
def Itlt (K : PySem.W.Frag) (a b : Addr) : It :=
  ⟨fun i H => ∃ (xs ys : List V) (x y : V), SqL K H a xs ∧ SqT K H b ys ∧ xs[i]? = some x ∧ ys[i]? = some y,
    fun i H v H' => ∃ T x y, v = .ref T ∧ H T = none ∧ H' = upd H T (.tup [x, y]) ∧ (∀ xs, SqL K H a xs → xs[i]? = some x) ∧ ∀ ys, SqT K H b ys → ys[i]? = some y,
    fun i H => ∃ xs ys : List V, SqL K H a xs ∧ SqT K H b ys ∧ i ≤ xs.length ∧ i ≤ ys.length ∧ (i = xs.length ∨ i = ys.length)⟩
theorem turn_zipLT {P : Program} {w : World} {K : PySem.W.Frag} {elts : List Expr} {kk : Nat} {tpos : Pos} {a b N : Addr} (la : a < N) (lb : b < N) :
    Turn P w K (.Tuple elts kk tpos) (Itlt K a b) [N + 4, N + 2, N + 3, N, N + 1] (N + 4) (fun i h => IsZip h (N + 4) (N + 2) (N + 3) .none ∧ IsTupOf2 h (N + 2) (.ref N) (.ref (N + 1)) ∧ (∃ x y, IsTupOf2 h (N + 3) x y) ∧ h.IsListIter N a i ∧ h.IsTupleIter (N + 1) b i) where
  mem := by simp
  obj := fun i h st c hc => by
    obtain ⟨hz, hTI, ⟨x, y, hTO⟩, ⟨o1, e1, _, d1⟩, ⟨o2, e2, _, d2⟩⟩ := st
    have e' : c = N + 4 ∨ c = N + 2 ∨ c = N + 3 ∨ c = N ∨ c = N + 1 := by simpa using hc
    rcases e' with q | q | q | q | q
    · rw [q]; exact ⟨_, hz, fun v q => nomatch q⟩
    · rw [q]; exact ⟨_, hTI, fun v q => nomatch q⟩
    · rw [q]; exact ⟨_, hTO, fun v q => nomatch q⟩
    · rw [q]; exact ⟨o1, e1, fun v q => by rw [d1] at q; cases q⟩
    · rw [q]; exact ⟨o2, e2, fun v q => by rw [d2] at q; cases q⟩
  keep := fun i h h' st k => by
    obtain ⟨hz, hTI, ⟨x, y, hTO⟩, h1, h2⟩ := st
    exact ⟨k _ (by simp) _ hz, k _ (by simp) _ hTI, ⟨x, y, k _ (by simp) _ hTO⟩, h1.at fun o q => k _ (by simp) o q, h2.at fun o q => k _ (by simp) o q⟩
  item := by
    intro X hP hw hK hc i pins s σ H E I hf st hg
    subst hP hw hK
    obtain ⟨hz, hTI, ⟨x0, y0, hTO⟩, h1, h2⟩ := st
    obtain ⟨xs, ys, x, y, hqx, hqy, hx, hy⟩ := hg
    obtain ⟨its, rv, p, _⟩ := I.list hqx
    obtain ⟨its2, rv2, p2, _⟩ := I.tuple hqy
    obtain ⟨u, hu, ru⟩ := rv.get hx
    obtain ⟨u2, hu2, ru2⟩ := rv2.get hy
    have hzl : N + 4 < s.heap.objs.size := Heap.lt_size hz
    have S := zip_sep2 (N := N) (fp1 := [a]) (fp2 := [b]) (fun c hc => by rw [List.mem_singleton.mp hc]; exact la) (fun c hc => by rw [List.mem_singleton.mp hc]; exact lb)
    have hh : X.A.handled = none := I.ok.hd hc
    have g1 : i < its.toArray.size := by rw [List.size_toArray]; exact (List.getElem?_eq_some_iff.mp hu).1
    have g2 : i < its2.toArray.size := by rw [List.size_toArray]; exact (List.getElem?_eq_some_iff.mp hu2).1
    refine wpAny_pyNext_zipD2_item S (Draws.list (A := X.A.in1) hh N a (Nat.ne_of_lt la) its.toArray) (Draws.tuple (A := X.A.in1) hh (N + 1) b (Nat.ne_of_lt (Nat.lt_succ_of_lt lb)) its2.toArray) hz hTI hTO ⟨h1, p.isList⟩ ⟨h2, p2⟩ g1 g2 fun x1 x2 h' tk px py z' TO' st1 st2 hT hsz hk => ?_
    have ex : x1 = u := by
      have q : its.toArray[i]? = some x1 := px
      rw [List.getElem?_toArray, hu] at q
      exact (Option.some.inj q).symm
    have ey : x2 = u2 := by
      have q : its2.toArray[i]? = some x2 := py
      rw [List.getElem?_toArray, hu2] at q
      exact (Option.some.inj q).symm
    subst ex ey
    refine ⟨_, rfl, wpAny_letOwnedTupleGo_zip (s := { s with heap := h', toks := tk }) z' fun h'' z'' sb => ?_⟩
    have hT2 : h''.get? s.heap.objs.size = some { cls := .type "tuple", data := .seq #[x1, x2] } := (sb.2 _ (Nat.ne_of_gt hzl)).trans hT
    have new : ObjOk X.prog X.w (upd H s.heap.objs.size (.tup [x, y])) h'' s.heap.objs.size (.tup [x, y]) :=
      ⟨by show 2 ≤ sizeLine; decide, [x1, x2], .cons ru (.cons ru2 .nil), ⟨_, hT2, rfl, _, rfl⟩⟩
    have I1 : Inv X pins σ (upd H s.heap.objs.size (.tup [x, y])) { s with heap := h'', toks := tk } :=
      I.turnedNew (t' := tk) (ch := [N + 4, N + 2, N + 3, N, N + 1]) (fun c o hb q => let z := ns5 hb; (sb.2 c z.1).trans (hk c o z.1 z.2.2.1 z.2.2.2.1 z.2.2.2.2 q)) hf (Nat.le_refl _) new
    refine ⟨.ref s.heap.objs.size, _, I1, rfl, ⟨_, x, y, rfl, I.hok.fresh (Nat.le_refl _), rfl, fun l hl => by rw [I.list_inj hl hqx]; exact hx, fun l hl => by rw [I.tuple_inj hl hqy]; exact hy⟩, ⟨z'', ?_, ⟨x1, x2, ?_⟩, ?_, ?_⟩, fun c hcm => ?_⟩
    · exact (sb.2 _ S.TIz).trans (hk _ _ S.TIz S.TITO S.TIi1 S.TIi2 hTI)
    · exact (sb.2 _ S.TOz).trans TO'
    · exact st1.1.at fun o q => (sb.2 _ (Ne.symm S.zi1)).trans q
    · exact st2.1.at fun o q => (sb.2 _ (Ne.symm S.zi2)).trans q
    · have hlt : c < s.heap.objs.size := by
        have e' : c = N + 4 ∨ c = N + 2 ∨ c = N + 3 ∨ c = N ∨ c = N + 1 := by simpa using hcm
        rcases e' with q | q | q | q | q
        · rw [q]; exact hzl
        · rw [q]; exact Heap.lt_size hTI
        · rw [q]; exact Heap.lt_size hTO
        · rw [q]; obtain ⟨_, e1, _⟩ := h1; exact Heap.lt_size e1
        · rw [q]; obtain ⟨_, e2, _⟩ := h2; exact Heap.lt_size e2
      rw [upd_ne (Nat.ne_of_lt hlt)]
      exact (hf c hcm).1
  done := by
    intro X hP hw hK hc i pins s σ H E I hf st hg
    subst hP hw hK
    obtain ⟨hz, hTI, ⟨x0, y0, hTO⟩, h1, h2⟩ := st
    obtain ⟨xs, ys, hqx, hqy, m1, m2, hend⟩ := hg
    obtain ⟨its, rv, p, _⟩ := I.list hqx
    obtain ⟨its2, rv2, p2, _⟩ := I.tuple hqy
    have S := zip_sep2 (N := N) (fp1 := [a]) (fp2 := [b]) (fun c hc => by rw [List.mem_singleton.mp hc]; exact la) (fun c hc => by rw [List.mem_singleton.mp hc]; exact lb)
    have hh : X.A.handled = none := I.ok.hd hc
    have l1 : its.toArray.size = xs.length := by rw [List.size_toArray, ← rv.length]
    have l2 : its2.toArray.size = ys.length := by rw [List.size_toArray, ← rv2.length]
    exact wpAny_pyNext_zipD2_end S (Draws.list (A := X.A.in1) hh N a (Nat.ne_of_lt la) its.toArray) (Draws.tuple (A := X.A.in1) hh (N + 1) b (Nat.ne_of_lt (Nat.lt_succ_of_lt lb)) its2.toArray) hz hTI hTO ⟨h1, p.isList⟩ ⟨h2, p2⟩ (by omega) (by omega) (by omega)
      fun h' tk hk => ⟨rfl, I.turnedL (t' := tk) (ch := [N + 4, N + 2, N + 3, N, N + 1]) (fun c o hb q => let z := ns5 hb; hk c o z.1 z.2.2.1 z.2.2.2.1 z.2.2.2.2 q) hf⟩
  self := fun A i s Q E st h => wpAny_pyIter_zip st.1 h
def iZipLT (K : PySem.W.Frag) (ta : TA) : TI := fun σ H R => ta σ H fun vs H1 => ∃ a b xs ys, vs = [.ref a, .ref b] ∧ SqL K H1 a xs ∧ SqT K H1 b ys ∧ R (Itlt K a b) H1
theorem pi_zipLT {X : Cx} {e e2 : Expr} {ta : TA} {p pos tpos : Pos} {elts : List Expr} {kk : Nat} (hg : Gl X "zip") (hm : X.mg "zip" = none) (ha : PA X [e, e2] ta)
    (hs : starEach [e, e2] X.env = (false, eval e X.env) :: starEach [e2] X.env := by rfl) (hpl : (backTo pos (starEach [e2] X.env)).any (·.1) = false := by rfl) :
    PI X (.Tuple elts kk tpos) (.Call (.Name "zip" p) [e, e2] [] pos) (iZipLT X.K ta) := by
  refine ⟨fun pins s σ H R I h => ?_⟩
  refine Call_ (ld_blt I hg hm PyProof.Rows.boot_zip (PyProof.Rows.callWith_type1 (thn (ha.run pos pins s σ H _ I h) fun us s1 ⟨vs, H1, I1, r1, q1⟩ => ?_) hs hpl))
  obtain ⟨a, b, xs, ys, rfl, hqx, hqy, q⟩ := q1
  cases r1 with
  | cons r rr =>
    cases rr with
    | cons r' rr =>
      cases rr
      cases r
      cases r'
      obtain ⟨its, rv, p1, _⟩ := I1.list hqx
      obtain ⟨its2, rv2, tp2, _⟩ := I1.tuple hqy
      refine zip_begins2 (begins_list a its.toArray) (begins_tuple b its2.toArray) p1.isList (show s1.heap.IsTuple b its2.toArray from tp2) fun h' hz hTI hTO h1 h2 hsz hk => wpAny_pyIter_zip hz ?_
      have I2 : Inv X pins σ H1 { s1 with heap := h' } := I1.kept (t' := s1.toks) hk
      refine ⟨s1.heap.objs.size + 4, [s1.heap.objs.size + 4, s1.heap.objs.size + 2, s1.heap.objs.size + 3, s1.heap.objs.size, s1.heap.objs.size + 1], _, _, H1, rfl, I2, turn_zipLT p1.lt tp2.lt, ⟨hz, hTI, ⟨_, _, hTO⟩, ⟨_, h1, rfl, rfl⟩, ⟨_, h2, rfl, rfl⟩⟩, fun c hcm => ?_, q⟩
      exact I1.fpOk (five hcm) (I1.hok.fresh (five hcm))
theorem walk_zipLT {K : PySem.W.Frag} {a b : Addr} {xs ys : List V} {n : Nat} (hn : n = min xs.length ys.length) : Walk (Itlt K a b) n (fun H => SqL K H a xs ∧ SqT K H b ys)
    (fun i H v H' => ∃ T x y, v = .ref T ∧ H T = none ∧ H' = upd H T (.tup [x, y]) ∧ xs[i]? = some x ∧ ys[i]? = some y) :=
  ⟨fun i H hi ⟨q1, q2⟩ => ⟨xs, ys, xs[i]'(by omega), ys[i]'(by omega), q1, q2, List.getElem?_eq_getElem _, List.getElem?_eq_getElem _⟩,
    fun H ⟨q1, q2⟩ => ⟨xs, ys, q1, q2, by omega, by omega, by omega⟩,
    fun i H x H' hi ⟨q1, q2⟩ ⟨T, u, v, e1, e2, e3, f1, f2⟩ => ⟨T, u, v, e1, e2, e3, f1 xs q1, f2 ys q2⟩⟩
end Tg
end
section
set_option Elab.async false
set_option autoImplicit false
set_option linter.all false
set_option maxRecDepth 100000
set_option maxHeartbeats 4000000
/-! == and != of dicts whose keys are tuples: unlike lengths, or all entries alike. -/
namespace Tg
open PySem PySem.Spec PyProof.Rows
section
variable {prog : Program} {w : World} {K : Type} [DecidableEq K] {knd : HeapKind prog w K} {A : Around} {E : Value → Shared → Prop} {s : Shared}
theorem pairsAlike {nm : String} {a b : Addr} {ka kb : List (K × Addr × Value)} {Q : Bool → Shared → Prop} (hu : knd.room A) (ha : (a == sysModules) = false) (hb : (b == sysModules) = false)
    (da : s.heap.DictOfH knd a ka) (db : s.heap.DictOfH knd b kb)
    (h : (ka.length ≠ kb.length ∧ Q false s) ∨ (ka.length = kb.length ∧ (∀ x ∈ ka, ∃ p, (x.1, p) ∈ kb ∧ SeqAt.EqAt A s x.2.2 p.2 true) ∧ Q true s)) :
    wpAny (model prog w) A (Builtin.Dict.samePairs nm a b) Q E s := by
  obtain ⟨oa, es, ep, hoa, _, hda, hka, hia, hna⟩ := da
  obtain ⟨ob, es', ep', hob, _, hdb, hkb, hib, hnb⟩ := db
  have hla : es.size = ka.length := size_of_entries hka
  have hlb : es'.size = kb.length := size_of_entries hkb
  unfold Builtin.Dict.samePairs Builtin.Dict.showsAll
  rw [if_neg (show ¬ (a == sysModules) = true by rw [ha]; exact Bool.false_ne_true), if_neg (show ¬ (b == sysModules) = true by rw [hb]; exact Bool.false_ne_true)]
  refine wpAny_bind (wpAny_pure (wpAny_bind (wpAny_pure ?_)))
  refine wpAny_bind (wpAny_dictEntries hoa hda ?_)
  dsimp only
  refine wpAny_bind (wpAny_dictEntries hob hdb ?_)
  rcases h with ⟨hne, q⟩ | ⟨hl, all, q⟩
  · rw [if_pos (by simpa [hla, hlb] using hne)]
    exact wpAny_bind (wpAny_rule (wpAny_pure q))
  · have hsz : es.size = es'.size := by omega
    rw [if_neg (by rw [hsz]; simp)]
    refine wpAny_bind (wpAny_dictEpoch hoa hda ?_)
    refine wpAny_bind ?_
    rw [Std.Legacy.Range.forIn_eq_forIn_range']
    simp only [Std.Legacy.Range.size, Nat.sub_zero, Nat.add_sub_cancel, Nat.div_one]
    refine wpAny_forIn_list _ (fun rest z s' => s' = s ∧ z = (none, ()) ∧ ∃ i, rest = List.range' i (es.size - i) ∧ i ≤ es.size) _ ?_ ?_ _ _ ⟨rfl, rfl, 0, by simp, Nat.zero_le _⟩
    · rintro x rest z s' ⟨rfl, rfl, i, hr, hi⟩
      have hlt : i < es.size := by
        rcases Nat.lt_or_ge i es.size with h | h
        · exact h
        · rw [Nat.sub_eq_zero_of_le h] at hr; simp at hr
      obtain ⟨rfl, hrest⟩ : x = i ∧ rest = List.range' (i + 1) (es.size - (i + 1)) := by
        have e : es.size - i = (es.size - (i + 1)) + 1 := by omega
        rw [e, List.range'_succ] at hr
        injection hr with h1 h2
        exact ⟨h1, h2⟩
      refine wpAny_bind (wpAny_dictEntries hoa hda ?_)
      have hx : x < ka.length := by omega
      have ent := entry_at hka x
      rw [Array.getElem?_eq_getElem hlt, List.getElem?_eq_getElem hx] at ent
      have ent' : es[x] = entryOfKey knd ka[x] := Option.some.inj ent
      rw [Array.getElem?_eq_getElem hlt, ent']
      obtain ⟨p, hp, heq⟩ := all ka[x] (List.getElem_mem hx)
      obtain ⟨j, hj⟩ := List.mem_iff_getElem?.mp hp
      have hjl : j < es'.size := by rw [hlb]; exact (List.getElem?_eq_some_iff.mp hj).1
      have entb := entry_at hkb j
      rw [Array.getElem?_eq_getElem hjl, hj] at entb
      have entb' : es'[j] = entryOfKey knd (ka[x].1, p) := Option.some.inj entb
      show wpAny _ _ (holding [.ref ka[x].2.1, ka[x].2.2] _ >>= _) _ _ _
      refine wpAny_bind (wpAny_holding (wpAny_bind (wpAny_dictFind_heap hu (hia _ (List.getElem_mem hx)) hob hdb hkb hib hnb (fun no => absurd hj (no j p)) fun j' p' hj' => ?_)))
      have ej : j' = j := (List.getElem?_inj (i := j') (by rw [List.length_map]; exact (List.getElem?_eq_some_iff.mp hj').1) hnb).mp (by rw [List.getElem?_map, List.getElem?_map, hj', hj]; rfl)
      subst ej
      refine wpAny_bind (wpAny_dictEntries hob hdb ?_)
      rw [Array.getElem?_eq_getElem hjl, entb']
      refine wpAny_holding (heq prog w _ _ ?_)
      show wpAny _ _ (if (!true) = true then _ else _) _ _ _
      rw [if_neg (by decide)]
      refine wpAny_bind (wpAny_dictEpoch hoa hda ?_)
      rw [if_neg (by simp)]
      exact wpAny_pure ⟨rfl, rfl, x + 1, hrest, hlt⟩
    · rintro z s' ⟨rfl, rfl, i, hr, hi⟩
      exact wpAny_pure q
theorem dictEqH {a b : Addr} {ka kb : List (K × Addr × Value)} {Q : Value → Shared → Prop} (hu' : knd.room A.in1) (hu : A.units < cLine) (ha : (a == sysModules) = false) (hb : (b == sysModules) = false)
    (da : s.heap.DictOfH knd a ka) (db : s.heap.DictOfH knd b kb)
    (h : (ka.length ≠ kb.length ∧ Q (.bool false) s) ∨ (ka.length = kb.length ∧ (∀ x ∈ ka, ∃ p, (x.1, p) ∈ kb ∧ SeqAt.EqAt A.in1 s x.2.2 p.2 true) ∧ Q (.bool true) s)) :
    wpAny (model prog w) A (compareOp .Eq (.ref a) (.ref b)) Q E s := by
  refine wpAny_richCompare_same_room (op := .Eq) da.typeIs db.typeIs PySem.F.slot_dict_eq (wpAny_call_entry PySem.F.slot_dict_eq da.typeIs PySem.F.entry_dict_eq ?_ (PySem.F.args_dict_eq_2 _ _)) hu
  show wpAny _ _ (Builtin.Dict.dictSlotArgs "__eq__" ⟨[.ref a, .ref b], []⟩ >>= _) _ _ s
  refine wpAny_bind ?_
  unfold Builtin.Dict.dictSlotArgs
  refine wpAny_bind (wpAny_notOrdered_dict da.typeIs ?_)
  show wpAny _ _ (pure (Value.ref a, Value.ref b)) _ _ s
  refine wpAny_pure ?_
  refine wpAny_bind (wpAny_isInstance (T := "dict") db.typeIs PySem.F.sub_dict_dict ?_)
  simp only [Bool.not_true, Bool.false_eq_true, if_false]
  refine wpAny_bind (wpAny_pure (wpAny_bind (wpAny_pure ?_)))
  refine wpAny_bind (pairsAlike hu' ha hb da db ?_)
  rcases h with ⟨hne, q⟩ | ⟨hl, all, q⟩
  · exact .inl ⟨hne, wpAny_pure ⟨_, rfl, (fun x => nomatch x), q⟩⟩
  · exact .inr ⟨hl, all, wpAny_pure ⟨_, rfl, (fun x => nomatch x), q⟩⟩
theorem dictNeH {a b : Addr} {ka kb : List (K × Addr × Value)} {Q : Value → Shared → Prop} (hu' : knd.room A.in1) (hu : A.units < cLine) (ha : (a == sysModules) = false) (hb : (b == sysModules) = false)
    (da : s.heap.DictOfH knd a ka) (db : s.heap.DictOfH knd b kb)
    (h : (ka.length ≠ kb.length ∧ Q (.bool true) s) ∨ (ka.length = kb.length ∧ (∀ x ∈ ka, ∃ p, (x.1, p) ∈ kb ∧ SeqAt.EqAt A.in1 s x.2.2 p.2 true) ∧ Q (.bool false) s)) :
    wpAny (model prog w) A (compareOp .NotEq (.ref a) (.ref b)) Q E s := by
  refine wpAny_richCompare_same_room (op := .NotEq) da.typeIs db.typeIs PySem.F.slot_dict_ne (wpAny_call_entry PySem.F.slot_dict_ne da.typeIs PySem.F.entry_dict_ne ?_ (PySem.F.args_dict_ne_2 _ _)) hu
  show wpAny _ _ (Builtin.Dict.dictSlotArgs "__ne__" ⟨[.ref a, .ref b], []⟩ >>= _) _ _ s
  refine wpAny_bind ?_
  unfold Builtin.Dict.dictSlotArgs
  refine wpAny_bind (wpAny_notOrdered_dict da.typeIs ?_)
  show wpAny _ _ (pure (Value.ref a, Value.ref b)) _ _ s
  refine wpAny_pure ?_
  refine wpAny_bind (wpAny_isInstance (T := "dict") db.typeIs PySem.F.sub_dict_dict ?_)
  simp only [Bool.not_true, Bool.false_eq_true, if_false]
  refine wpAny_bind (wpAny_pure (wpAny_bind (wpAny_pure ?_)))
  refine wpAny_bind (pairsAlike hu' ha hb da db ?_)
  rcases h with ⟨hne, q⟩ | ⟨hl, all, q⟩
  · exact .inl ⟨hne, wpAny_pure ⟨_, rfl, (fun x => nomatch x), q⟩⟩
  · exact .inr ⟨hl, all, wpAny_pure ⟨_, rfl, (fun x => nomatch x), q⟩⟩
end
end Tg
namespace Tg
open PySem PySem.Spec PyProof.Rows L2
section
variable {X : Cx}
/-- alike: of one length, and what the first holds the second holds -/
def Alike (t u : T) : Prop := t.length = u.length ∧ ∀ e ∈ t, e ∈ u
def rEqT : R2 := fun x y H Q => ∃ (a b : Addr) (t u : T), x = .ref a ∧ y = .ref b ∧ H a = some (.dT (et t)) ∧ H b = some (.dT (et u)) ∧ ((t.length ≠ u.length ∧ Q (.bl false) H) ∨ (Alike t u ∧ Q (.bl true) H))
def rNeT : R2 := fun x y H Q => ∃ (a b : Addr) (t u : T), x = .ref a ∧ y = .ref b ∧ H a = some (.dT (et t)) ∧ H b = some (.dT (et u)) ∧ ((t.length ≠ u.length ∧ Q (.bl true) H) ∨ (Alike t u ∧ Q (.bl false) H))
theorem kt_mem {H : Hp} : ∀ {t : T} {xs : List (List Key × Addr × Value)}, KT H (et t) xs → ∀ e ∈ t, ∃ p, (ek e.1, p) ∈ xs ∧ ∃ k, p.2 = Value.int e.2 k
  | [], _, _, e, he => by simp at he
  | e0 :: t, _, .cons (b := b) r tl, e, he => by
    rcases List.mem_cons.mp he with rfl | he
    · obtain ⟨z1, _, z3⟩ := r
      obtain ⟨k, hk⟩ := z3
      refine ⟨b.2, ?_, k, hk⟩
      have : (ek e.1, b.2) = b := by rw [show ek e.1 = b.1 from z1]
      rw [this]
      exact List.mem_cons_self
    · obtain ⟨p, hp, q⟩ := kt_mem tl e he
      exact ⟨p, List.mem_cons_of_mem _ hp, q⟩
theorem kt_src {H : Hp} : ∀ {t : T} {xs : List (List Key × Addr × Value)}, KT H (et t) xs → ∀ x ∈ xs, ∃ e ∈ t, x.1 = ek e.1 ∧ ∃ k, x.2.2 = Value.int e.2 k
  | [], _, .nil, x, hx => by simp at hx
  | e0 :: t, _, .cons r tl, x, hx => by
    rcases List.mem_cons.mp hx with rfl | hx
    · obtain ⟨z1, _, z3⟩ := r
      obtain ⟨k, hk⟩ := z3
      exact ⟨e0, List.mem_cons_self, z1.symm, k, hk⟩
    · obtain ⟨e, he, q⟩ := kt_src tl x hx
      exact ⟨e, List.mem_cons_of_mem _ he, q⟩
theorem alike_run {pins : List (Addr × Obj)} {σ : L2.St} {H : Hp} {s : Shared} (A : Around) {t u : T} {xs ys : List (List Key × Addr × Value)} (r1 : KT H (et t) xs) (r2 : KT H (et u) ys) (h : Alike t u) :
    ∀ x ∈ xs, ∃ p, (x.1, p) ∈ ys ∧ SeqAt.EqAt A s x.2.2 p.2 true := fun x hx => by
  obtain ⟨e, he, ex, k, ek'⟩ := kt_src r1 x hx
  obtain ⟨p, hp, j, ej⟩ := kt_mem r2 e (h.2 e he)
  refine ⟨p, by rw [ex]; exact hp, ?_⟩
  rw [ek', ej]
  exact (SeqAt.EqAt.int_int e.2 k e.2 j).cast (by simp)
theorem op_eqT (hu : X.A.units + 1 < cLine) : OpR X (compareOp .Eq) rEqT := by
  intro pins s σ H x y v u Q I rx ry h
  obtain ⟨a, b, t, u', rfl, rfl, ha, hb, h⟩ := h
  obtain rfl : v = Value.ref a := rx
  obtain rfl : u = Value.ref b := ry
  obtain ⟨_, sa, xs, r1, d1⟩ := dt_of I.hok ha
  obtain ⟨_, sb, ys, r2, d2⟩ := dt_of I.hok hb
  have l1 : xs.length = t.length := (Paired.length r1).symm.trans (et_length t)
  have l2 : ys.length = u'.length := (Paired.length r2).symm.trans (et_length u')
  refine dictEqH (knd := tupleKind (mixKind X.prog X.w)) (show X.A.units + 1 < cLine from hu) (by omega) sa sb d1 d2 ?_
  rcases h with ⟨hne, q⟩ | ⟨al, q⟩
  · exact .inl ⟨by omega, ⟨.bl false, H, I, rfl, q⟩⟩
  · exact .inr ⟨by have := al.1; omega, alike_run (pins := pins) (σ := σ) _ r1 r2 al, ⟨.bl true, H, I, rfl, q⟩⟩
theorem op_neT (hu : X.A.units + 1 < cLine) : OpR X (compareOp .NotEq) rNeT := by
  intro pins s σ H x y v u Q I rx ry h
  obtain ⟨a, b, t, u', rfl, rfl, ha, hb, h⟩ := h
  obtain rfl : v = Value.ref a := rx
  obtain rfl : u = Value.ref b := ry
  obtain ⟨_, sa, xs, r1, d1⟩ := dt_of I.hok ha
  obtain ⟨_, sb, ys, r2, d2⟩ := dt_of I.hok hb
  have l1 : xs.length = t.length := (Paired.length r1).symm.trans (et_length t)
  have l2 : ys.length = u'.length := (Paired.length r2).symm.trans (et_length u')
  refine dictNeH (knd := tupleKind (mixKind X.prog X.w)) (show X.A.units + 1 < cLine from hu) (by omega) sa sb d1 d2 ?_
  rcases h with ⟨hne, q⟩ | ⟨al, q⟩
  · exact .inl ⟨by omega, ⟨.bl true, H, I, rfl, q⟩⟩
  · exact .inr ⟨by have := al.1; omega, alike_run (pins := pins) (σ := σ) _ r1 r2 al, ⟨.bl false, H, I, rfl, q⟩⟩
end
end Tg
end
section
set_option Elab.async false
set_option autoImplicit false
set_option linter.all false
set_option maxRecDepth 100000
set_option maxHeartbeats 4000000
/-! {k: n, ..}, the keys tuples of ints, no key twice. -/
namespace Tg
open PySem PySem.Spec PyProof.Rows L2
/-- entries by the addresses of their keys -/
abbrev Zs := List (Addr × K × Int)
def tDispT (trs : List (TE × TE)) : TE := fun σ H Q => ∀ p, H p = none → tPairs trs σ (upd H p (.dT [])) fun ps H2 => H2 p = some (.dT []) ∧ ∃ zs : Zs, ps = zs.map (fun z => (V.ref z.1, V.int z.2.2)) ∧ (∀ z ∈ zs, H2 z.1 = some (.tup (z.2.1.map V.int))) ∧
  (zs.map (·.2.1)).Nodup ∧ zs.length ≤ 15 ∧ Q (.ref p) (upd H2 p (.dT (et (zs.map (·.2)))))
theorem vv_zs {P : Program} {w : World} {H : Hp} {h : Heap} (ok : HOk P w H h) : ∀ {zs : Zs} {vs : List (Value × Value)}, VV (zs.map (fun z => (V.ref z.1, V.int z.2.2))) vs → (∀ z ∈ zs, H z.1 = some (.tup (z.2.1.map V.int))) →
    ∃ xs : List (List Key × Addr × Value), CarriesH (tupleKind (mixKind P w)) h vs xs ∧ KT H (et (zs.map (·.2))) xs ∧ xs.map (·.1) = zs.map fun z => ek z.2.1
  | [], _, r, _ => by
    cases r
    exact ⟨[], True.intro, .nil, rfl⟩
  | z :: zs, _, r, hz => by
    cases r with
    | @cons a b as bs h1 t =>
      obtain ⟨xs, c, rel, e⟩ := vv_zs ok t fun y hy => hz y (List.mem_cons_of_mem _ hy)
      have ht : H z.1 = some (.tup ((ek z.2.1).map kV)) := by rw [ek_kV]; exact hz z List.mem_cons_self
      obtain ⟨b1, b2⟩ := b
      obtain ⟨q1, q2⟩ := h1
      refine ⟨(ek z.2.1, z.1, b2) :: xs, ⟨q1, rfl, key_of ok ht, c⟩, .cons ⟨rfl, ht, q2⟩ rel, ?_⟩
      rw [List.map_cons, List.map_cons, e]
theorem pe_dispT {X : Cx} {pos : Pos} {keys : List (Option Expr)} {values : List Expr} {trs : List (TE × TE)} (hu : X.A.units < cLine) (h : PPs X pos keys values trs) (hall : keys.all (·.isSome) = true) (hl : keys.length = values.length) (h0 : keys ≠ [])
    (h15 : keys.length ≤ 15) : PE X (.Dict keys values pos) (tDispT trs) := by
  refine ⟨fun pins s σ H Q I q => ?_⟩
  have hn := I.hok.fresh (Nat.le_refl s.heap.objs.size)
  have I1 := I.laid (a := s.heap.objs.size) (o := .dT []) (h' := s.heap.push { cls := .type "dict", data := .dict #[] }) (t' := s.toks) (fun _ _ q => Heap.get?_push_of_some _ q) (Nat.le_refl _) (dt_empty s.heap I.big)
  have hpl := pairTrees_length keys values X.env pos hall hl
  have hp0 : pairTrees keys values X.env pos ≠ [] := fun he => by
    rw [he] at hpl
    exact h0 (List.length_eq_zero_iff.mp hpl.symm)
  rw [arm_eval_Dict, zip_pairTrees keys values X.env pos hall hl, dictDisplay_pairs (pairTrees keys values X.env pos) hp0 (by omega)]
  refine wpAny_bind (wpAny_standAt (wpAny_bind (wpAny_subDictH (knd := tupleKind (mixKind X.prog X.w)) hu (by omega) (thn (h.run pins _ σ _ _ I1 (q _ hn)) fun ws s2 ⟨ps, H2, I2, rel, e, zs, ep, hz, nd, l15, q2⟩ => ?_))))
  subst ep
  obtain ⟨xs, c, rk, ex⟩ := vv_zs I2.hok rel hz
  obtain ⟨z, hsys, ys, r0, dd⟩ := dt_of I2.hok e
  cases r0
  refine ⟨xs, c, dd, fun h' tk dd' hs => wpAny_pure ⟨.ref s.heap.objs.size, _, ?_, rfl, q2⟩⟩
  have ndx : (xs.map (·.1)).Nodup := by
    rw [ex, show (zs.map fun z => ek z.2.1) = (zs.map (·.2.1)).map ek from by rw [List.map_map]; rfl]
    exact nd.map ek fun a b hab he => hab (ek_inj he)
  rw [storedAllH_nil_of_nodup xs ndx] at dd'
  have lz : zs.length = xs.length := by
    have := congrArg List.length ex
    simpa using this.symm
  have lw : xs.length = ws.length := c.length
  obtain ⟨o, es, ep, g1, g2, g3, g4, g5, g6⟩ := dd'
  refine d_write I2 (by rw [e]; exact True.intro) hs ⟨o, g1⟩ ⟨?_, hsys, xs, ?_, o, es, ep, g1, g2, g3, g4, g6⟩
  · rw [et_length, List.length_map]
    rw [sizeLine_eq]; omega
  · refine Paired.mapP rk fun p q ⟨z1, z2, z3⟩ => ⟨z1, ?_, z3⟩
    rw [upd_ne (ne_of z2 e (fun z => nomatch z))]
    exact z2
end Tg
end
section
set_option Elab.async false
set_option autoImplicit false
set_option linter.all false
set_option maxRecDepth 100000
set_option maxHeartbeats 4000000
/-! The own error: its __init__ (super's first, then a field), a new one made. -/
namespace Tg.RX
open PySem PySem.W PySem.Calls PyProof.Rows PySem.HandSPX
abbrev aeTail : List Value := [.type "ArithmeticError", .type "Exception", .type "BaseException", .type "object"]
abbrev rField : Str := "reason"
abbrev rInit : Str := "__init__"
/-! ### the text of __init__, by positions -/
def iA (p1 p2 : Pos) : Arguments := { posonlyargs := [], args := [{ arg := "self", annotation := none, pos := p1 }, { arg := "reason", annotation := none, pos := p2 }], vararg := none, kwonlyargs := [], kw_defaults := [], kwarg := none, defaults := [] }
def iB (txt : Str) : List Stmt :=
  [.Expr (.Call (.Attribute (.Call (.Name "super" ⟨30, 8, 30, 13⟩) [] [] ⟨30, 8, 30, 15⟩) "__init__" ⟨30, 8, 30, 24⟩) [.Constant (.str txt) 0 ⟨30, 25, 30, 56⟩] [] ⟨30, 8, 30, 57⟩) ⟨30, 8, 30, 57⟩,
    .Assign [.Attribute (.Name "self" ⟨31, 8, 31, 12⟩) "reason" ⟨31, 8, 31, 19⟩] (.Name "reason" ⟨31, 22, 31, 28⟩) ⟨31, 8, 31, 28⟩]
def iS : Scope := { kind := .function, names := [(PySem.Str.ofString "self", .local), (PySem.Str.ofString "reason", .local), (PySem.Str.ofString "__class__", .free), (PySem.Str.ofString "super", .globalImplicit)], isGenerator := false, isCoroutine := false, more := [] }
/-- what the written part says of the class at C, of its __init__ at fI -/
structure Txt (K : Frag) (file : Str) (C fI : Addr) : Prop where
  cls : ∃ nm q N bs sn sub ab col dd k0 k1 k2 k3 k5, K.lookup C = some (excClassObj nm q C N bs aeTail true sn sub ab col dd k0 k1 k2 k3 k5 "ArithmeticError.__new__")
  sa : findIn K (.ref C) "__setattr__" = some (some (.builtin "object.__setattr__"))
  noN : findIn K (.ref C) "reason" = some none
  iC : findIn K (.ref C) "__init__" = some (some (.ref fI))
  tC : typeIn K (.ref fI) = some (.type "function")
  kC : keepIn K (.ref C) = true
  exC : subIn K (.ref C) (.type "BaseException") = some true
  sub : subIn K (.ref C) (.type "ArithmeticError") = some true
  tyC : typeIn K (.ref C) = some (.type "type")
  sup : alongIn K "__init__" aeTail = some (some (.builtin "ArithmeticError.__init__"))
  any : nsIn K cStatics "thirdparty.any" = some none
  fn : ∃ (oc : Value) (od : Option Addr) (doc pm : Value) (an : Option Addr) (cda : Addr) (ct : Value) (osl : Array (Option Value)) (cc : Addr) (txt : Str) (p1 p2 : Pos),
    K.lookup fI = some ⟨oc, od, .func (ksFn "__init__" "Refused.__init__" (iA p1 p2) (iB txt) iS .none .none doc pm an (.ref cda) ct cc), osl⟩ ∧ codeIn K (.ref cda) "Refused.__init__" = true ∧
    (∃ (ccl : Value) (cdd : Option Addr) (vs : Array Value) (ccs : Array (Option Value)) (fl : Str) (tf : Tok), K.lookup cda = some ⟨ccl, cdd, .fields vs, ccs⟩ ∧ vs[2]? = some (.str fl tf) ∧ (file == fl) = true) ∧
    ∃ (cl : Value) (cld : Option Addr) (csl : Array (Option Value)), K.lookup cc = some ⟨cl, cld, .cell (some (.ref C)), csl⟩
theorem one_fits (v : Value) : [v].length ≤ sizeLine := by
  rw [sizeLine_eq]
  exact (by decide : 1 ≤ 16777216)
theorem in_but {K : Frag} {h h' : Heap} {x : Addr} (X : K.In h) (hx : K.lookup x = none) (k : ∀ b o, b ≠ x → h.get? b = some o → h'.get? b = some o) : K.In h' := fun a o e =>
  k a o (fun z => by rw [z, hx] at e; cases e) (X a o e)
section
variable {prog : Program} {w : World} {A : Around} {E : Value → Shared → Prop} {h : Heap} {g : Array GenState} {d : Drawn} {t : Nat} {os : OsState}
variable {nm q : Str} {C N : Addr} {bs bm : List Value} {hdct : Bool} {sn : List Str} {sub : List Value} {ab : Bool} {col : Option Bool} {dd : Option Addr} {k0 k1 k2 k3 k5 : Option Value}
/-- the bound __init__ of the base called: the args are laid anew -/
theorem bw_call {u e t0 : Addr} {rest : List Value} {Q : Value → Shared → Prop}
    (hC : h.get? C = some (excClassObj nm q C N bs bm hdct sn sub ab col dd k0 k1 k2 k3 k5 "ArithmeticError.__new__")) (he : h.get? e = some (excO C t0)) (hu : h.get? u = some (kxs_mw "ArithmeticError.__init__" e)) (hrest : rest.length ≤ sizeLine)
    (hq : ∀ h' t1, (∀ b o, b ≠ e → h.get? b = some o → h'.get? b = some o) → h'.get? e = some (excO C t1) → Q .none ⟨h', g, d, t, os⟩) :
    wpAny (model prog w) A (call (.ref u) rest) Q E ⟨h, g, d, t, os⟩ := by
  refine wpAny_call (codeAny_of_tree ?_)
  show wpAny _ A.in1 (callAny (.ref u) ⟨rest, []⟩) _ _ _
  simp only [callAny]
  refine wpAny_bind (wpAny_load hu ?_)
  simp only [kxs_mw, show (Value.type "method-wrapper" == Value.type "method" || Value.type "method-wrapper" == Value.type "builtin_function_or_method" || Value.type "method-wrapper" == Value.type "method-wrapper") = true by decide, if_true]
  refine KFB.if_so (by decide) ?_
  refine wpAny_bind (check_bound_init PySem.F.excBase_ArithmeticError.toExcCallFacts hC he rfl ?_)
  refine wpAny_bind (wpAny_pure (wpAny_pure ?_))
  refine ⟨plainId_quiet PySem.F.excBase_ArithmeticError.init.plain _, codeAny_builtin PySem.F.excBase_ArithmeticError.initEntry ?_⟩
  rw [Around.under_plainId PySem.F.excBase_ArithmeticError.init.plain _]
  exact exc_init_tree (cls := .ref C) (t0 := t0) (dv := none) (c2 := .none) (c3 := .none) (b4 := .bool false) he hrest fun h' k e' _ => hq h' _ k e'
end
section
open Builtin Builtin.ObjectAttr
variable {prog : Program} {w : World} {A : Around} {E : Value → Shared → Prop} {R : Result → Shared → Prop} {hp : Heap} {g : Array GenState} {d : Drawn} {t : Nat} {os : OsState}
theorem tail_in {C : Addr} (X : String) (hX : aeTail.contains (.type X) = true) : (Value.ref C :: aeTail).contains (.type X) = true := by
  rw [List.contains_cons, hX, Bool.or_true]
theorem mro_in {K : Frag} {C : Addr} {cd : ClassData} (hcd : clsIn K C = some cd) (hm : cd.mro = .ref C :: aeTail) {b : Value} (hb : (Value.ref C :: aeTail).contains b = true) : mroIn K C b = some true := by
  unfold mroIn
  rw [hcd, Option.bind_some, hm, if_neg (show ¬ (List.isEmpty (Value.ref C :: aeTail) = true) from Bool.false_ne_true), hb]
/-- the first field of an exception that has no dict yet -/
theorem field_new {K : Frag} {name : Str} {tk : Tok} {v : Value} {x C : Addr} {fv : Array Value} {cd : ClassData}
    (X : K.In hp) (hx : hp.get? x = some { cls := .ref C, data := .fields fv }) (hcd : clsIn K C = some cd) (hm : cd.mro = .ref C :: aeTail) (hh : cd.hasDict = true) (ha : findIn K (.ref C) name = some none)
    (hq : ∀ h' tk' dx, (∀ b o, b ≠ x → hp.get? b = some o → h'.get? b = some o) → hp.objs.size ≤ dx → dx ≠ x → h'.get? x = some { cls := .ref C, dict := some dx, data := .fields fv } →
      h'.Ns1 dx (fun y => if y = name then some v else none) → R (.ok (.ret .none)) ⟨h', g, d, tk', os⟩) :
    codeAny (model prog w) A (.call (.builtin "object.__setattr__") ⟨[.ref x, .str name tk, v], []⟩) R ⟨hp, g, d, t, os⟩ := by
  have I : InstAt hp x { cls := .ref C, data := .fields fv } C none := ⟨hx, rfl, rfl, trivial⟩
  have hxs : x ≠ hp.objs.size := Nat.ne_of_lt (Heap.lt_size hx)
  have SF := PySem.F.store_object
  have sub : Looks (model prog w) hp (isInstance (.ref x) (.type "object")) true := I.type.andThen (looks_mroIn X (mro_in hcd hm (tail_in "object" (by decide +kernel))))
  refine codeAny_call_builtin SF.slot.plain SF.entry (@check_slot (model prog w) _ _ ⟨hp, g, d, t, os⟩ "object.__setattr__" "object" "__setattr__" (.ref x) [.str name tk, v] [] _ SF.kind SF.split sub (SF.args (.ref x) (.str name tk) v) ?_)
  have hmr : Looks (model prog w) hp (mroOf (.ref C)) cd.mro := (looks_clsIn X hcd).andThen .now
  have L3 : Looks (model prog w) hp (storeTaker? none) none := .now
  have hpass : refuseLoop (.ref x) "__setattr__" cd.mro = pure () := by
    rw [hm, refuseLoop_ref]
    exact PySem.F.store_ArithmeticError.passes _
  rw [osa_eq, refuse_eq]
  refine wpAny_bind (wpAny_bind (I.type.at (wpAny_bind (hmr.at ?_))))
  rw [hpass]
  refine wpAny_pure (wpAny_bind (I.type.at (wpAny_bind ((looks_findIn X ha).at (wpAny_bind (L3.at ?_))))))
  have hcls : Looks (model prog w) hp (classData C) cd := looks_clsIn X hcd
  obtain ⟨nm, bs, mro, ns, qn, hd, sn, sb, ab, col, del⟩ := cd
  dsimp only at hh
  subst hh
  show wpAny _ _ (storeInOwnDict (.ref x) (.ref C) (.str name tk) name v false) _ _ _
  unfold storeInOwnDict ownDictForStores
  repeat (first | with_reducible refine HandSPX.store_in_new ?_ ?_ | with_reducible refine wpAny_loadPart_at hx ?_ | with_reducible refine hcls.at ?_ | wp_step)
  · exact ⟨_, #[], _, (Heap.get?_update_ne _ _ _ _ hxs.symm).trans (Heap.get?_push_at rfl rfl), rfl, fun e he => absurd he (by simp), fun _ => rfl⟩
  · intro h' tk' hn' hs
    have hx1 : (hp.push { cls := .type "dict", data := .dict #[] }).get? x = some { cls := .ref C, data := .fields fv } := Heap.get?_push_of_some _ hx
    refine hq h' tk' hp.objs.size (fun b o hb ho => ?_) (Nat.le_refl _) hxs.symm ?_ hn'
    · exact (hs.2 b (Nat.ne_of_lt (Heap.lt_size ho))).trans ((Heap.get?_update_ne _ _ _ _ hb).trans (Heap.get?_push_of_some _ ho))
    · exact (hs.2 x hxs).trans (Heap.get?_update_self _ hx1 rfl)
end
/-- what __init__ leaves of a fresh exception at x -/
structure InitEnd (h h' : Heap) (x C dx t1 : Addr) (v : Value) : Prop where
  keep : ∀ b o, b ≠ x → h.get? b = some o → h'.get? b = some o
  obj : h'.get? x = some { cls := .ref C, dict := some dx, data := .fields #[.ref t1, .none, .none, .none, .bool false, .none] }
  dbig : h.objs.size ≤ dx
  dne : dx ≠ x
  ns : h'.Ns1 dx (fun y => if y = rField then some v else none)
section
variable {prog : Program} {w : World} {A : Around} {E : Value → Shared → Prop} {R : Result → Shared → Prop} {s : Shared} {K : Frag} {mg mb : Str → Option Value} {C fI : Addr}
theorem ref_init (T : Txt K prog.main.file C fI) {x t0 : Addr} {v : Value} (X : K.In s.heap) (hlim : s.heap.NoLimit) (hg : s.heap.Ns mainGlobals mg) (hm : mg "super" = none) (hb : s.heap.Ns builtinsNs mb) (hbs : mb "super" = some (.type "super"))
    (htop : (prog.main.scope.names.lookup ("super" : Str)).isSome = false) (hx : s.heap.get? x = some (excO C t0)) (hnx : K.lookup x = none) (hroom : A.depth < recursionLimit)
    (hq : ∀ h' tk dx t1, InitEnd s.heap h' x C dx t1 v → R (.ok (.ret .none)) { s with heap := h', toks := tk }) :
    codeAny (model prog w) A (.call (.ref fI) ⟨[.ref x, v], []⟩) R s := by
  obtain ⟨oc, od, doc, pm, an, cda, ct, osl, cc, txt, p1, p2, ho, hcd, ⟨ccl, cdd, vs, ccs, fl, tf, hcode, hvs, hfile⟩, ⟨cl, cld, csl, hcell⟩⟩ := T.fn
  obtain ⟨nm, q, N, bs, sn, sub, ab, col, dd, k0, k1, k2, k3, k5, hC⟩ := T.cls
  have hcl : clsIn K C = some { name := nm, bases := bs, mro := .ref C :: aeTail, ns := N, qualname := q, hasDict := true, slotNames := sn, subclasses := sub, abstract := ab, collection := col, hasDel := false } := by unfold clsIn; rw [hC] <;> rfl
  obtain ⟨fd, efd⟩ : ∃ fd, fd = ksFn "__init__" "Refused.__init__" (iA p1 p2) (iB txt) iS .none .none doc pm an (.ref cda) ct cc := ⟨_, rfl⟩
  have hcellS : ∀ y ∈ iS.names, y.2 ≠ .cell := by decide
  have hloc : ∀ y ∈ ([("self", .ref x), ("reason", v)] : List (Str × Value)), iS.names.lookup y.1 = some .local := by
    intro y hy
    have e : y = (("self" : Str), Value.ref x) ∨ y = (("reason" : Str), v) := by simpa using hy
    rcases e with rfl | rfl <;> rfl
  have hbind : BindsTo s (ksFn "__init__" "Refused.__init__" (iA p1 p2) (iB txt) iS .none .none doc pm an (.ref cda) ct cc) ⟨[.ref x, v], []⟩ [("self", .ref x), ("reason", v)] :=
    BindsTo.of_eq (by first | rfl | with_unfolding_all rfl)
  refine ks_codeAny_call_defAt (s := s) (args := ⟨[.ref x, v], []⟩) (fd := ksFn "__init__" "Refused.__init__" (iA p1 p2) (iB txt) iS .none .none doc pm an (.ref cda) ct cc) (body := iB txt) (binds := [("self", .ref x), ("reason", v)])
    hroom (X _ _ ho) rfl hlim (codeRec_of X hcd) rfl hbind hcellS hloc (fun h₁ hn k => ?_) rfl rfl rfl
  clear hcellS hloc hbind efd
  have X1 : K.In h₁ := X.keeps k
  have hx1 := k _ _ hx
  have hC1 : h₁.get? C = some _ := X1 _ _ hC
  have I1 : InstAt h₁ x (excO C t0) C none := ⟨hx1, rfl, rfl, trivial⟩
  have nself : (fun y : Str => ([("self", .ref x), ("reason", v)] : List (Str × Value)).reverse.lookup y) "self" = some (.ref x) := rfl
  have nres : (fun y : Str => ([("self", .ref x), ("reason", v)] : List (Str × Value)).reverse.lookup y) "reason" = some v := rfl
  show _root_.PySem.wpAt (model prog w) (A.deeper (ksEnv "Refused.__init__" iS s.heap.objs.size fI (.ref cda) cc)) (.func (iB txt) (ksEnv "Refused.__init__" iS s.heap.objs.size fI (.ref cda) cc)) (execs (iB txt) (ksEnv "Refused.__init__" iS s.heap.objs.size fI (.ref cda) cc)) _ _ _
  obtain ⟨env, eenv⟩ : ∃ env, env = ksEnv "Refused.__init__" iS s.heap.objs.size fI (.ref cda) cc := ⟨_, rfl⟩
  refine ks_wpAt_execs_cons (ks_wpAt_Expr_any ?_ rfl rfl)
  refine ks_wpAt_MethodCall ?_ (by first | rfl | with_unfolding_all rfl)
  refine ks_wpAt_super_base (env := ksEnv "Refused.__init__" iS s.heap.objs.size fI (.ref cda) cc) (ar := { arg := "self", annotation := none, pos := p1 }) rfl rfl (by decide) rfl (X1 _ _ ho) rfl rfl rfl (X1 _ _ hcode) rfl hvs hfile htop ?_
  refine ks_loadName_global rfl rfl (loadGlobal_builtin (env := ksEnv "Refused.__init__" iS s.heap.objs.size fI (.ref cda) cc) (hg.keeps k) hm (hb.keeps k) hbs ⟨rfl, ?_⟩)
  refine wpAny_loadName_free rfl rfl rfl ⟨_, X1 _ _ hcell, rfl⟩ ?_
  refine wpAny_loadName_local rfl rfl hn nself ?_
  refine ks_wpAny_isType_cls hC1 rfl ⟨rfl, ?_⟩
  have hsub1 : Looks (model prog w) h₁ (isSubtype (.ref C) (.ref C)) true := looks_mroIn X1 (mro_in hcl rfl (by rw [List.contains_cons, beq_self_eq_true, Bool.true_or]))
  refine ks_wpAny_call_super (D := C) (x := x) (C := C) hC1 rfl hx1 rfl (fun c e => by cases e) hsub1 (fun h2 hso k2 => ?_)
  have X2 : K.In h2 := X1.keeps k2
  have hx2 := k2 _ _ hx1
  have I2 : InstAt h2 x (excO C t0) C none := ⟨hx2, rfl, rfl, trivial⟩
  have hB2 : Looks (model prog w) h2 (isInstance (.ref x) (.type "ArithmeticError")) true := I2.type.andThen (looks_subIn X2 T.sub)
  have hxC : x ≠ C := ks_ne X2 I2 hcl
  have hmr2 : Looks (model prog w) h2 (mroOf (.ref C)) (.ref C :: aeTail) := fun A Q E s k q => wpAny_bind ((looks_clsIn X2 hcl) A _ E s k (wpAny_pure q))
  refine kxs_getMethod kxs_ArithmeticError hso (looks_opaque X2 T.any) hmr2 (ESX.drop_own C aeTail) X2 ?_ hB2 hxC (by decide) ?_
  · exact T.sup
  · -- the bound __init__ called
    show wpAny _ _ (callWith _ (.ref h2.objs.size) [] _ []) _ _ _
    refine kxs_callWith (i := "ArithmeticError.__init__") (x := x) rfl ?_
    refine evalArgs_plain ?_
    refine PyProof.Rows.args_cons (wpAny_Constant_str (PyProof.Rows.args_nil ?_)) rfl
    have hu3 : (h2.push (kxs_mw "ArithmeticError.__init__" x)).get? h2.objs.size = some (kxs_mw "ArithmeticError.__init__" x) := Heap.get?_push_size _ rfl
    have k3 : ∀ b o, h2.get? b = some o → (h2.push (kxs_mw "ArithmeticError.__init__" x)).get? b = some o := fun b o e => Heap.get?_push_of_some _ e
    refine ⟨hu3, ?_⟩
    have hl : ([] ++ [Value.str txt (s.toks + 2 + 1)] : List Value).length ≤ sizeLine := one_fits _
    refine bw_call (k3 _ _ (X2 _ _ hC)) (k3 _ _ hx2) hu3 hl fun h4 t1 k4 hx4 => ?_
    have old : ∀ b o, b ≠ x → h₁.get? b = some o → h4.get? b = some o := fun b o hb e => k4 b o hb (k3 b o (k2 b o e))
    have X4 : K.In h4 := in_but (X2.keeps k3) hnx k4
    have hLx : s.heap.objs.size ≠ x := Nat.ne_of_gt (Heap.lt_size hx)
    have hn4 : h4.Ns s.heap.objs.size (fun y => ([("self", .ref x), ("reason", v)] : List (Str × Value)).reverse.lookup y) := by
      obtain ⟨oL, es, ep, hL, r⟩ := hn
      exact ⟨oL, es, ep, old _ _ hLx hL, r⟩
    -- the field
    refine ks_wpAt_execs_cons (wpAt_of_wpAny (plainObj_wpAny_Assign_Attribute ?_))
    refine wpAny_Name (wpAny_loadName_local (env := ksEnv "Refused.__init__" iS s.heap.objs.size fI (.ref cda) cc) rfl rfl hn4 nres ?_) (by decide)
    refine wpAny_Name (wpAny_loadName_local (env := ksEnv "Refused.__init__" iS s.heap.objs.size fI (.ref cda) cc) rfl rfl hn4 nself ?_) (by decide)
    refine set_plain X4 (ox := excO C t1) (od := none) ⟨hx4, rfl, rfl, trivial⟩ T.sa ?_
    refine field_new X4 hx4 hcl rfl rfl T.noN (fun h5 tk5 dx k5 dn dne hx5 hn5 => ?_)
    refine wpAt_of_wpAny (wpAny_execs_nil ?_)
    have z : s.heap.objs.size ≤ dx := by
      obtain ⟨oL, es, ep, hL, r⟩ := hn4
      exact Nat.le_trans (Nat.le_of_lt (Heap.lt_size hL)) dn
    exact hq h5 tk5 dx t1 ⟨fun b o hb e => k5 b o hb (old b o hb (k b o e)), hx5, z, dne, hn5⟩
/-- a made one -/
structure Made (h h' : Heap) (e C d : Addr) (v : Value) : Prop where
  keep : ∀ b o, h.get? b = some o → h'.get? b = some o
  new : h.objs.size ≤ e
  obj : ∃ oe vs, h'.get? e = some oe ∧ oe.cls = .ref C ∧ oe.dict = some d ∧ oe.data = .fields vs ∧ vs[1]? = some .none
  dbig : h.objs.size ≤ d
  dne : d ≠ e
  ns : h'.Ns1 d (fun y => if y = rField then some v else none)
theorem ref_made (T : Txt K prog.main.file C fI) {v : Value} (X : K.In s.heap) (hlim : s.heap.NoLimit) (hg : s.heap.Ns mainGlobals mg) (hm : mg "super" = none) (hb : s.heap.Ns builtinsNs mb) (hbs : mb "super" = some (.type "super"))
    (htop : (prog.main.scope.names.lookup ("super" : Str)).isSome = false) (hroom : A.depth + 1 < recursionLimit) (hq : ∀ h' tk e d, Made s.heap h' e C d v → R (.ok (.ret (.ref e))) { s with heap := h', toks := tk }) :
    codeAny (model prog w) A (.call (.ref C) ⟨[v], []⟩) R s := by
  obtain ⟨nm, q, N, bs, sn, sub, ab, col, dd, k0, k1, k2, k3, k5, hC⟩ := T.cls
  obtain ⟨hp, g, dr, tk, os⟩ := s
  have k : ∀ b o, hp.get? b = some o → ((hp.push (kdv_tup [v])).push (excO C hp.objs.size)).get? b = some o := fun b o e => Heap.get?_push_of_some _ (Heap.get?_push_of_some _ e)
  have hget : ((hp.push (kdv_tup [v])).push (excO C hp.objs.size)).get? (hp.objs.size + 1) = some (excO C hp.objs.size) := by heap_get
  have hnx : K.lookup (hp.objs.size + 1) = none := by
    cases e : K.lookup (hp.objs.size + 1) with
    | none => rfl
    | some o =>
      have z : hp.get? (hp.objs.size + 1) = some o := X _ _ e
      exact absurd (Nat.lt_of_succ_lt (Heap.lt_size z)) (Nat.lt_irrefl _)
  refine call_own PySem.F.excBase_ArithmeticError (bm := aeTail) (fun X => rfl) (X _ _ hC) (looks_findIn X T.iC) (fun self => bind_fn X self T.tC) (one_fits v) ?_
  refine ref_init (s := ⟨(hp.push (kdv_tup [v])).push (excO C hp.objs.size), g, dr, tk, os⟩) T (X.keeps k) (hlim.keeps k) (hg.keeps k) hm (hb.keeps k) hbs htop hget hnx ?_ fun h' tk' dx t1 ⟨k', hx, dn, dne, hns⟩ => ?_
  · show A.depth + 1 < recursionLimit
    exact hroom
  · have old : ∀ b o, hp.get? b = some o → h'.get? b = some o := fun b o e => k' b o (Nat.ne_of_lt (Nat.lt_succ_of_lt (Heap.lt_size e))) (k b o e)
    have z : hp.objs.size + 1 + 1 ≤ dx := by
      first
        | (simpa only [Heap.size_push] using dn)
        | exact dn
        | (have q := dn; rw [Heap.size_push, Heap.size_push] at q; exact q)
    exact ⟨rfl, hq h' tk' (hp.objs.size + 1) dx ⟨old, Nat.le_succ _, ⟨_, _, hx, rfl, rfl, rfl, rfl⟩, Nat.le_trans (Nat.le_trans (Nat.le_succ _) (Nat.le_succ _)) z, dne, hns⟩⟩
end
end Tg.RX
end
section
set_option Elab.async false
set_option autoImplicit false
set_option linter.all false
set_option maxRecDepth 100000
set_option maxHeartbeats 4000000
/-! raise of the own error. -/
namespace Tg
open PySem PySem.Spec PyProof.Rows L2
theorem relO_one {n : Str} {v : V} {v' : Value} (r : RelV v v') (f : Str) : RelO (List.lookup f [(n, v)]) (if f = n then some v' else none) := by
  by_cases hw : f = n
  · subst hw
    rw [if_pos rfl]
    have q : List.lookup f [(f, v)] = some v := by simp [List.lookup]
    rw [q]
    exact r
  · rw [if_neg hw]
    have qw : (f == n) = false := by simpa using hw
    have q2 : List.lookup f [(n, v)] = none := by simp [List.lookup, qw]
    rw [q2]
    trivial
section
variable {X : Cx} {C fI : Addr}
/-- the error made of one value -/
def tMkRef (C : Addr) (ta : TA) : L2.St → Hp → XK → Prop := fun σ H Q => ta σ H fun vs H1 => ∃ v, vs = [v] ∧ ∀ d, H1 d = none → Q (.ref C) (some d) (upd H1 d (.xd [(RX.rField, v)]))
theorem pmk_ref {a : Expr} {ta : TA} {p pos : Pos} {k : Nat} (T : RX.Txt X.K X.prog.main.file C fI) (hC : X.mg "Refused" = some (.ref C)) (hs : X.mg "super" = none) (htop : (X.prog.main.scope.names.lookup ("super" : Str)).isSome = false) (hr : Room (k + 1) X.A) (ha : PA X [a] ta) (hg : Gl X "Refused" := by rfl)
    (he : starEach (a :: []) X.env = (false, eval a X.env) :: starEach [] X.env := by rfl) (hpl : (backTo pos (starEach [] X.env)).any (·.1) = false := by rfl) :
    PMk X (.Call (.Name "Refused" p) [a] [] pos) (tMkRef C ta) := by
  intro pins s σ H Q I h
  refine wpAny_Call_Name_kw (ld_glob I hg hC ?_)
  refine PySem.W.callWith_K (h₀ := X.base) I.ok.mod.kin T.kC (thn (ha.run pos pins s σ H _ I h) fun us s1 hh => ?_) he hpl
  obtain ⟨vs, H1, I1, r1, v, ev, q1⟩ := hh
  subst ev
  refine ⟨I1.kIn, ?_⟩
  cases r1 with
  | cons rv rn =>
    rename_i v' us'
    cases rn
    show wpAny _ _ (call (.ref C) [v']) _ _ _
    have hlim := I1.nolimit
    obtain ⟨mb, hb1, hb2⟩ := I1.mod.blt
    have hglob := I1.mod.glob.keeps I1.bk
    have hblt := hb1.keeps I1.bk
    have hsup : mb "super" = some (.type "super") := (hb2 "super" (by decide)).trans (by decide +kernel)
    obtain ⟨hp, g, dr, tk, os⟩ := s1
    refine wpAny_call (RX.ref_made T I1.kIn hlim hglob hs hblt hsup htop (by have := hr.dp; omega) fun h' tk' e d M => ?_)
    show MkP X pins σ Q (.ref e) ⟨h', g, dr, tk', os⟩
    obtain ⟨oe, fv, hoe, hc, hd, hdat, h1⟩ := M.obj
    have hns := M.ns
    obtain ⟨G', g1, g2⟩ := restrict h' fun b => decide (b ≠ e)
    have gk : ∀ b, b ≠ e → G'.get? b = h'.get? b := fun b hb => g1 b (decide_eq_true hb)
    have ge : G'.get? e = none := g2 e (by simp)
    have old : ∀ b o, hp.get? b = some o → G'.get? b = some o := fun b o q => (gk b (Nat.ne_of_lt (Nat.lt_of_lt_of_le (Heap.lt_size q) M.new))).trans (M.keep b o q)
    have ob : ObjOk X.prog X.w (upd H1 d (.xd [(RX.rField, v)])) G' d (.xd [(RX.rField, v)]) :=
      ⟨_, hns.at (fun o q => (gk d M.dne).trans q), fun f => relO_one rv f⟩
    have J : Inv X pins σ (upd H1 d (.xd [(RX.rField, v)])) ⟨G', g, dr, tk', os⟩ := I1.laid (t' := tk') old M.dbig ob
    refine ⟨e, oe, fv, ⟨G', g, dr, tk', os⟩, _, .ref C, some d, rfl, J, fun b o q => ?_, ge, hoe, ⟨hc, hd⟩, hdat, h1, ?_, rfl, I1.bare, raises_own T.exC T.tyC, q1 d (I1.hok.fresh M.dbig)⟩
    · by_cases hb : b = e
      · have q' : G'.get? b = some o := q
        rw [hb, ge] at q'; cases q'
      · exact (gk b hb).symm.trans q
    · rw [upd_ne (Ne.symm M.dne)]
      exact I1.hok.fresh M.new
/-- the raise -/
def tRaiseRef (C : Addr) (W : WX) (ta : TA) : TS := fun _ σ H => tMkRef C ta σ H fun cls d H' => W cls d σ H'
theorem ps_raiseRef {a : Expr} {ta : TA} {W : WX} {p pos pos2 : Pos} {k : Nat} (hc : X.calm = true) (T : RX.Txt X.K X.prog.main.file C fI) (hC : X.mg "Refused" = some (.ref C)) (hs : X.mg "super" = none) (htop : (X.prog.main.scope.names.lookup ("super" : Str)).isSome = false)
    (hr : Room (k + 1) X.A) (tk : Takes X W) (ha : PA X [a] ta) (hg : Gl X "Refused" := by rfl)
    (he : starEach (a :: []) X.env = (false, eval a X.env) :: starEach [] X.env := by rfl) (hpl : (backTo pos (starEach [] X.env)).any (·.1) = false := by rfl) :
    PS X (.Raise (some (.Call (.Name "Refused" p) [a] [] pos)) none pos2) (tRaiseRef C W ta) := ps_raise hc tk (pmk_ref (k := k) T hC hs htop hr ha hg he hpl)
end
end Tg
end
section
set_option Elab.async false
set_option autoImplicit false
set_option linter.all false
set_option maxRecDepth 100000
set_option maxHeartbeats 4000000
/-! own * with an int; != by an own ==. -/
namespace Tg.OY
open PySem PySem.W PySem.Calls PyProof.Rows
theorem fill_int : fillsNumberSlot (.type "int") "mul" = pure true := by
  unfold fillsNumberSlot
  simp only [typeLookup_type, builtinLookup_eq_fast]
  kernel_rfl
theorem rmul_int : typeLookup (.type "int") (dunderR "mul") = pure (some (.builtin "int.__rmul__")) := by rw [typeLookup_type, builtinLookup_eq_fast]; kernel_rfl
section
variable {prog : Program} {w : World} {A : Around} {E : Value → Shared → Prop} {s : Shared} {K : Frag} {x C L f : Addr} {h₀ : Heap} {m : Str → Option Value} {ox : Obj} {od : Option Obj}
theorem mul_own {i : Int} {u : Tok} {Q : Value → Shared → Prop} (X : K.In s.heap) (I : InstAt s.heap x ox C od) (hc : selfFirst K C = true) (hs : findIn K (.ref C) (PySem.dunder "mul") = some (some (.ref f))) (hr : findIn K (.ref C) (dunderR "mul") = some none) (hf : isFn K (.ref f) = true)
    (h : wpAny (model prog w) A (call (.ref f) [.ref x, .int i u]) (PySem.W.CmpBack Q) E s) : wpAny (model prog w) A (binaryOp .Mult (.ref x) (.int i u)) Q E s := by
  obtain ⟨cd, hcd, hm⟩ := any_some hc
  obtain ⟨rest, hm⟩ : ∃ rest, cd.mro = .ref C :: rest := by
    cases q : cd.mro with
    | nil => rw [q] at hm; cases hm
    | cons a r => rw [q] at hm; exact ⟨r, by rw [List.head?_cons] at hm; cases (beq_iff_eq.mp hm); rfl⟩
  unfold binaryOp
  refine wpAny_holding (wpAny_bind ?_)
  show wpAny _ _ (binaryOp1 "mul" (.ref x) (.int i u)) _ _ _
  unfold binaryOp1
  refine wpAny_bind (I.type.here (wpAny_bind (wpAny_typeOf (T := "int") rfl (wpAny_bind ((fills_K X hcd hm hs).here ?_)))))
  rw [show (Value.ref C == Value.type "int") = false from rfl]
  refine wpAny_bind (wpAny_of_eq fill_int ?_)
  simp only [Bool.and_true, if_true]
  have e1 : isSubtype (.type "int") (.ref C) = pure false := by rw [isSubtype_type]; first | rfl | kernel_rfl | (simp)
  refine wpAny_bind (wpAny_of_eq e1 ?_)
  simp only [Bool.false_eq_true, if_false, Bool.not_false, Bool.and_true, if_true]
  have tm : ∀ {P : Option Value → Shared → Prop}, (∀ v s', Q v s' → P (some v) s') → wpAny (model prog w) A (tryMethod (.ref x) (PySem.dunder "mul") (.int i u)) P E s := fun {P} hp => by
    unfold tryMethod
    refine wpAny_bind (special_fn X I hs (beq_iff_eq.mp hf) (wpAny_mono h (fun v s' hv => ?_) fun _ _ e => e))
    cases v <;> first | exact hv.elim | exact wpAny_pure (hp _ _ hv)
  have n1 : numberSlotInPython (.type "int") "mul" = pure false := rfl
  have n2 : Looks (model prog w) s.heap (numberSlotInPython (.ref C) "mul") true := by
    intro A Q E s k q
    unfold numberSlotInPython
    show wpAny _ _ (typeLookup (Value.ref C) (PySem.dunder "mul") >>= _) _ _ _
    refine wpAny_bind (looks_findIn X hs A _ E s k ?_)
    refine wpAny_bind (wpAny_pure ?_)
    refine wpAny_bind (looks_findIn X hr A _ E s k ?_)
    refine wpAny_bind (wpAny_pure ?_)
    rw [if_pos (show (true || false) = true from rfl)]
    exact wpAny_pure q
  refine wpAny_bind (n2.here ?_)
  simp only [if_true]
  refine wpAny_bind (wpAny_of_eq n1 ?_)
  simp only [Bool.not_false, if_true]
  refine wpAny_bind (wpAny_of_eq rmul_int ?_)
  refine wpAny_bind (tm fun v s' hv => ?_)
  exact wpAny_pure (wpAny_pure hv)
end
/-! ### != -/
section
variable {prog : Program} {w : World} {A : Around} {E : Value → Shared → Prop} {s : Shared} {K : Frag} {x C f : Addr} {ox : Obj} {od : Option Obj} {b : Value}
theorem ne_own {Q : Value → Shared → Prop} (hu : A.units + 1 < cLine) (X : K.In s.heap) (I : InstAt s.heap x ox C od) (hb : Looks (model prog w) s.heap (typeOf b) (.ref C)) (hn : findIn K (.ref C) "__ne__" = some (some (.builtin "object.__ne__")))
    (hob : mroIn K C (.type "object") = some true) (hs : findIn K (.ref C) "__eq__" = some (some (.ref f))) (hf : isFn K (.ref f) = true)
    (h : wpAny (model prog w) A.in1 (call (.ref f) [.ref x, b]) (fun v s' => ∃ r, v = .bool r ∧ Q (.bool (!r)) s') E s) : wpAny (model prog w) A (compareOp .NotEq (.ref x) b) Q E s := by
  have FB := PySem.F.cmp_object
  have sub : Looks (model prog w) s.heap (isInstance (.ref x) (.type "object")) true := I.type.andThen (looks_mroIn X hob)
  have inner : wpAny (model prog w) A (call (.builtin "object.__ne__") [.ref x, b]) (fun v s' => ∃ r, v = .bool (!r) ∧ Q (.bool (!r)) s') E s := by
    refine wpAny_call (codeAny_call_builtin FB.ne.plain PySem.F.cmpEntry_ne (@check_slot (model prog w) _ _ s "object.__ne__" "object" "__ne__" (.ref x) [b] [] _ PySem.F.cmpKind_ne PySem.F.cmpSplit_ne sub (PySem.F.cmpArgs_ne _ _) ?_))
    unfold Builtin.«object.__ne__»
    have hu1 : A.in1.units < cLine := hu
    repeat (first
      | with_reducible refine wpAny_cRoomFor hu1 ?_
      | (refine wpAny_bind (m := callSpecialIfBound? (.ref x) (Str.ofString "__eq__") [b]) (ifBound_K X I hs hf (wpAny_mono h (fun r s' hr => ?_) fun _ _ e => e)))
      | wp_step)
    obtain ⟨r', rfl, hq⟩ := hr
    repeat (first | exact ⟨r', rfl, hq⟩ | exact wpAny_pure ⟨_, rfl, r', rfl, hq⟩ | (refine wpAny_bind (m := truthy (.bool _)) (wpAny_truthy_bool ?_)) | wp_step)
  have one : wpAny (model prog w) A (tryCompare (.ref x) "__ne__" b) (fun r s' => ∃ v, r = some v ∧ Q v s') E s := by
    unfold tryCompare
    refine wpAny_bind ?_
    simp only [callSpecialIfBound?, bindSpecialIfBound?]
    refine wpAny_holding (wpAny_bind (wpAny_bind (wpAny_bind (I.type.here ((looks_findIn X hn).here ?_)))))
    simp only [FB.ne.bind]
    refine wpAny_bind (wpAny_askSetting (wpAny_ite ?_))
    have fin : wpAny (model prog w) A (call (.builtin "object.__ne__") ([.ref x] ++ [b]) >>= fun v => pure (some v)) (fun r s' => wpAny (model prog w) A (match r with | some .notImplemented | none => pure none | some v => pure (some v)) (fun r s' => ∃ v, r = some v ∧ Q v s') E s') E s :=
      wpAny_bind (wpAny_mono inner (fun v s' ⟨r, hv, hq⟩ => wpAny_pure (by rw [hv]; exact wpAny_pure ⟨_, rfl, hq⟩)) fun _ _ h' => h')
    split
    · exact wpAny_bind (wpAny_pure (wpAny_pure fin))
    · exact wpAny_tryCatch (wpAny_bind (wpAny_pure (wpAny_pure fin)))
  show wpAny _ _ (richCompare .NotEq (.ref x) b) _ _ _
  unfold richCompare
  simp only [oneThing_ref]
  refine wpAny_holding (wpAny_bind (wpAny_cRoomFor (Nat.lt_of_succ_lt hu) ?_))
  refine wpAny_bind (I.type.here (wpAny_bind (hb.here ?_)))
  rw [show (Value.ref C != Value.ref C) = false from by simp]
  simp only [Bool.false_eq_true, if_false]
  refine wpAny_bind (wpAny_pure ?_)
  simp only [Bool.false_eq_true, if_false]
  refine wpAny_bind (wpAny_mono one (fun r s' z => ?_) fun _ _ e => e)
  obtain ⟨v, rfl, hq⟩ := z
  exact wpAny_pure hq
end
end Tg.OY
namespace Tg
open PySem PySem.Spec PyProof.Rows L2 SlX
section
variable {X : Cx} {CX : CXT} {C g : Addr} {n : Nat} {sp : Sp} {E : XK}
/-- x * i, x an instance of the class at C whose own * is at g -/
def rMulOwn (C : Addr) (sp : Sp) (E : XK) : R2 := fun x y H Q => ∃ a dx vs i, x = .ref a ∧ y = .int i ∧ Slt H a C dx vs ∧ sp [x, y] H Q E
theorem op_mulOwn (hc : PySem.W.selfFirst X.K C = true) (hs : PySem.W.findIn X.K (.ref C) (PySem.dunder "mul") = some (some (.ref g))) (hr0 : PySem.W.findIn X.K (.ref C) (dunderR "mul") = some none) (hf : PySem.W.isFn X.K (.ref g) = true)
    (F : FnR X.prog X.w X.K X.mg X.base CX n g sp) (hr : Room n X.A) (hx : Passes CX X E) : OpR X (binaryOp .Mult) (rMulOwn C sp E) := by
  intro pins s σ H x y v u Q I rx ry h
  obtain ⟨a, dx, vs, i, rfl, rfl, ha, q⟩ := h
  cases (show v = Value.ref a from rx)
  obtain ⟨t, e⟩ := (show ∃ t, u = Value.int i t from ry)
  subst e
  obtain ⟨sl, od, _, J, _⟩ := slt_inst I ha
  refine OY.mul_own I.kIn J hc hs hr0 hf ?_
  refine wpAny_mono (wpAny_call (run_fnR (us := [.ref a, .int i t]) (vs := [.ref a, .int i]) F hr hx I (.cons rfl (.cons ⟨t, rfl⟩ .nil)) q)) (fun w s' z => ?_) fun _ _ x => x
  obtain ⟨z', H', I', rz, qz⟩ := z
  exact cmpback rz ⟨z', H', I', rz, qz⟩
/-- x != y by the own == -/
def rNeOwn (C : Addr) (sp : Sp) (E : XK) : R2 := fun x y H Q => ∃ a dx vs b dy ws, x = .ref a ∧ y = .ref b ∧ Slt H a C dx vs ∧ Slt H b C dy ws ∧ sp [x, y] H (fun z H' => ∃ r, z = .bl r ∧ Q (.bl (!r)) H') E
theorem op_neOwn (hn : PySem.W.findIn X.K (.ref C) "__ne__" = some (some (.builtin "object.__ne__"))) (hob : PySem.W.mroIn X.K C (.type "object") = some true) (hs : PySem.W.findIn X.K (.ref C) "__eq__" = some (some (.ref g))) (hf : PySem.W.isFn X.K (.ref g) = true)
    (F : FnR X.prog X.w X.K X.mg X.base CX n g sp) (hr : Room (n + 1) X.A) (hx : Passes CX X E) : OpR X (compareOp .NotEq) (rNeOwn C sp E) := by
  intro pins s σ H x y v u Q I rx ry h
  obtain ⟨a, dx, vs, b, dy, ws, rfl, rfl, ha, hb, q⟩ := h
  cases (show v = Value.ref a from rx)
  cases (show u = Value.ref b from ry)
  obtain ⟨sl, od, _, J, _⟩ := slt_inst I ha
  obtain ⟨sl', od', _, J', _⟩ := slt_inst I hb
  refine OY.ne_own (by have := hr.un; omega) I.kIn J J'.type hn hob hs hf ?_
  refine wpAny_mono (wpAny_call (run_at (us := [.ref a, .ref b]) (ws := [.ref a, .ref b]) F (show Room n X.A.in1 from Room.in1 hr) I.env0.in1 hx I (.cons rfl (.cons rfl .nil)) q)) (fun w s' z => ?_) fun _ _ x => x
  obtain ⟨z', H', I', rz, r, ez, qz⟩ := z
  subst ez
  cases (show w = Value.bool r from rz)
  exact ⟨r, rfl, .bl (!r), H', I', rfl, qz⟩
end
end Tg
end
section
set_option Elab.async false
set_option autoImplicit false
set_option linter.all false
set_option maxRecDepth 100000
set_option maxHeartbeats 4000000
/-! What the top has left, by names; the call of a def. -/
namespace Tg
open PySem PySem.Spec PyProof.Rows L2
/-- what the top has left -/
structure Px (K : PySem.W.Frag) (mg : Str → Option Value) : Prop where
  S : He5.SaysA fa fn K
  x : ex K = true
  c : fnC K (He.fAd K ("Refused", some "__init__")) = refV
  g : ∀ s ∈ gloL, mg s = some (.ref (He.ga K s))
  f : ∀ s ∈ freeL, mg s = none
  i : ∀ (s : Str) (n : Int), He.Fa.int s n ∈ intL → ∃ t, mg s = some (.int n t)
  gcd : mg "gcd" = some (.builtin "math.gcd")
section
variable {K : PySem.W.Frag} {mg : Str → Option Value} {h : Heap}
theorem says_fact (c : He5.SaysA fa fn K) {f : He.Fa} (hf : f ∈ fa) : f.ok K = true := by
  obtain ⟨i, hi⟩ := List.mem_iff_getElem?.mp hf
  exact c.fact i hi
theorem Px.of (X : K.In h) (G : h.Ns mainGlobals mg) (S : He5.SaysA fa fn K) (x : ex K = true) (c : fnC K (He.fAd K ("Refused", some "__init__")) = refV) : Px K mg where
  S := S
  x := x
  c := c
  g := fun s hs => He.glo_ok X G (says_fact S (List.mem_append_left _ (List.mem_map_of_mem (f := fun x => He.Fa.glo x) hs)))
  f := fun s hs => He.free_ok X G (says_fact S (List.mem_append_right _ (List.mem_append_left _ (List.mem_map_of_mem (f := fun x => He.Fa.free x) hs))))
  i := fun s n hs => He.int_ok X G (says_fact S (List.mem_append_right _ (List.mem_append_right _ (List.mem_append_right _ (List.mem_append_left _ hs)))))
  gcd := PySem.W.mg_of X G (He.eqO_ok (He.ba (He.ba x).2).1)
theorem Px.meth (p : Px K mg) {m : Str} (hm : m ∈ methL) : Meth K (He.ga K "Form") m (He.ma K (He.ga K "Form") m) :=
  He.meth_ok (says_fact p.S (List.mem_append_right _ (List.mem_append_right _ (List.mem_append_left _ (List.mem_map_of_mem (f := fun x => He.Fa.meth "Form" x) hm)))))
theorem Px.mkK (p : Px K mg) : Mk K (He.ga K "Known") (He.ma K (He.ga K "Known") "__init__") :=
  He.mkr_ok (says_fact p.S (List.mem_append_right _ (List.mem_append_right _ (List.mem_append_right _ (List.mem_append_right _ List.mem_cons_self)))))
theorem Px.mkF (p : Px K mg) : Mk K (He.ga K "Form") (He.ma K (He.ga K "Form") "__init__") :=
  He.mkr_ok (says_fact p.S (List.mem_append_right _ (List.mem_append_right _ (List.mem_append_right _ (List.mem_append_right _ (List.mem_cons_of_mem _ List.mem_cons_self))))))
theorem Px.primes (p : Px K mg) (H : Hp) : SqT K H (He.ga K "PRIMES") [.int 2, .int 3, .int 5, .int 7, .int 11, .int 13, .int 17, .int 19] := He.tupB_ok (He.ba p.x).1 H
theorem scls_of {C : Addr} (h : sclsB K C = true) : SlX.SCls K C := by
  obtain ⟨h1, h⟩ := He.ba h
  obtain ⟨h2, h⟩ := He.ba h
  obtain ⟨h3, h4⟩ := He.ba h
  exact ⟨h1, h2, h3, He.eqO_ok h4⟩
theorem isi_of {C : Addr} (h : isiB K C = true) : SlX.SIsi K C := by
  obtain ⟨h1, h⟩ := He.ba h
  obtain ⟨h2, h⟩ := He.ba h
  obtain ⟨h3, h4⟩ := He.ba h
  exact ⟨He.eqO_ok h1, He.eqO_ok h2, of_decide_eq_true h3, of_decide_eq_true h4⟩
theorem slot_of {C : Addr} {f : Str} {i : Nat} (hi : i < 1000) (h : slotB K C f i = true) : ∃ p, SlX.Slot1 K C f p i := by
  unfold slotB at h
  split at h
  · rename_i p e
    obtain ⟨h1, h⟩ := He.ba h
    obtain ⟨h2, h⟩ := He.ba h
    obtain ⟨h3, h4⟩ := He.ba h
    exact ⟨p, e, He.eqO_ok h1, of_decide_eq_true h2, of_decide_eq_true h3, of_decide_eq_true h4, hi⟩
  · cases h
/-- the classes -/
structure Cl (K : PySem.W.Frag) : Prop where
  sk : SlX.SCls K (He.ga K "Known")
  sf : SlX.SCls K (He.ga K "Form")
  ik : SlX.SIsi K (He.ga K "Known")
  if_ : SlX.SIsi K (He.ga K "Form")
  kl : ∃ p, SlX.Slot1 K (He.ga K "Known") "own_letters" p 0
  kp : ∃ p, SlX.Slot1 K (He.ga K "Known") "own_prime" p 1
  kt : ∃ p, SlX.Slot1 K (He.ga K "Known") "own_terms" p 2
  fd : ∃ p, SlX.Slot1 K (He.ga K "Form") "own_degree" p 0
  fl : ∃ p, SlX.Slot1 K (He.ga K "Form") "own_letters" p 1
  fp : ∃ p, SlX.Slot1 K (He.ga K "Form") "own_prime" p 2
  ft : ∃ p, SlX.Slot1 K (He.ga K "Form") "own_terms" p 3
  rf : refB K (He.ga K "Refused") (He.fAd K ("Refused", some "__init__")) = true
  ne : PySem.W.findIn K (.ref (He.ga K "Form")) "__ne__" = some (some (.builtin "object.__ne__"))
  rm : PySem.W.findIn K (.ref (He.ga K "Form")) "__rmul__" = some none
  sl : PySem.W.selfFirst K (He.ga K "Form") = true
  ki : PySem.W.kitOne K (.type "int") (.ref (He.ga K "Known")) = some false
  fi : PySem.W.kitOne K (.type "int") (.ref (He.ga K "Form")) = some false
  pr : propB K (He.ga K "Form") "table" = true
theorem Px.cl (p : Px K mg) : Cl K := by
  have h := p.x
  unfold ex at h
  simp only [Bool.and_eq_true] at h
  obtain ⟨_, _, h1, h2, h3, h4, h5, h6, h7, h8, h9, h10, h11, h12, h13, h14, h15, h16, h17, h18⟩ := h
  exact ⟨scls_of h1, scls_of h2, isi_of h3, isi_of h4, slot_of (by decide) h6, slot_of (by decide) h7, slot_of (by decide) h8, slot_of (by decide) h9, slot_of (by decide) h10, slot_of (by decide) h11, slot_of (by decide) h12,
    h13, He.eqO_ok h14, He.eqO_ok h15, h16, of_decide_eq_true h17, of_decide_eq_true h18, h5⟩
theorem Px.prop (p : Px K mg) : ∃ q, PySem.W.findIn K (.ref (He.ga K "Form")) "table" = some (some (.ref q)) ∧ PySem.W.specialIn K (.ref q) "__get__" = some (some (.builtin "property.__get__")) ∧ PySem.W.takesIn K (.ref q) = some true ∧
    ∃ rest, PySem.W.recIn K q "property" = some (.ref (getA K) :: rest) := by
  have h := p.cl.pr
  unfold propB at h
  split at h
  · rename_i q e
    obtain ⟨h1, h⟩ := He.ba h
    obtain ⟨h2, h3⟩ := He.ba h
    refine ⟨q, e, He.eqO_ok h1, of_decide_eq_true h2, ?_⟩
    split at h3
    · rename_i g rest er
      refine ⟨rest, ?_⟩
      have em : He.ma K (He.ga K "Form") "table" = q := by unfold He.ma; rw [e]
      unfold getA
      rw [em, er]
    · cases h3
  · cases h
end
/-! ### a def's promise as a raw one -/
theorem Px.R {K : PySem.W.Frag} {mg : Str → Option Value} {P : Program} {w : World} {base : Heap} (p : Px K mg) {CX : CXT} {N ps : List Str} {k : Nat} {sp : Sp} {d : He5.DefA} (i : Nat) (hi : fn[i]? = some d) (h1 : d.dfl = []) (h2 : d.kwd = []) (S : FnScope N ps d.scope) (len : ∀ vs H Q E, sp vs H Q E → vs.length = ps.length)
    (hb : ∀ (kV doc pm : Value) (an : Option Addr) (cdv ct : Value) (us : List Value), us.length = ps.length → bindArgs (PySem.W.fnOf d.name d.qual d.params d.body d.scope .none kV doc pm an cdv ct) ⟨us, []⟩ = pure (ps.zip us))
    (hbody : ∀ (cdv : Value) (A : Around) (outer : List Env) (s : Shared) (H : Hp) (vs : List V) (Q : VK) (E : XK), Room k (A.deeper (envOfC d.qual d.scope s.heap.objs.size (d.at_ K) cdv)) → sp vs H Q E →
      ∃ t, PSs (cxOf CX P w K mg base N d.qual d.scope (d.at_ K) cdv A outer s H E) d.body t ∧ t { nx := fun _ H' => Q .non H', rt := Q } (start N vs) H) :
    FnR P w K mg base CX (k + 1) (d.at_ K) sp ∧ PySem.W.keepIn K (.ref (d.at_ K)) = true := by
  obtain ⟨fd, F⟩ := p.S.def_ i hi
  have e1 : d.dvs K = [] := by unfold He5.DefA.dvs; rw [h1]; rfl
  have e2 : d.kws K = [] := by unfold He5.DefA.kws; rw [h2]; rfl
  rw [e1, e2] at F
  have B : Binds K fd ps [] := F.bindsN hb
  have G := FnOk.raw (F.ok (CX := CX) (P := P) (w := w) (mg := mg) (base := base) S len hbody) B Paired.nil
  refine ⟨fun A outer s H us vs Q E hr e0 r hs => G A outer s H us vs Q E hr e0 r (by show sp (vs ++ []) H Q E; rw [List.append_nil]; exact hs), F.kp⟩
/-- .. with one default -/
theorem Px.R1 {K : PySem.W.Frag} {mg : Str → Option Value} {P : Program} {w : World} {base : Heap} (p : Px K mg) {CX : CXT} {N ps : List Str} {k n : Nat} {sp : Sp} {d : He5.DefA} {v : He.Dv} (i : Nat) (hi : fn[i]? = some d) (h1 : d.dfl = [v]) (h2 : d.kwd = []) (S : FnScope N ps d.scope) (hn : n + 1 = ps.length) (len : ∀ vs H Q E, sp vs H Q E → vs.length = ps.length)
    (hb : ∀ (T : Addr) (kV doc pm : Value) (an : Option Addr) (cdv ct : Value) (us its : List Value), us.length = n → its.length = 1 →
      ∃ k, bindArgs (PySem.W.fnOf d.name d.qual d.params d.body d.scope (.ref T) kV doc pm an cdv ct) ⟨us, []⟩ = seqItems? (.ref T) >>= k ∧ k (some its.toArray) = pure (ps.zip (us ++ its)))
    (ha : ∀ (T : Addr) (kV doc pm : Value) (an : Option Addr) (cdv ct : Value) (us its : List Value), us.length = ps.length → its.length = 1 →
      ∃ k, bindArgs (PySem.W.fnOf d.name d.qual d.params d.body d.scope (.ref T) kV doc pm an cdv ct) ⟨us, []⟩ = seqItems? (.ref T) >>= k ∧ k (some its.toArray) = pure (ps.zip (us ++ its.drop 1)))
    (hbody : ∀ (cdv : Value) (A : Around) (outer : List Env) (s : Shared) (H : Hp) (vs : List V) (Q : VK) (E : XK), Room k (A.deeper (envOfC d.qual d.scope s.heap.objs.size (d.at_ K) cdv)) → sp vs H Q E →
      ∃ t, PSs (cxOf CX P w K mg base N d.qual d.scope (d.at_ K) cdv A outer s H E) d.body t ∧ t { nx := fun _ H' => Q .non H', rt := Q } (start N vs) H) :
    (FnR P w K mg base CX (k + 1) (d.at_ K) (fun vs H Q E => sp (vs ++ [v.v K]) H Q E) ∧ FnR P w K mg base CX (k + 1) (d.at_ K) sp) ∧ PySem.W.keepIn K (.ref (d.at_ K)) = true := by
  obtain ⟨fd, F⟩ := p.S.def_ i hi
  have e1 : d.dvs K = [v.v K] := by unfold He5.DefA.dvs; rw [h1]; rfl
  have e2 : d.kws K = [] := by unfold He5.DefA.kws; rw [h2]; rfl
  rw [e1, e2] at F
  obtain ⟨ds, hd, B⟩ := F.binds1 (ps := ps) n 0 (by simp) (by simpa using hn) fun T kV doc pm an cdv ct us its hu hi => hb T kV doc pm an cdv ct us its hu (by simpa using hi)
  have G0 := F.ok (CX := CX) (P := P) (w := w) (mg := mg) (base := base) S len hbody
  have G := FnOk.raw G0 B hd
  refine ⟨⟨fun A outer s H us vs Q E hr e0 r hs => G A outer s H us vs Q E hr e0 r hs, ?_⟩, F.kp⟩
  obtain ⟨d2, hd2, B2⟩ := F.binds1 (ps := ps) ps.length 1 (by simp) (by simp) fun T kV doc pm an cdv ct us its hu hi => ha T kV doc pm an cdv ct us its hu (by simpa using hi)
  have G2 := FnOk.raw G0 B2 hd2
  exact fun A outer s H us vs Q E hr e0 r hs => G2 A outer s H us vs Q E hr e0 r (by show sp (vs ++ []) H Q E; rw [List.append_nil]; exact hs)
/-! ### a call -/
section
variable {X : Cx} {CX : CXT} {k : Nat} {f : Addr} {sp : Sp} {E : XK} {x : Str} {e : Expr} {es : List Expr} {t : TA} {p pos : Pos}
def tCR (sp : Sp) (E : XK) (t : TA) : TE := fun σ H Q => t σ H fun vs H1 => sp vs H1 Q E
theorem pe_cR (F : FnR X.prog X.w X.K X.mg X.base CX k f sp ∧ PySem.W.keepIn X.K (.ref f) = true) (hr : Room k X.A) (hm : X.mg x = some (.ref f)) (hx : Passes CX X E) (ha : PA X (e :: es) t) (hg : Gl X x := by rfl) (hd : (x == ("__debug__" : Str)) = false := by decide)
    (he : starEach (e :: es) X.env = (false, eval e X.env) :: starEach es X.env := by rfl) (hpl : (backTo pos (starEach es X.env)).any (·.1) = false := by rfl) :
    PE X (.Call (.Name x p) (e :: es) [] pos) (tCR sp E t) := by
  refine ⟨fun pins s σ H Q I h => ?_⟩
  refine wpAny_Call_Name_kw (ld_glob I hg hm ?_ hd)
  refine PySem.W.callWith_K (h₀ := X.base) I.ok.mod.kin F.2 (thn (ha.run pos pins s σ H _ I h) fun us s1 ⟨vs, H1, I1, r, q⟩ => ⟨I1.kIn, ?_⟩) he hpl
  exact wpAny_call (run_fnR F.1 hr hx I1 r q)
end
/-! ### arithmetic over wider bounds -/
section
variable {X : Cx}
theorem op_fdivL : OpR X (binaryOp .FloorDiv) (rI (fun _ j => j ≠ 0 ∧ j.natAbs < 2 ^ 80) fun i j => .int (i.fdiv j)) := opI fun i j _ _ _ _ _ hc q =>
  floordiv_int hc.1 q (.inl (PyProof.noPylong_of_log2 (by
    have h1 : j.natAbs ≠ 0 := by have := hc.1; omega
    have := (Nat.log2_lt h1 (k := 80)).mpr hc.2
    omega)))
theorem op_powL : OpR X (binaryOp .Pow) (rI (fun i j => 0 ≤ j ∧ (Builtin.Int.intBits i : Int) * j ≤ 2 ^ 27) fun i j => .int (i ^ j.toNat)) := opI fun _ _ _ _ _ _ _ hc q => pow_int hc.1 hc.2 q
end
end Tg
end
section
set_option Elab.async false
set_option autoImplicit false
set_option linter.all false
set_option maxRecDepth 100000
set_option maxHeartbeats 4000000
/-! Helps for the readings. -/
namespace Tg
open PySem PySem.Spec PyProof.Rows L2
theorem ifT {c : Bool} {A B : Prop} (h : c = true) (a : A) : if c = true then A else B := by rw [if_pos h]; exact a
theorem ifF {c : Bool} {A B : Prop} (h : c = false) (b : B) : if c = true then A else B := by rw [if_neg (by rw [h]; exact Bool.false_ne_true)]; exact b
theorem toQ {Q : VK} {a b : V} {H : Hp} (e : a = b) (q : Q b H) : Q a H := e ▸ q
theorem yesT {σ : L2.St} {H : Hp} {A B : Hp → Prop} (a : A H) : tYes σ H fun b H3 => if b = true then A H3 else B H3 := by
  show (if true = true then A H else B H)
  rw [if_pos rfl]; exact a
theorem un0 {k : Nat} {A : Around} (r : Room k A) : A.units < cLine := by have := r.un; omega
theorem un1 {k : Nat} {A : Around} (r : Room k A) : A.units + 1 < cLine := by have := r.un; omega
theorem un2 {k : Nat} {A : Around} (r : Room k A) : A.units + 2 < cLine := by have := r.un; omega
theorem toQ' {A B : Prop} (e : A = B) (b : B) : A := e ▸ b
theorem sm_new {H : Hp} {p : Addr} {o : HO} (h : H p = none) : Same H (upd H p o) := fun b u e => by
  have hne : b ≠ p := fun z => by rw [z, h] at e; cases e
  rw [upd_ne hne]; exact e
/-- only p changes -/
def But (p : Addr) (H H' : Hp) : Prop := ∀ b o, b ≠ p → H b = some o → H' b = some o
theorem But.refl (p : Addr) (H : Hp) : But p H H := fun _ _ _ h => h
theorem But.trans {p : Addr} {H H1 H2 : Hp} (a : But p H H1) (b : But p H1 H2) : But p H H2 := fun c o n h => b c o n (a c o n h)
theorem Same.but {p : Addr} {H H' : Hp} (a : Same H H') : But p H H' := fun b o _ h => a b o h
theorem But.upd {p : Addr} {H : Hp} {o : HO} : But p H (upd H p o) := fun b u n e => by rw [upd_ne n]; exact e
/-- from fresh p on -/
theorem But.same {p : Addr} {H H' : Hp} (h : H p = none) (a : But p H H') : Same H H' := fun b o e => a b o (fun z => by rw [z, h] at e; cases e) e
theorem sm_upd {H H1 : Hp} {p : Addr} {o : HO} (h : H p = none) (a : Same H H1) : Same H (upd H1 p o) := But.same h ((Same.but a).trans But.upd)
section
variable {J : It} {n : Nat} {G : Hp → Prop} {Y : Nat → Hp → V → Hp → Prop}
/-- a list comprehension whose items are known by the turn -/
theorem lcS (w : Walk J n G Y) {g : TG} {tt : TT} {te : TE} {vs : List Nat} {σ : L2.St} {H1 : Hp} {D : Addr} {Qd : Hp → Prop} (f : Nat → V) (kp : Nat → Bool) (hn : n ≤ sizeLine) (h1 : H1 D = none) (hG : ∀ H, Same H1 H → G H)
    (hs : ∀ i x H H' (R : V → Hp → Prop) (R0 : Hp → Prop), i < n → Same H1 H → Y i H x H' → (kp i = true → ∀ y H4, y = f i → Same H H4 → R y H4) → (kp i = false → ∀ H3, Same H H3 → R0 H3) →
      g x (wipe σ vs) H' fun σ2 H2 => wipe σ2 vs = wipe σ vs ∧ tt σ2 H2 fun b H3 => if b = true then te σ2 H3 R else R0 H3)
    (hd : ∀ H, Same H1 H → H D = some (.lst (((List.range n).filter kp).map f)) → Qd H) :
    ∃ W : Nat → Nat → Hp → Prop, (∃ m, W 0 m (upd H1 D (.lst []))) ∧ ∀ i m H, W i m H →
      (J.stop i H ∧ Qd H) ∨ (J.go i H ∧ ∃ Nx : Hp → Prop, (∀ H', Nx H' → ∃ m', m' < m ∧ W (i + 1) m' H') ∧ ∀ x H', J.yld i H x H' → g x (wipe σ vs) H' fun σ2 H2 => wipe σ2 vs = wipe σ vs ∧ tt σ2 H2 fun b H3 =>
        if b = true then te σ2 H3 fun y H4 => ∃ acc, H4 D = some (.lst acc) ∧ acc.length < sizeLine ∧ Nx (upd H4 D (.lst (acc ++ [y]))) else Nx H3) := by
  refine lc_it w (fun i H => Same H1 H ∧ H D = some (.lst (((List.range i).filter kp).map f))) ⟨sm_new h1, by rw [upd_same]; rfl⟩ (fun i H _ p => hG H p.1) (fun i x H H' hi p y => ?_) (fun H p => hd H p.1 p.2)
  refine hs i x H H' _ _ hi p.1 y (fun hk y H4 e s => ?_) (fun hk H3 s => ?_)
  · have e4 := s D _ p.2
    refine ⟨_, e4, ?_, sm_upd h1 (Same.trans p.1 s), ?_⟩
    · have : (((List.range i).filter kp).map f).length ≤ i := by
        rw [List.length_map]; exact Nat.le_trans (List.length_filter_le _ _) (by simp)
      omega
    · rw [upd_same, e, List.range_succ, List.filter_append, List.map_append]
      simp [hk]
  · refine ⟨Same.trans p.1 s, ?_⟩
    rw [s D _ p.2, List.range_succ, List.filter_append, List.map_append]
    simp [hk]
/-- a dict comprehension whose entries are known by the turn -/
theorem dcS1 {X : Cx} {hu : X.A.units < cLine} (w : Walk J n G Y) {g : TG} {tt : TT} {tk tv : TE} {vs : List Nat} {σ : L2.St} {H1 : Hp} {D : Addr} {Qd : Hp → Prop} (f : Nat → K × Int) (kp : Nat → Bool) (hn : n ≤ sizeLine) (h1 : H1 D = none) (hG : ∀ H, Same H1 H → G H)
    (hnd : (((List.range n).filter kp).map fun i => (f i).1).Nodup)
    (hs : ∀ i x H H' (R : V → V → Hp → Prop) (R0 : Hp → Prop), i < n → Same H1 H → Y i H x H' → (kp i = true → ∀ b z H5, H5 b = some (.tup ((f i).1.map V.int)) → z = .int (f i).2 → Same H H5 → R (.ref b) z H5) → (kp i = false → ∀ H3, Same H H3 → R0 H3) →
      g x (wipe σ vs) H' fun σ2 H2 => wipe σ2 vs = wipe σ vs ∧ tt σ2 H2 fun b H3 => if b = true then tk σ2 H3 fun y H4 => tv σ2 H4 fun z H5 => R y z H5 else R0 H3)
    (hd : ∀ H, Same H1 H → H D = some (.dT (et (((List.range n).filter kp).map f))) → Qd H) :
    ∃ W : Nat → Nat → Hp → Prop, (∃ m, W 0 m (upd H1 D (stT X hu).o0)) ∧ ∀ i m H, W i m H →
      (J.stop i H ∧ Qd H) ∨ (J.go i H ∧ ∃ Nx : Hp → Prop, (∀ H', Nx H' → ∃ m', m' < m ∧ W (i + 1) m' H') ∧ ∀ x H', J.yld i H x H' →
        g x (wipe σ vs) H' fun σ2 H2 => wipe σ2 vs = wipe σ vs ∧ tt σ2 H2 fun b H3 =>
          if b = true then tk σ2 H3 fun y H4 => tv σ2 H4 fun z H5 => ∃ H6, (stT X hu).rel H5 D y z H6 ∧ Nx H6 else Nx H3) := by
  refine dcS_it w (fun i H => Same H1 H ∧ H D = some (.dT (et (((List.range i).filter kp).map f)))) ⟨sm_new h1, by rw [upd_same]; rfl⟩ (fun i H _ p => hG H p.1) (fun i x H H' hi p y => ?_) (fun H p => hd H p.1 p.2)
  refine hs i x H H' _ _ hi p.1 y (fun hk b z H5 e ez s => ?_) (fun hk H3 s => ?_)
  · subst ez
    have e4 := s D _ p.2
    refine ⟨upd H5 D (.dT (putK (et (((List.range i).filter kp).map f)) (ek (f i).1) (.int (f i).2))), ⟨_, ek (f i).1, b, e4, rfl, by rw [ek_kV]; exact e, ?_, rfl⟩, sm_upd h1 (Same.trans p.1 s), ?_⟩
    · rw [et_length, List.length_map]
      have : ((List.range i).filter kp).length ≤ i := Nat.le_trans (List.length_filter_le _ _) (by simp)
      omega
    · rw [upd_same, putK_et, put_new, List.range_succ, List.filter_append, List.map_append]
      · simp [hk]
      · intro hm
        have hle : i + 1 ≤ n := hi
        have h2 : (((List.range (i + 1)).filter kp).map fun i => (f i).1).Nodup := by
          have hsub : ((List.range (i + 1)).filter kp).Sublist ((List.range n).filter kp) := by
            refine List.Sublist.filter _ ?_
            have e : List.range n = List.range (i + 1) ++ (List.range (n - (i + 1))).map (fun x => i + 1 + x) := by
              rw [← List.range_add]; congr 1; omega
            rw [e]
            exact List.sublist_append_left _ _
          exact (hsub.map _).nodup hnd
        rw [List.range_succ, List.filter_append, List.map_append, List.nodup_append] at h2
        have h3 := h2.2.2 (f i).1 (by rw [List.map_map] at hm; exact hm) (f i).1 (by simp [hk])
        exact h3 rfl
  · refine ⟨Same.trans p.1 s, ?_⟩
    rw [s D _ p.2, List.range_succ, List.filter_append, List.map_append]
    simp [hk]
end
theorem map_get {α β : Type} (l : List α) (d : α) (f : α → β) : (List.range l.length).map (fun i => f (l.getD i d)) = l.map f := by
  apply List.ext_getElem
  · simp
  · intro i h1 h2
    simp only [List.length_map, List.length_range] at h1
    simp [h1]
theorem get_D {α : Type} {l : List α} {i : Nat} {x d : α} (h : l[i]? = some x) : l.getD i d = x := by
  rw [List.getD_eq_getElem?_getD, h]; rfl
theorem filt_true {α : Type} (l : List α) : l.filter (fun _ => true) = l := List.filter_eq_self.mpr (by simp)
theorem filt_map_get {α β : Type} (l : List α) (d : α) (p : α → Bool) (f : α → β) : ((List.range l.length).filter (fun i => p (l.getD i d))).map (fun i => f (l.getD i d)) = (l.filter p).map f := by
  have h := map_get l d (fun x => x)
  rw [List.map_id''] at h
  · conv => rhs; rw [← h, List.filter_map, List.map_map]
    rfl
  · intro _; rfl
theorem fmod_pos {a b : Int} (h : 0 < b) : a.fmod b = a % b := Int.fmod_eq_emod_of_nonneg a (by omega)
theorem fdiv_pos {a b : Int} (h : 0 < b) : a.fdiv b = a / b := Int.fdiv_eq_ediv_of_nonneg a (by omega)
end Tg
end
section
set_option Elab.async false
set_option autoImplicit false
set_option linter.all false
set_option maxRecDepth 100000
set_option maxHeartbeats 4000000
/-! The hashes of small exponents; locks. -/
namespace Tg
open PySem PySem.Spec PyProof.Rows L2
def m2 (D : Nat) : List K := (List.range (D + 1)).map fun (i : Nat) => [(i : Int), ((D - i : Nat) : Int)]
def m3 (D : Nat) : List K := (List.range (D + 1)).flatMap fun (i : Nat) => (List.range (D - i + 1)).map fun (j : Nat) => [(i : Int), (j : Int), ((D - i - j : Nat) : Int)]
theorem m2_mem {D : Nat} {k : K} (h : Mo 2 (D : Int) k) : k ∈ m2 D := by
  obtain ⟨hl, hn, hs⟩ := h
  match k, hl with
  | [a, b], _ =>
    have h1 := hn a (by simp)
    have h2 := hn b (by simp)
    simp at hs
    refine List.mem_map.mpr ⟨a.toNat, by simp; omega, ?_⟩
    congr 1
    · omega
    · congr 1; omega
theorem m3_mem {D : Nat} {k : K} (h : Mo 3 (D : Int) k) : k ∈ m3 D := by
  obtain ⟨hl, hn, hs⟩ := h
  match k, hl with
  | [a, b, c], _ =>
    have h1 := hn a (by simp)
    have h2 := hn b (by simp)
    have h3 := hn c (by simp)
    simp at hs
    refine List.mem_flatMap.mpr ⟨a.toNat, by simp; omega, List.mem_map.mpr ⟨b.toNat, by simp; omega, ?_⟩⟩
    congr 1
    · omega
    · congr 1
      · omega
      · congr 1; omega
def hs (k : K) : Int := reduceHash (Builtin.Tuple.tupleHashOf (k.map hashInt))
theorem hash2 : ∀ D : _root_.Fin 7, ((m2 D.val).map hs).Nodup := by decide +kernel
theorem hash3 : ∀ D : _root_.Fin 7, ((m3 D.val).map hs).Nodup := by decide +kernel
section
variable {P : Program} {w : World}
theorem hs_of (k : K) : (tupleKind (mixKind P w)).hash (ek k) = hs k := by
  show reduceHash (Builtin.Tuple.tupleHashOf ((ek k).map (mixKind P w).hash)) = _
  unfold hs ek
  rw [List.map_map]
  rfl
theorem inj_of_nodup {α β : Type} {f : α → β} : ∀ {l : List α}, (l.map f).Nodup → ∀ a ∈ l, ∀ b ∈ l, f a = f b → a = b
  | [], _, a, ha, _, _, _ => by cases ha
  | x :: l, h, a, ha, b, hb, e => by
    rw [List.map_cons, List.nodup_cons] at h
    rcases List.mem_cons.mp ha with e1 | h1
    · rcases List.mem_cons.mp hb with e2 | h2
      · rw [e1, e2]
      · exact absurd (by rw [← e1, e]; exact List.mem_map_of_mem h2) h.1
    · rcases List.mem_cons.mp hb with e2 | h2
      · exact absurd (by rw [← e2, ← e]; exact List.mem_map_of_mem h1) h.1
      · exact inj_of_nodup h.2 a h1 b h2 e
/-- letters -/
def Lt (L : Nat) : Prop := L = 2 ∨ L = 3
theorem hash_inj {L : Nat} {D : Int} (hL : Lt L) (hD : D ≤ 6) {k j : K} (hk : Mo L D k) (hj : Mo L D j) (e : (tupleKind (mixKind P w)).hash (ek k) = (tupleKind (mixKind P w)).hash (ek j)) : k = j := by
  rw [hs_of, hs_of] at e
  have h0 := hk.deg
  obtain ⟨n, rfl⟩ := Int.eq_ofNat_of_zero_le h0
  have hn : n < 7 := by omega
  rcases hL with rfl | rfl
  · exact inj_of_nodup (hash2 ⟨n, hn⟩) k (m2_mem hk) j (m2_mem hj) e
  · exact inj_of_nodup (hash3 ⟨n, hn⟩) k (m3_mem hk) j (m3_mem hj) e
theorem hash_nd {L : Nat} {D : Int} (hL : Lt L) (hD : D ≤ 6) : ∀ {t : T}, Nd t → (∀ e ∈ t, Mo L D e.1) → ((et t).map fun e => (tupleKind (mixKind P w)).hash e.1).Nodup
  | [], _, _ => List.nodup_nil
  | e :: t, h, hm => by
    unfold Nd at h
    rw [List.map_cons, List.nodup_cons] at h
    show (((tupleKind (mixKind P w)).hash (ek e.1)) :: (et t).map fun e => (tupleKind (mixKind P w)).hash e.1).Nodup
    rw [List.nodup_cons]
    refine ⟨fun hc => ?_, hash_nd hL hD h.2 fun x hx => hm x (List.mem_cons_of_mem _ hx)⟩
    obtain ⟨z, hz, e2⟩ := List.mem_map.mp hc
    obtain ⟨x, hx, rfl⟩ := List.mem_map.mp hz
    have e3 := hash_inj hL hD (hm x (List.mem_cons_of_mem _ hx)) (hm e List.mem_cons_self) e2
    exact h.1 (e3 ▸ List.mem_map_of_mem hx)
end
/-! ### locks -/
theorem lk_get {H : Hp} {d b : Addr} {u o v : HO} (hd : H d = some u) (hb : H b = some o) (ne : o ≠ u) : upd H d v b = some o := by
  rw [upd_ne (ne_of hb hd ne)]; exact hb
theorem lk_back {H H' : Hp} {d : Addr} {u v : HO} (hd : H d = some u) (s : Same (upd H d v) H') : Same H (upd H' d u) := fun b o e => by
  by_cases hb : b = d
  · subst hb; rw [upd_same, ← hd]; exact e
  · rw [upd_ne hb]; exact s b o (by rw [upd_ne hb]; exact e)
theorem lk_tup {H : Hp} {d b : Addr} {t : List (List Key × V)} {xs : List V} {v : HO} (hd : H d = some (.dT t)) (hb : H b = some (.tup xs)) : upd H d v b = some (.tup xs) := lk_get hd hb (fun z => nomatch z)
theorem lk_none {H : Hp} {d b : Addr} {u v : HO} (hd : H d = some u) (hb : upd H d v b = none) : H b = none ∧ b ≠ d := by
  have hne : b ≠ d := fun z => by rw [z, upd_same] at hb; cases hb
  rw [upd_ne hne] at hb
  exact ⟨hb, hne⟩
end Tg
end
section
set_option Elab.async false
set_option autoImplicit false
set_option linter.all false
set_option maxRecDepth 100000
set_option maxHeartbeats 4000000
/-! Numbers. -/
namespace Tg
open PySem PySem.Spec PyProof.Rows L2
theorem pe_gint {X : Cx} {x : Str} {n : Int} {pos : Pos} (hg : Gl X x) (h : ∃ t, X.mg x = some (.int n t)) (hd : (x == ("__debug__" : Str)) = false := by decide) : PE X (.Name x pos) (tC (.int n)) := by
  obtain ⟨t, e⟩ := h
  exact pe_glob hg e ⟨t, rfl⟩ hd
theorem bo_bool : bootBuiltins "bool" = some (.type "bool") := by decide +kernel
theorem bo_int : bootBuiltins "int" = some (.type "int") := by decide +kernel
theorem bo_dict : bootBuiltins "dict" = some (.type "dict") := by decide +kernel
theorem bo_tuple : bootBuiltins "tuple" = some (.type "tuple") := by decide +kernel
theorem bo_isi : bootBuiltins "isinstance" = some (.builtin "isinstance") := by decide +kernel
theorem bo_len : bootBuiltins "len" = some (.builtin "len") := by decide +kernel
theorem bo_all : bootBuiltins "all" = some (.builtin "all") := by decide +kernel
theorem bo_abs : bootBuiltins "abs" = some (.builtin "abs") := by decide +kernel
theorem bo_max : bootBuiltins "max" = some (.builtin "max") := by decide +kernel
theorem bo_min : bootBuiltins "min" = some (.builtin "min") := by decide +kernel
theorem bo_sum : bootBuiltins "sum" = some (.builtin "sum") := by decide +kernel
theorem bo_sorted : bootBuiltins "sorted" = some (.builtin "sorted") := by decide +kernel
section
variable {P : Program} {w : World} {K : PySem.W.Frag} {mg : Str → Option Value} {base : Heap}
def sp_is_whole : Sp := fun vs H Q _ => ∃ n : Int, vs = [.int n] ∧ Q (.bl true) H
theorem sc_is_whole : FnScope ["value"] ["value"] (defScope s_is_whole) := ⟨rfl, rfl, rfl, by decide +kernel, rfl, by decide +kernel, by decide +kernel⟩
theorem w_is_whole (px : Px K mg) : FnR P w K mg base CX0 1 (d_is_whole.at_ K) sp_is_whole ∧ PySem.W.keepIn K (.ref (d_is_whole.at_ K)) = true := by
  refine px.R 0 rfl rfl rfl sc_is_whole (fun vs H Q E ⟨_, e, _⟩ => by rw [e]; rfl) (fun _ _ _ _ _ _ us hl => match us, hl with | [_], _ => rfl) (fun cdv A outer s H vs Q E hr h => ⟨_, (pss_one (ps_ret (pe_and (pe_callB call_isi rfl (px.f "isinstance" (by simp [freeL])) bo_isi (pa_cons (pv 0) (pa_cons (pe_bltn (v := .ty "int") rfl (px.f "int" (by simp [freeL])) bo_int rfl) pa_nil))) (pe_one (pe_not (pe_callB call_isi rfl (px.f "isinstance" (by simp [freeL])) bo_isi (pa_cons (pv 0) (pa_cons (pe_bltn (v := .ty "bool") rfl (px.f "bool" (by simp [freeL])) bo_bool rfl) pa_nil)))))))), ?_⟩)
  obtain ⟨n, rfl, q⟩ := h
  exact ⟨_, rfl, _, _, _, _, true, rfl, .ty _, .base (.int n), rfl, true, rfl, iteT ⟨_, rfl, _, _, _, _, false, rfl, .ty _, .base (.int n), by first | rfl | (with_unfolding_all rfl) | decide +kernel, false, rfl, q⟩⟩
def sp_is_within : Sp := fun vs H Q _ => ∃ v lo hi : Int, vs = [.int v, .int lo, .int hi] ∧ Q (.bl (decide (lo ≤ v ∧ v ≤ hi))) H
theorem sc_is_within : FnScope ["value", "low", "high"] ["value", "low", "high"] (defScope s_is_within) := ⟨rfl, rfl, rfl, by decide +kernel, rfl, by decide +kernel, by decide +kernel⟩
theorem w_is_within (px : Px K mg) : FnR P w K mg base CX0 2 (d_is_within.at_ K) sp_is_within ∧ PySem.W.keepIn K (.ref (d_is_within.at_ K)) = true := by
  refine px.R 1 rfl rfl rfl sc_is_within (fun vs H Q E ⟨_, _, _, e, _⟩ => by rw [e]; rfl) (fun _ _ _ _ _ _ us hl => match us, hl with | [_, _, _], _ => rfl) (fun cdv A outer s H vs Q E hr h => ⟨_, (pss_one (ps_ret (pe_and (pe_cR (w_is_whole px) (hr.mono (by decide)) (px.g "is_whole" (by simp [gloL])) pass0 (pa_cons (pv 0) pa_nil)) (pe_one (pe_chain op_le op_le (pv 1) (pv 0) (pv 2)))))), ?_⟩)
  obtain ⟨v, lo, hi, rfl, q⟩ := h
  refine ⟨_, rfl, _, rfl, true, rfl, iteT ⟨_, rfl, _, rfl, _, _, rfl, rfl, _, rfl, ?_⟩⟩
  by_cases h1 : lo ≤ v
  · rw [if_pos (decide_eq_true h1)]
    refine ⟨_, rfl, _, _, rfl, rfl, ?_⟩
    have e : decide (lo ≤ v ∧ v ≤ hi) = decide (v ≤ hi) := by simp [h1]
    rw [e] at q; exact q
  · rw [if_neg (by simp [h1])]
    have e : decide (lo ≤ v ∧ v ≤ hi) = false := by simp [h1]
    rw [e] at q; exact q
def sp_is_prime : Sp := fun vs H Q _ => ∃ p : Int, vs = [.int p] ∧ Pm p ∧ Q (.bl true) H
theorem sc_is_prime : FnScope ["value"] ["value"] (defScope s_is_prime) := ⟨rfl, rfl, rfl, by decide +kernel, rfl, by decide +kernel, by decide +kernel⟩
theorem w_is_prime (px : Px K mg) : FnR P w K mg base CX0 2 (d_is_prime.at_ K) sp_is_prime ∧ PySem.W.keepIn K (.ref (d_is_prime.at_ K)) = true := by
  refine px.R 2 rfl rfl rfl sc_is_prime (fun vs H Q E ⟨_, e, _⟩ => by rw [e]; rfl) (fun _ _ _ _ _ _ us hl => match us, hl with | [_], _ => rfl) (fun cdv A outer s H vs Q E hr h => ⟨_, (pss_one (ps_ret (pe_and (pe_cR (w_is_whole px) (hr.mono (by decide)) (px.g "is_whole" (by simp [gloL])) pass0 (pa_cons (pv 0) pa_nil)) (pe_one (pe_or (pe_cmpR op_eq (pv 0) pe_int (nomark _)) (pe_one (pe_cmpR op_in_seq (pv 0) (pe_glob (v := .ref (He.ga K "PRIMES")) rfl (px.g "PRIMES" (by simp [gloL])) rfl) (by with_unfolding_all rfl)))))))), ?_⟩)
  obtain ⟨p, rfl, hp, q⟩ := h
  refine ⟨_, rfl, _, rfl, true, rfl, iteT ⟨_, rfl, rfl, ⟨_, rfl, ?_⟩⟩⟩
  have fin : ∀ b : Bool, b = true → ∀ R : Prop, (b = false → R) → (if b = true then Q (.bl true) H else R) := fun b hb R _ => by rw [if_pos hb]; exact q
  rcases hp with e | e | e | e | e | e <;> subst e
  · exact iteT q
  all_goals exact iteF ⟨_, rfl, _, _, rfl, .inr (px.primes H), rfl, rfl, q⟩
def sp_require_prime : Sp := fun vs H Q _ => ∃ p : Int, vs = [.int p] ∧ Pm p ∧ Q .non H
theorem sc_require_prime : FnScope ["value"] ["value"] (defScope s_require_prime) := ⟨rfl, rfl, rfl, by decide +kernel, rfl, by decide +kernel, by decide +kernel⟩
theorem w_require_prime (px : Px K mg) : FnR P w K mg base CX0 3 (d_require_prime.at_ K) sp_require_prime ∧ PySem.W.keepIn K (.ref (d_require_prime.at_ K)) = true := by
  refine px.R 3 rfl rfl rfl sc_require_prime (fun vs H Q E ⟨_, e, _⟩ => by rw [e]; rfl) (fun _ _ _ _ _ _ us hl => match us, hl with | [_], _ => rfl) (fun cdv A outer s H vs Q E hr h => ⟨_, (pss_one (ps_if (pt_not (pt_val (pe_cR (w_is_prime px) (hr.mono (by decide)) (px.g "is_prime" (by simp [gloL])) pass0 (pa_cons (pv 0) pa_nil)))) (pss_one (ps_never)) pss_nil)), ?_⟩)
  obtain ⟨p, rfl, hp, q⟩ := h
  exact ⟨_, rfl, _, rfl, hp, true, rfl, q⟩
def sp_is_number_of : Sp := fun vs H Q _ => ∃ p v B : Int, vs = [.int p, .int v, .int B] ∧ (p ≠ 0 → 0 ≤ v ∧ v < p) ∧ (p = 0 → -B < v ∧ v < B) ∧ Q (.bl true) H
theorem sc_is_number_of : FnScope ["prime", "value", "beyond"] ["prime", "value", "beyond"] (defScope s_is_number_of) := ⟨rfl, rfl, rfl, by decide +kernel, rfl, by decide +kernel, by decide +kernel⟩
theorem w_is_number_of (px : Px K mg) : (FnR P w K mg base CX0 2 (d_is_number_of.at_ K) (fun vs H Q E => sp_is_number_of (vs ++ [.int (10 ^ 60)]) H Q E) ∧ FnR P w K mg base CX0 2 (d_is_number_of.at_ K) sp_is_number_of) ∧ PySem.W.keepIn K (.ref (d_is_number_of.at_ K)) = true := by
  refine px.R1 (n := 2) (v := .int (10 ^ 60)) 4 rfl rfl rfl sc_is_number_of rfl (fun vs H Q E ⟨_, _, _, e, _⟩ => by rw [e]; rfl) (fun T kV doc pm an cdv ct us its hu hi => match us, hu, its, hi with | [_, _], _, [_], _ => ⟨_, rfl, rfl⟩)
    (fun T kV doc pm an cdv ct us its hu hi => match us, hu, its, hi with | [_, _, _], _, [_], _ => ⟨_, rfl, rfl⟩) (fun cdv A outer s H vs Q E hr h => ⟨_, (pss_cons (ps_if (pt_not (pt_val (pe_cR (w_is_whole px) (hr.mono (by decide)) (px.g "is_whole" (by simp [gloL])) pass0 (pa_cons (pv 1) pa_nil)))) (pss_one (ps_ret pe_bl)) pss_nil) (pss_cons (ps_if (pt_cmpR op_ne (pv 0) pe_int (nomark _)) (pss_one (ps_ret (pe_chain op_le op_lt pe_int (pv 1) (pv 0)))) pss_nil) (pss_one (ps_ret (pe_or (pe_cmp (pc_isN (pv 2))) (pe_one (pe_chain op_lt op_lt (pe_un un_neg (pv 2)) (pv 1) (pv 2)))))))), ?_⟩)
  obtain ⟨p, v, B, rfl, h1, h2, q⟩ := h
  refine ⟨_, rfl, _, rfl, true, rfl, ?_⟩
  show (if (!true) = true then _ else _)
  refine iteF ⟨_, rfl, rfl, _, rfl, ?_⟩
  by_cases h0 : p = 0
  · obtain ⟨l, r⟩ := h2 h0
    refine ifF (by simp [eqV, h0]) ⟨_, rfl, _, rfl, ifF (by simp) ⟨_, rfl, _, rfl, _, rfl, _, _, rfl, rfl, _, rfl, ifT (decide_eq_true l) ⟨_, rfl, _, _, rfl, rfl, ?_⟩⟩⟩
    exact toQ (by simp [r]) q
  · obtain ⟨l, r⟩ := h1 h0
    refine ifT (by simp [eqV, h0]) ⟨_, rfl, _, _, rfl, rfl, _, rfl, ifT (decide_eq_true l) ⟨_, rfl, _, _, rfl, rfl, ?_⟩⟩
    exact toQ (by simp [r]) q
def sp_lowered_by : Sp := fun vs H Q _ => ∃ p n : Int, vs = [.int p, .int n] ∧ Pm p ∧ Q (.int (low p n)) H
theorem sc_lowered_by : FnScope ["prime", "number"] ["prime", "number"] (defScope s_lowered_by) := ⟨rfl, rfl, rfl, by decide +kernel, rfl, by decide +kernel, by decide +kernel⟩
theorem w_lowered_by (px : Px K mg) : FnR P w K mg base CX0 1 (d_lowered_by.at_ K) sp_lowered_by ∧ PySem.W.keepIn K (.ref (d_lowered_by.at_ K)) = true := by
  refine px.R 5 rfl rfl rfl sc_lowered_by (fun vs H Q E ⟨_, _, e, _⟩ => by rw [e]; rfl) (fun _ _ _ _ _ _ us hl => match us, hl with | [_, _], _ => rfl) (fun cdv A outer s H vs Q E hr h => ⟨_, (pss_one (ps_ret (pe_ifExp (pt_cmpR op_eq (pv 0) pe_int (nomark _)) (pv 1) (pe_op op_modN (pv 1) (pv 0))))), ?_⟩)
  obtain ⟨p, n, rfl, hp, q⟩ := h
  refine ⟨_, rfl, rfl, _, rfl, ?_⟩
  by_cases h0 : p = 0
  · refine ifT (by simp [h0]) ⟨_, rfl, ?_⟩
    rw [h0, low0] at q; exact q
  · refine ifF (by simp [h0]) ⟨_, rfl, _, rfl, _, _, rfl, rfl, h0, ?_⟩
    have := hp.nn
    exact toQ (by show V.int (n.fmod p) = _; rw [fmod_pos (by omega), lowp h0]) q
def sp_inverse_of : Sp := fun vs H Q _ => ∃ p n : Int, vs = [.int p, .int n] ∧ Pm p ∧ p ≠ 0 ∧ low p n ≠ 0 ∧ ∀ i H', Same H H' → IsInv p n i → Q (.int i) H'
theorem sc_inverse_of : FnScope ["prime", "number", "ahead", "here", "left", "right", "many"] ["prime", "number"] (defScope s_inverse_of) := ⟨rfl, rfl, rfl, by decide +kernel, rfl, by decide +kernel, by decide +kernel⟩
/- prime 0 number 1 ahead 2 here 3 left 4 right 5 many 6 -/
theorem w_inverse_of (px : Px K mg) : FnR P w K mg base CX0 1 (d_inverse_of.at_ K) sp_inverse_of ∧ PySem.W.keepIn K (.ref (d_inverse_of.at_ K)) = true := by
  refine px.R 6 rfl rfl rfl sc_inverse_of (fun vs H Q E ⟨_, _, e, _⟩ => by rw [e]; rfl) (fun _ _ _ _ _ _ us hl => match us, hl with | [_, _], _ => rfl) (fun cdv A outer s H vs Q E hr h => ⟨_, (pss_cons (ps_asg (pe_tup (pa_cons (pv 0) (pa_cons (pe_op op_modN (pv 1) (pv 0)) (pa_cons pe_int (pa_cons pe_int pa_nil))))) (pg_tup rfl (pgs_cons (pg_name (i := 2) sc_inverse_of.nd rfl (Or.inl rfl)) (pgs_cons (pg_name (i := 3) sc_inverse_of.nd rfl (Or.inl rfl)) (pgs_cons (pg_name (i := 4) sc_inverse_of.nd rfl (Or.inl rfl)) (pgs_cons (pg_name (i := 5) sc_inverse_of.nd rfl (Or.inl rfl)) pgs_nil)))))) (pss_cons (ps_while PassesOwn.leaving (pt_cmpR op_gt (pv 3) pe_int (nomark _)) (pss_cons (ps_set (i := 6) sc_inverse_of.nd rfl (Or.inl rfl) (pe_op op_fdivL (pv 2) (pv 3))) (pss_cons (ps_par (i := 2) (j := 3) rfl sc_inverse_of.nd rfl rfl (by decide) rfl rfl (pa_cons (pv 3) (pa_cons (pe_op op_sub (pv 2) (pe_op op_mul (pv 6) (pv 3))) pa_nil)) (by rfl)) (pss_one (ps_par (i := 4) (j := 5) rfl sc_inverse_of.nd rfl rfl (by decide) rfl rfl (pa_cons (pv 5) (pa_cons (pe_op op_sub (pv 4) (pe_op op_mul (pv 6) (pv 5))) pa_nil)) (by rfl)))))) (pss_one (ps_ret (pe_op op_modN (pv 5) (pv 0)))))), ?_⟩)
  obtain ⟨p, n, rfl, hp, h0, hn, q⟩ := h
  have hp1 : 0 < p := by have := hp.nn; omega
  have hp2 := hp.le
  refine ⟨_, rfl, _, rfl, _, rfl, _, _, rfl, rfl, h0, by show 4 ≤ sizeLine; decide, fun t ht => ⟨_, _, rfl, SqT.of upd_same, rfl, _, _, rfl, _, _, rfl, _, _, rfl, _, _, rfl, rfl, ?_⟩⟩
  refine while_by (fun σ' H' => ∃ a h l r : Int, ∃ m, σ' = [some (.int p), some (.int n), some (.int a), some (.int h), some (.int l), some (.int r), m] ∧ Same H H' ∧ 0 < h ∧ h ≤ 11 ∧ 0 ≤ a ∧ a ≤ 11 ∧ (∃ x y : Int, x * a + y * h = 1) ∧ p ∣ h - r * n ∧ p ∣ a - l * n)
    (fun (σ' : L2.St) _ => match σ'[3]? with | some (some (V.int h)) => h.toNat | _ => 0) ?_ ?_ ?_
  · obtain ⟨i, hi, hi0⟩ := inv_ex hp h0 hn
    have hm : (0 : Int) < n % p := by
      have := Int.emod_nonneg n h0
      rw [lowp h0] at hn
      omega
    have hl := Int.emod_lt_of_pos n hp1
    refine ⟨p, n.fmod p, 0, 1, none, rfl, sm_new ht, ?_⟩
    rw [fmod_pos hp1]
    refine ⟨hm, by omega, by omega, hp2, ?_, ?_, ⟨1, by omega⟩⟩
    · have h1 : i * (n % p) % p = 1 := by have := low_mul' p i n; rw [lowp h0, lowp h0, lowp h0] at this; rw [this]; exact hi.2.2
      have h2 := Int.emod_add_mul_ediv (i * (n % p)) p
      exact ⟨-(i * (n % p) / p), i, by rw [h1] at h2; rw [Int.neg_mul, Int.mul_comm (i * (n % p) / p) p]; omega⟩
    · exact ⟨-(n / p), by have := Int.emod_add_mul_ediv n p; rw [Int.mul_neg]; omega⟩
  · rintro σ' H' ⟨a, h, l, r, m, rfl, sm, h1, h2, h3, h4, ⟨x, y, hxy⟩, d1, d2⟩
    refine ⟨_, rfl, _, _, rfl, rfl, _, rfl, ?_⟩
    by_cases hgt : (1 : Int) < h
    · refine ifT (decide_eq_true hgt) ⟨_, rfl, _, rfl, _, _, rfl, rfl, ⟨by omega, by omega⟩, _, rfl, _, rfl, _, rfl, _, rfl, _, _, rfl, rfl, ?_, _, _, rfl, rfl, _, _, rfl, _, rfl, _, rfl, _, rfl, _, rfl, _, _, rfl, rfl, ?_, _, _, rfl, rfl, _, _, rfl, ?_⟩
      · exact .inr ⟨by omega, by omega⟩
      · rw [fdiv_pos h1]
        have := Int.ediv_nonneg h3 (by omega : 0 ≤ h)
        have := Int.ediv_le_self h h3
        exact .inl ⟨by omega, by omega⟩
      · have em := Int.emod_add_mul_ediv a h
        have e1 : a - a.fdiv h * h = a % h := by rw [fdiv_pos h1, Int.mul_comm]; omega
        have e2 := Int.emod_nonneg a (by omega : h ≠ 0)
        have e3 := Int.emod_lt_of_pos a h1
        refine ⟨⟨h, a - a.fdiv h * h, r, l - a.fdiv h * r, _, rfl, sm, ?_, ?_, by omega, h2, ?_, ?_, d1⟩, ?_⟩
        · rw [e1]
          rcases Int.lt_or_eq_of_le e2 with z | z
          · exact z
          · exfalso
            have h5 : h ∣ a := Int.dvd_of_emod_eq_zero z.symm
            have h6 : h ∣ 1 := by rw [← hxy]; exact Int.dvd_add (Int.dvd_trans h5 (Int.dvd_mul_left x a)) (Int.dvd_mul_left y h)
            have := Int.le_of_dvd (by omega) h6
            omega
        · rw [e1]; omega
        · refine ⟨y + x * a.fdiv h, x, ?_⟩
          have : (y + x * a.fdiv h) * h + x * (a - a.fdiv h * h) = x * a + y * h := by grind
          rw [this]; exact hxy
        · obtain ⟨u, hu⟩ := d1
          obtain ⟨v, hv⟩ := d2
          refine ⟨v - a.fdiv h * u, ?_⟩
          have : a - a.fdiv h * h - (l - a.fdiv h * r) * n = (a - l * n) - a.fdiv h * (h - r * n) := by grind
          rw [this, hu, hv]
          grind
        · show (a - a.fdiv h * h).toNat < h.toNat
          rw [e1]; omega
    · refine ifF (by simpa using hgt) ⟨_, rfl, _, rfl, _, _, rfl, rfl, h0, ?_⟩
      have e1 : h = 1 := by omega
      subst e1
      refine toQ (b := .int (r % p)) ?_ (q _ H' sm ⟨Int.emod_nonneg r h0, Int.emod_lt_of_pos r hp1, ?_⟩)
      · show V.int (r.fmod p) = _
        rw [fmod_pos hp1]
      · have := low_mul p r n
        rw [lowp h0, lowp h0, lowp h0] at this
        rw [this]
        have h7 := one_low hp h0
        rw [← h7]
        obtain ⟨u, hu⟩ := d1
        rw [show r * n = 1 + p * (-u) by rw [Int.mul_neg]; omega, Int.add_mul_emod_self_left, h7]
  · rintro σ' H' Q1 Q2 hQ ⟨v, e, i, j, e1, e2, c, e3, h⟩
    exact ⟨v, e, i, j, e1, e2, c, e3, hQ _ _ h⟩
def sp_divisor_of : Sp := fun vs H Q _ => ∃ (a : Addr) (ns : List Int), vs = [.ref a] ∧ H a = some (.tup (ns.map V.int)) ∧ Q (.int (gl ns)) H
theorem sc_divisor_of : FnScope ["numbers", "found", "number"] ["numbers"] (defScope s_divisor_of) := ⟨rfl, rfl, rfl, by decide +kernel, rfl, by decide +kernel, by decide +kernel⟩
theorem w_divisor_of (px : Px K mg) : FnR P w K mg base CX0 1 (d_divisor_of.at_ K) sp_divisor_of ∧ PySem.W.keepIn K (.ref (d_divisor_of.at_ K)) = true := by
  refine px.R 7 rfl rfl rfl sc_divisor_of (fun vs H Q E ⟨_, _, e, _⟩ => by rw [e]; rfl) (fun _ _ _ _ _ _ us hl => match us, hl with | [_], _ => rfl) (fun cdv A outer s H vs Q E hr h => ⟨_, (pss_cons (ps_set (i := 1) sc_divisor_of.nd rfl (Or.inl rfl) pe_int) (pss_cons (ps_for PassesOwn.leaving rfl (pi_tup (pv 0)) (pg_name (i := 2) sc_divisor_of.nd rfl (Or.inl rfl)) (pss_one (ps_set (i := 1) sc_divisor_of.nd rfl (Or.inl rfl) (pe_callBfun cr_gcd (by rfl) px.gcd (pa_cons (pv 1) (pa_cons (pv 2) pa_nil)))))) (pss_one (ps_ret (pv 1))))), ?_⟩)
  obtain ⟨a, ns, rfl, ha, q⟩ := h
  refine ⟨_, rfl, _, rfl, ⟨_, SqT.of ha⟩, for_tup (xs := ns.map V.int) (fun i σ' H' => H' = H ∧ ∃ m, σ' = [some (.ref a), some (.int (gl (ns.take i))), m]) ⟨rfl, _, rfl⟩ (fun i σ' H' _ p => by rw [p.1]; exact SqT.of ha) ?_ ?_⟩
  · rintro i x σ' H' hx ⟨rfl, m, rfl⟩
    rw [List.getElem?_map] at hx
    obtain ⟨n, hn, rfl⟩ := Option.map_eq_some_iff.mp hx
    refine ⟨_, rfl, _, rfl, _, _, rfl, rfl, some (.int n), ?_⟩
    have e : gl (ns.take (i + 1)) = ((Int.gcd (gl (ns.take i)) n : Nat) : Int) := by
      rw [List.take_add_one, hn]
      simp only [gl, List.foldl_append, Option.toList, List.foldl_cons, List.foldl_nil]
    rw [e]
    rfl
  · rintro σ' H' ⟨rfl, m, rfl⟩
    rw [List.length_map, List.take_length]
    exact ⟨_, rfl, q⟩
theorem sc_normal_of : FnScope ["prime", "numbers", "first", "number", "factor", "divisor"] ["prime", "numbers"] (defScope s_normal_of) := ⟨rfl, rfl, rfl, by decide +kernel, rfl, by decide +kernel, by decide +kernel⟩
/- prime 0 numbers 1 first 2 number 3 factor 4 divisor 5 -/
theorem pow_le_kept {ns : List Int} (h : ∀ n ∈ ns, n.natAbs < 2 ^ 80) : ns = [] ∨ ∀ n0 t, ns = n0 :: t → n0 ≠ 0 → (gd n0 t).natAbs < 2 ^ 80 := by
  cases ns with
  | nil => exact .inl rfl
  | cons n0 t =>
    refine .inr fun n1 u e h0 => ?_
    obtain ⟨rfl, rfl⟩ := List.cons.inj e
    have d := gd_dvd (n0 := n0) (ns := t) List.mem_cons_self
    have := Int.natAbs_dvd_natAbs.mpr d
    have := Nat.le_of_dvd (by omega) this
    have := h n0 List.mem_cons_self
    omega
def sp_normal_of : Sp := fun vs H Q _ => ∃ (p : Int) (a : Addr) (ns : List Int), vs = [.int p, .ref a] ∧ Pm p ∧ H a = some (.tup (ns.map V.int)) ∧ Rn p ns ∧ (∀ n ∈ ns, n.natAbs < 2 ^ 80) ∧ ns.length < sizeLine ∧ ∀ r H' ms, Same H H' → H' r = some (.tup (ms.map V.int)) → Nr p ns ms → Q (.ref r) H'
theorem w_normal_of (px : Px K mg) : FnR P w K mg base CX0 2 (d_normal_of.at_ K) sp_normal_of ∧ PySem.W.keepIn K (.ref (d_normal_of.at_ K)) = true := by
  refine px.R 8 rfl rfl rfl sc_normal_of (fun vs H Q E ⟨_, _, _, e, _⟩ => by rw [e]; rfl) (fun _ _ _ _ _ _ us hl => match us, hl with | [_, _], _ => rfl) (fun cdv A outer s H vs Q E hr h => ⟨_, (pss_cons (ps_set (i := 2) sc_normal_of.nd rfl (Or.inl rfl) (pe_ix ix_list (pe_lst (StX.pa_star (pe_lc (own := [("number", 3)]) rfl sc_normal_of.nd (pi_tup (pv 1)) (blkOk_by (own := [("number", 3)]) (N := ["prime", "numbers", "first", "number", "factor", "divisor"]) (sc := (defScope s_normal_of)) (by decide +kernel)) (fun _ _ _ _ _ => (pg_name (i := 3) sc_normal_of.nd rfl (Or.inl rfl))) (fun _ _ _ _ _ => (pts_one (pt_cmpR op_ne (pv 3) pe_int (nomark _)))) (fun _ _ _ _ _ => (pv 3))) (pa_cons pe_int pa_nil))) pe_int (fun _ _ => rfl))) (pss_cons (ps_if (pt_cmpR op_eq (pv 2) pe_int (nomark _)) (pss_one (ps_ret (pe_tupleOf rfl (px.f "tuple" (by simp [freeL])) (pv 1)))) pss_nil) (pss_cons (ps_if (pt_cmpR op_ne (pv 0) pe_int (nomark _)) (pss_cons (ps_set (i := 4) sc_normal_of.nd rfl (Or.inr rfl) (pe_cR (w_inverse_of px) (hr.mono (by decide)) (px.g "inverse_of" (by simp [gloL])) pass0 (pa_cons (pv 0) (pa_cons (pv 2) pa_nil)))) (pss_one (ps_ret (pe_tupleOf rfl (px.f "tuple" (by simp [freeL])) (pe_lc (own := [("number", 3)]) rfl sc_normal_of.nd (pi_tup (pv 1)) (blkOk_by (own := [("number", 3)]) (N := ["prime", "numbers", "first", "number", "factor", "divisor"]) (sc := (defScope s_normal_of)) (by decide +kernel)) (fun _ _ _ _ _ => (pg_name (i := 3) sc_normal_of.nd rfl (Or.inl rfl))) (fun _ _ _ _ _ => pts_nil) (fun _ _ _ _ _ => (pe_op op_modN (pe_op op_mul (pv 3) (pv 4)) (pv 0)))))))) pss_nil) (pss_cons (ps_set (i := 5) sc_normal_of.nd rfl (Or.inr rfl) (pe_ifExp (pt_cmpR op_gt (pv 2) pe_int (nomark _)) (pe_cR (w_divisor_of px) (hr.mono (by decide)) (px.g "divisor_of" (by simp [gloL])) pass0 (pa_cons (pv 1) pa_nil)) (pe_un un_neg (pe_cR (w_divisor_of px) (hr.mono (by decide)) (px.g "divisor_of" (by simp [gloL])) pass0 (pa_cons (pv 1) pa_nil))))) (pss_one (ps_ret (pe_tupleOf rfl (px.f "tuple" (by simp [freeL])) (pe_lc (own := [("number", 3)]) rfl sc_normal_of.nd (pi_tup (pv 1)) (blkOk_by (own := [("number", 3)]) (N := ["prime", "numbers", "first", "number", "factor", "divisor"]) (sc := (defScope s_normal_of)) (by decide +kernel)) (fun _ _ _ _ _ => (pg_name (i := 3) sc_normal_of.nd rfl (Or.inl rfl))) (fun _ _ _ _ _ => pts_nil) (fun _ _ _ _ _ => (pe_op op_fdivL (pv 3) (pv 5))))))))))), ?_⟩)
  obtain ⟨p, a, ns, rfl, hp, ha, rn, hb, hz, q⟩ := h
  refine ⟨_, rfl, _, rfl, ⟨_, SqT.of ha⟩, fun D hD => ?_⟩
  refine lcS (walk_tup (K := K) (a := a) (xs := ns.map V.int)) (fun i => .int (ns.getD i 0)) (fun _ => true) (by rw [List.length_map]; omega) hD (fun H' sm => SqT.of (sm _ _ ha)) ?_ ?_
  · rintro i x H1 H2 R R0 hi sm ⟨rfl, hx⟩ kt kf
    rw [List.getElem?_map] at hx
    obtain ⟨n, hn, rfl⟩ := Option.map_eq_some_iff.mp hx
    have hn0 : n ≠ 0 := (rn n (List.mem_of_getElem? hn)).2
    exact ⟨rfl, _, rfl, rfl, _, rfl, ifT (by simp [eqV, hn0]) ⟨_, rfl, kt rfl _ _ (by rw [get_D hn]) (Same.refl _)⟩⟩
  · intro H1 sm hD1
    rw [List.length_map, filt_true, map_get] at hD1
    refine ⟨_, _, rfl, .inr (SqL.of hD1), ?_, fun z hz1 => ?_⟩
    · show (ns.map V.int ++ [V.int 0]).length ≤ sizeLine
      simp only [List.length_append, List.length_map, List.length_cons, List.length_nil]; omega
    have sm2 : Same H (upd H1 z (.lst (ns.map V.int ++ [V.int 0]))) := Same.trans sm (sm_new hz1)
    cases ns with
    | nil =>
      refine ⟨z, _, _, _, rfl, rfl, SqL.of upd_same, rfl, _, rfl, rfl, _, rfl, ifT (by decide) ⟨_, rfl, .inr ⟨_, _, rfl, SqT.of (sm2 _ _ ha), ?_⟩⟩⟩
      exact q _ _ [] sm2 (sm2 _ _ ha) rfl
    | cons n0 t =>
      have hn0 : n0 ≠ 0 := (rn n0 List.mem_cons_self).2
      refine ⟨z, _, 0, .int n0, rfl, rfl, SqL.of upd_same, atI_nat (j := 0) rfl, _, rfl, rfl, _, rfl, ifF (by simp [hn0]) ?_⟩
      by_cases h0 : p = 0
      · refine ⟨_, rfl, rfl, _, rfl, ifF (by simp [eqV, h0]) ?_⟩
        have hgd : (gd n0 t).natAbs < 2 ^ 80 := (pow_le_kept hb).elim (fun z => nomatch z) fun z => z n0 t rfl hn0
        have hgn := gd_ne (ns := t) hn0
        have fin : ∀ (D2 : Addr) (σ' : L2.St), (upd H1 z (.lst ((n0 :: t).map V.int ++ [V.int 0]))) D2 = none → σ'.length = 6 → σ'[1]? = some (some (.ref a)) → σ'[5]? = some (some (.int (gd n0 t))) → 
            ∃ W : Nat → Nat → Hp → Prop, (∃ m, W 0 m (upd (upd H1 z (.lst ((n0 :: t).map V.int ++ [V.int 0]))) D2 (.lst []))) ∧ ∀ i m H, W i m H →
              ((Itt K a).stop i H ∧ kTup K (.ref D2) H Q) ∨ ((Itt K a).go i H ∧ ∃ Nx : Hp → Prop, (∀ H', Nx H' → ∃ m', m' < m ∧ W (i + 1) m' H') ∧ ∀ x H', (Itt K a).yld i H x H' → gName 3 x (wipe σ' [3]) H' fun σ2 H2 => wipe σ2 [3] = wipe σ' [3] ∧ tYes σ2 H2 fun b H3 =>
                if b = true then tOp (rI (fun x j => j ≠ 0 ∧ j.natAbs < 2 ^ 80) fun i j => V.int (i.fdiv j)) (tVar 3) (tVar 5) σ2 H3 fun y H4 => ∃ acc, H4 D2 = some (.lst acc) ∧ acc.length < sizeLine ∧ Nx (upd H4 D2 (.lst (acc ++ [y]))) else Nx H3) := by
          intro D2 σ' hD2 hl e1 e5
          refine lcS (walk_tup (K := K) (a := a) (xs := (n0 :: t).map V.int)) (fun j => .int ((n0 :: t).getD j 0 / gd n0 t)) (fun _ => true) (by rw [List.length_map]; omega) hD2 (fun H' sm => SqT.of (sm _ _ (sm2 _ _ ha))) ?_ ?_
          · rintro j x H3 H4 R R0 hj sm5 ⟨rfl, hx⟩ kt kf
            rw [List.getElem?_map] at hx
            obtain ⟨n, hn, rfl⟩ := Option.map_eq_some_iff.mp hx
            match σ', hl, e1, e5 with
            | [x0, x1, x2, x3, x4, x5], _, e1, e5 =>
              have e5' : x5 = some (.int (gd n0 t)) := by simpa using e5
              subst e5'
              refine ⟨rfl, ifT (B := R0 H4) rfl ⟨_, rfl, _, rfl, _, _, rfl, rfl, ⟨hgn, hgd⟩, ?_⟩⟩
              refine kt rfl _ _ ?_ (Same.refl _)
              rw [get_D hn]
              show V.int (n.fdiv (gd n0 t)) = _
              rw [Int.fdiv_eq_ediv_of_dvd (gd_dvd (List.mem_of_getElem? hn))]
          · intro H3 sm5 hD3
            rw [List.length_map, filt_true, map_get (n0 :: t) 0 (fun n => V.int (n / gd n0 t))] at hD3
            refine .inl ⟨_, _, rfl, SqL.of hD3, fun r hr => ?_⟩
            refine q r _ ((n0 :: t).map fun n => n / gd n0 t) (Same.trans sm2 (Same.trans sm5 (sm_new hr))) ?_ (.inr ⟨h0, rfl⟩)
            rw [upd_same, List.map_map]
            rfl
        refine ⟨_, rfl, _, _, rfl, rfl, _, rfl, ?_⟩
        by_cases hpos : 0 < n0
        · refine ifT (decide_eq_true hpos) ⟨_, rfl, a, n0 :: t, rfl, sm2 _ _ ha, ?_⟩
          refine ⟨_, rfl, _, rfl, ⟨_, SqT.of (sm2 _ _ ha)⟩, fun D2 hD2 => ?_⟩
          refine fin D2 _ hD2 rfl rfl ?_
          unfold gd; rw [if_pos hpos]; rfl
        · refine ifF (decide_eq_false hpos) ⟨_, rfl, a, n0 :: t, rfl, sm2 _ _ ha, _, rfl, ?_⟩
          refine ⟨_, rfl, _, rfl, ⟨_, SqT.of (sm2 _ _ ha)⟩, fun D2 hD2 => ?_⟩
          refine fin D2 _ hD2 rfl rfl ?_
          unfold gd; rw [if_neg hpos]; rfl
      · refine ⟨_, rfl, rfl, _, rfl, ifT (by simp [eqV, h0]) ⟨_, rfl, _, rfl, p, n0, rfl, hp, h0, ?_, fun i H2 sm3 hi => ?_⟩⟩
        · rw [(rn n0 List.mem_cons_self).1]; exact hn0
        have sm4 := Same.trans sm2 sm3
        refine ⟨_, rfl, _, rfl, ⟨_, SqT.of (sm4 _ _ ha)⟩, fun D2 hD2 => ?_⟩
        refine lcS (walk_tup (K := K) (a := a) (xs := (n0 :: t).map V.int)) (fun j => .int ((n0 :: t).getD j 0 * i % p)) (fun _ => true) (by rw [List.length_map]; omega) hD2 (fun H' sm => SqT.of (sm _ _ (sm4 _ _ ha))) ?_ ?_
        · rintro j x H3 H4 R R0 hj sm5 ⟨rfl, hx⟩ kt kf
          rw [List.getElem?_map] at hx
          obtain ⟨n, hn, rfl⟩ := Option.map_eq_some_iff.mp hx
          have hp1 := hp.nn
          have hp2 := hp.le
          have := hi.1
          have := hi.2.1
          refine ⟨rfl, ifT (B := R0 H4) rfl ⟨_, rfl, _, rfl, _, _, rfl, rfl, .inr ⟨by omega, by omega⟩, _, rfl, _, _, rfl, rfl, h0, ?_⟩⟩
          refine kt rfl _ _ ?_ (Same.refl _)
          rw [get_D hn]
          show V.int ((n * i).fmod p) = _
          rw [fmod_pos (by omega)]
        · intro H3 sm5 hD3
          rw [List.length_map, filt_true, map_get (n0 :: t) 0 (fun n => V.int (n * i % p))] at hD3
          refine .inl ⟨_, _, rfl, SqL.of hD3, fun r hr => ?_⟩
          refine q r _ ((n0 :: t).map fun n => n * i % p) (Same.trans sm4 (Same.trans sm5 (sm_new hr))) ?_ (.inl ⟨h0, i, hi, rfl⟩)
          rw [upd_same, List.map_map]
          rfl
end
end Tg
end
section
set_option Elab.async false
set_option autoImplicit false
set_option linter.all false
set_option maxRecDepth 100000
set_option maxHeartbeats 4000000
/-! Terms. -/
namespace Tg
open PySem PySem.Spec PyProof.Rows L2 RZ
theorem upd_self {H : Hp} {a : Addr} {o : HO} (h : H a = some o) : upd H a o = H := by
  funext b
  by_cases e : b = a
  · subst e; rw [upd_same, h]
  · rw [upd_ne e]
theorem bo_zip : bootBuiltins "zip" = some (.type "zip") := by decide +kernel
abbrev Tb (H : Hp) (a : Addr) (t : T) : Prop := H a = some (.dT (et t))
abbrev Tp (H : Hp) (a : Addr) (k : K) : Prop := H a = some (.tup (k.map V.int))
theorem walk_zipT {K : PySem.W.Frag} {a b : Addr} {xs ys : List V} {n : Nat} (hn : n = min xs.length ys.length) : Walk (ItzT K a b) n (fun H => SqT K H a xs ∧ SqT K H b ys) (fun i H v H' => ∃ T x y, v = .ref T ∧ H T = none ∧ H' = upd H T (.tup [x, y]) ∧ xs[i]? = some x ∧ ys[i]? = some y) := by
  subst hn
  refine ⟨fun i _ hi q => ⟨xs, ys, xs[i]'(by omega), ys[i]'(by omega), q.1, q.2, by simp, by simp⟩, fun _ q => ⟨xs, ys, q.1, q.2, by omega⟩, fun i H v H' _ q y => ?_⟩
  obtain ⟨T, x, z, h1, h2, h3, h4, h5⟩ := y
  exact ⟨T, x, z, h1, h2, h3, h4 xs q.1, h5 ys q.2⟩
section
variable {P : Program} {w : World} {K : PySem.W.Frag} {mg : Str → Option Value} {base : Heap}
def sp_sum_of_exponents : Sp := fun vs H Q _ => ∃ (a b : Addr) (k j : Tg.K), vs = [.ref a, .ref b] ∧ Tp H a k ∧ Tp H b j ∧ k.length = j.length ∧ k.length < sizeLine ∧ ∀ r H', Same H H' → H r = none → Tp H' r (ad k j) → Q (.ref r) H'
theorem sc_sum_of_exponents : FnScope ["one", "other", "first", "second"] ["one", "other"] (defScope s_sum_of_exponents) := ⟨rfl, rfl, rfl, by decide +kernel, rfl, by decide +kernel, by decide +kernel⟩
/- one 0 other 1 first 2 second 3 -/
theorem w_sum_of_exponents (px : Px K mg) : FnR P w K mg base CX0 1 (d_sum_of_exponents.at_ K) sp_sum_of_exponents ∧ PySem.W.keepIn K (.ref (d_sum_of_exponents.at_ K)) = true := by
  refine px.R 13 rfl rfl rfl sc_sum_of_exponents (fun vs H Q E ⟨_, _, _, _, e, _⟩ => by rw [e]; rfl) (fun _ _ _ _ _ _ us hl => match us, hl with | [_, _], _ => rfl) (fun cdv A outer s H vs Q E hr h => ⟨_, (pss_one (ps_ret (pe_tupleOf rfl (px.f "tuple" (by simp [freeL])) (pe_lc (own := [("first", 2), ("second", 3)]) (g := (gTup K 2 (gCons (gName 2) (gCons (gName 3) gNil)))) rfl sc_sum_of_exponents.nd (pi_zipA rfl (px.f "zip" (by simp [freeL])) (pa_cons (pv 0) (pa_cons (pv 1) pa_nil))) (blkOk_by (own := [("first", 2), ("second", 3)]) (N := ["one", "other", "first", "second"]) (sc := (defScope s_sum_of_exponents)) (by decide +kernel)) (fun _ _ _ _ _ => (pg_tup rfl (pgs_cons (pg_name (i := 2) sc_sum_of_exponents.nd rfl (Or.inl rfl)) (pgs_cons (pg_name (i := 3) sc_sum_of_exponents.nd rfl (Or.inl rfl)) pgs_nil)))) (fun _ _ _ _ _ => pts_nil) (fun _ _ _ _ _ => (pe_op op_add (pv 2) (pv 3))))))), ?_⟩)
  obtain ⟨a, b, k, j, rfl, ha, hb, hl, hz, q⟩ := h
  refine ⟨_, rfl, _, rfl, a, b, _, _, rfl, .inr ⟨SqT.of ha, SqT.of hb, fun D hD => ?_⟩⟩
  refine lcS (walk_zipT (K := K) (a := a) (b := b) (xs := k.map V.int) (ys := j.map V.int) (n := k.length) (by simp; omega)) (fun i => .int (k.getD i 0 + j.getD i 0)) (fun _ => true) (by omega) hD (fun H' sm => ⟨SqT.of (sm _ _ ha), SqT.of (sm _ _ hb)⟩) ?_ ?_
  · rintro i x H1 H2 R R0 hi sm ⟨T, x, y, rfl, hT, rfl, hx, hy⟩ kt kf
    rw [List.getElem?_map] at hx hy
    obtain ⟨n, hn, rfl⟩ := Option.map_eq_some_iff.mp hx
    obtain ⟨m, hm, rfl⟩ := Option.map_eq_some_iff.mp hy
    refine ⟨T, _, rfl, SqT.of upd_same, rfl, _, _, rfl, _, _, rfl, rfl, rfl, yesT ⟨_, rfl, _, rfl, _, _, rfl, rfl, ?_⟩⟩
    exact kt rfl _ _ (by rw [get_D hn, get_D hm]) (sm_new hT)
  · intro H1 sm hD1
    rw [filt_true] at hD1
    refine .inl ⟨_, _, rfl, SqL.of hD1, fun r hr => q r _ (Same.trans sm (sm_new hr)) (Same.free sm hr) ?_⟩
    show upd H1 r _ r = _
    rw [upd_same]
    congr 2
    apply List.ext_getElem
    · simp [ad, hl]
    · intro i h1 h2
      simp at h1
      have h3 : i < j.length := by omega
      simp [ad, h1, h3]
def sp_first_of : Sp := fun vs H Q _ => ∃ (a : Addr) (t : T), vs = [.ref a] ∧ Tb H a t ∧ (t = [] → Q .non H) ∧ ∀ e u q, t = e :: u → Tp H q e.1 → Q (.ref q) H
theorem sc_first_of : FnScope ["terms", "one"] ["terms"] (defScope s_first_of) := ⟨rfl, rfl, rfl, by decide +kernel, rfl, by decide +kernel, by decide +kernel⟩
theorem w_first_of (px : Px K mg) : FnR P w K mg base CX0 1 (d_first_of.at_ K) sp_first_of ∧ PySem.W.keepIn K (.ref (d_first_of.at_ K)) = true := by
  refine px.R 15 rfl rfl rfl sc_first_of (fun vs H Q E ⟨_, _, e, _⟩ => by rw [e]; rfl) (fun _ _ _ _ _ _ us hl => match us, hl with | [_], _ => rfl) (fun cdv A outer s H vs Q E hr h => ⟨_, (pss_cons (ps_lock (ps_for PassesOwn.leaving rfl (pi_keys (pv 0)) (pg_name (i := 1) sc_first_of.nd rfl (Or.inl rfl)) (pss_one (ps_ret (pv 1))))) (pss_one (ps_ret pe_non))), ?_⟩)
  obtain ⟨a, t, rfl, ha, q0, q1⟩ := h
  refine ⟨a, _, ha, trivial, fun od => ⟨_, rfl, a, od, rfl, .inr ⟨_, upd_same, ?_⟩⟩⟩
  refine for_it walk_keysT (fun i σ H' => i = 0 ∧ H' = upd H a (.frz od (.dT (et t))) ∧ σ = L2.start _ [.ref a]) ⟨rfl, rfl, rfl⟩ (fun i σ H' _ p => by rw [p.2.1]; exact upd_same) ?_ ?_
  · rintro i x σ H1 H2 hi ⟨rfl, rfl, rfl⟩ ⟨rfl, k, v, q, ee, rfl, hq⟩
    obtain ⟨z, hz, rfl, rfl⟩ := et_get ee
    have hq' : Tp H q z.1 := by
      by_cases hqa : q = a
      · subst hqa; rw [upd_same] at hq; cases hq
      · rw [upd_ne hqa, ek_kV] at hq; exact hq
    refine ⟨_, rfl, upd_same, ?_⟩
    rw [upd_upd, upd_self ha]
    cases t with
    | nil => cases hz
    | cons e u =>
      obtain rfl : e = z := Option.some.inj hz
      exact q1 _ _ _ rfl hq'
  · rintro σ H1 ⟨hl, rfl, rfl⟩
    refine ⟨upd_same, ?_⟩
    rw [upd_upd, upd_self ha]
    exact q0 (List.eq_nil_of_length_eq_zero (by rw [et_length] at hl; exact hl))
def sp_quotient_of : Sp := fun vs H Q _ => ∃ p n d : Int, vs = [.int p, .int n, .int d] ∧ Pm p ∧ low p d ≠ 0 ∧ d.natAbs < 2 ^ 80 ∧ ∀ r H', Same H H' → Qo p n d r → Q (match r with | none => .non | some c => .int c) H'
theorem sc_quotient_of : FnScope ["prime", "number", "other"] ["prime", "number", "other"] (defScope s_quotient_of) := ⟨rfl, rfl, rfl, by decide +kernel, rfl, by decide +kernel, by decide +kernel⟩
theorem w_quotient_of (px : Px K mg) : FnR P w K mg base CX0 2 (d_quotient_of.at_ K) sp_quotient_of ∧ PySem.W.keepIn K (.ref (d_quotient_of.at_ K)) = true := by
  refine px.R 17 rfl rfl rfl sc_quotient_of (fun vs H Q E ⟨_, _, _, e, _⟩ => by rw [e]; rfl) (fun _ _ _ _ _ _ us hl => match us, hl with | [_, _, _], _ => rfl) (fun cdv A outer s H vs Q E hr h => ⟨_, (pss_cons (ps_if (pt_cmpR op_ne (pv 0) pe_int (nomark _)) (pss_one (ps_ret (pe_op op_modN (pe_op op_mul (pv 1) (pe_cR (w_inverse_of px) (hr.mono (by decide)) (px.g "inverse_of" (by simp [gloL])) pass0 (pa_cons (pv 0) (pa_cons (pv 2) pa_nil)))) (pv 0)))) pss_nil) (pss_one (ps_ret (pe_ifExp (pt_cmpR op_eq (pe_op op_modN (pv 1) (pv 2)) pe_int (nomark _)) (pe_op op_fdivL (pv 1) (pv 2)) pe_non)))), ?_⟩)
  obtain ⟨p, n, d, rfl, hp, hd, hb, q⟩ := h
  refine ⟨_, rfl, rfl, _, rfl, ?_⟩
  have hp1 := hp.nn
  have hp2 := hp.le
  by_cases h0 : p = 0
  · refine ifF (by simp [eqV, h0]) ?_
    have hd0 : d ≠ 0 := by rw [h0, low0] at hd; exact hd
    refine ⟨_, rfl, _, rfl, _, _, rfl, rfl, hd0, rfl, _, rfl, ?_⟩
    by_cases hdv : d ∣ n
    · refine ifT (by simp [Int.fmod_eq_zero_of_dvd hdv]) ⟨_, rfl, _, rfl, _, _, rfl, rfl, ⟨hd0, hb⟩, ?_⟩
      refine toQ ?_ (q (some (n / d)) H (Same.refl _) (.inr ⟨h0, .inl ⟨hdv, rfl⟩⟩))
      show V.int (n.fdiv d) = .int (n / d)
      rw [Int.fdiv_eq_ediv_of_dvd hdv]
    · refine ifF ?_ ?_
      · have : n.fmod d ≠ 0 := fun z => hdv (Int.dvd_of_fmod_eq_zero z)
        simp [this]
      · exact q none H (Same.refl _) (.inr ⟨h0, .inr ⟨hdv, rfl⟩⟩)
  · refine ifT (by simp [eqV, h0]) ⟨_, rfl, _, rfl, _, rfl, p, d, rfl, hp, h0, hd, fun i H' sm hi => ?_⟩
    have := hi.1
    have := hi.2.1
    refine ⟨_, _, rfl, rfl, .inr ⟨by omega, by omega⟩, _, rfl, _, _, rfl, rfl, h0, ?_⟩
    refine toQ ?_ (q (some (n * i % p)) H' sm (.inl ⟨h0, i, hi, rfl⟩))
    show V.int ((n * i).fmod p) = .int (n * i % p)
    rw [fmod_pos (by omega)]
/-! ### the greatest term first -/
theorem gt_keys {F : Tg.K → Int} : ∀ {ks : List Tg.K} (k : Tg.K), gt (ks.map fun k => (k, F k)) k = if k ∈ ks then F k else 0
  | [], k => by simp [gt_nil]
  | x :: ks, k => by
    rw [List.map_cons, gt_cons, gt_keys k]
    by_cases e : x = k
    · subst e; simp
    · have e' : ¬ k = x := fun z => e z.symm
      simp [e, e']
/-- keys in descending order -/
theorem desc_pure {L : Nat} {t : T} {ps : List (Addr × Tg.K)} (pm : (ps.map (·.2)).Perm (t.map (·.1))) (as : Asc ps) (nd : Nd t) (sm : ∀ e ∈ t, e.1.length = L ∧ Sm e.1) :
    (ps.reverse.map (·.2)).Pairwise (fun a b => cd b < cd a) ∧ (∀ k, k ∈ ps.reverse.map (·.2) ↔ k ∈ t.map (·.1)) := by
  have hmem : ∀ k, k ∈ ps.map (·.2) ↔ k ∈ t.map (·.1) := fun k => pm.mem_iff
  have hnd : (ps.map (·.2)).Nodup := pm.nodup_iff.mpr nd
  have key : ∀ k ∈ ps.map (·.2), k.length = L ∧ Sm k := fun k hk => by
    obtain ⟨e, he, rfl⟩ := List.mem_map.mp ((hmem k).mp hk)
    exact sm e he
  constructor
  · rw [List.map_reverse, List.pairwise_reverse]
    have h1 : (ps.map (·.2)).Pairwise (fun a b => cd a ≤ cd b) := List.pairwise_map.mpr as
    refine (h1.and hnd).imp_of_mem fun {a b} ha hb z => ?_
    obtain ⟨l1, s1⟩ := key a ha
    obtain ⟨l2, s2⟩ := key b hb
    exact Int.lt_iff_le_and_ne.mpr ⟨z.1, fun e => z.2 (cd_inj (by rw [l1, l2]) s1 s2 e)⟩
  · intro k
    rw [List.map_reverse, List.mem_reverse]
    exact hmem k
/-- the table of the terms that stay, the greatest first -/
theorem clean_pure {L : Nat} {t : T} {ps : List (Addr × Tg.K)} (pm : (ps.map (·.2)).Perm (t.map (·.1))) (as : Asc ps) (nd : Nd t) (sm : ∀ e ∈ t, e.1.length = L ∧ Sm e.1) :
    Ds (((ps.reverse).filter fun z => decide (gt t z.2 ≠ 0)).map fun z => (z.2, gt t z.2)) ∧ Nz (((ps.reverse).filter fun z => decide (gt t z.2 ≠ 0)).map fun z => (z.2, gt t z.2)) ∧
      ∀ k, gt (((ps.reverse).filter fun z => decide (gt t z.2 ≠ 0)).map fun z => (z.2, gt t z.2)) k = gt t k := by
  obtain ⟨h1, h2⟩ := desc_pure pm as nd sm
  refine ⟨?_, ?_, ?_⟩
  · unfold Ds
    rw [List.pairwise_map]
    exact (List.pairwise_map.mp h1).filter _
  · intro e he
    obtain ⟨z, hz, rfl⟩ := List.mem_map.mp he
    have := (List.mem_filter.mp hz).2
    simpa using this
  · intro k
    have e : (((ps.reverse).filter fun z => decide (gt t z.2 ≠ 0)).map fun z => (z.2, gt t z.2)) = ((((ps.reverse).filter fun z => decide (gt t z.2 ≠ 0)).map (·.2)).map fun k => (k, gt t k)) := by rw [List.map_map]; rfl
    rw [e, gt_keys]
    by_cases hk : gt t k = 0
    · split
      · rfl
      · exact hk.symm
    · rw [if_pos]
      have hk2 : k ∈ ps.reverse.map (·.2) := (h2 k).mpr (by
        by_cases h : k ∈ t.map (·.1)
        · exact h
        · exact absurd (gt_out h) hk)
      obtain ⟨z, hz, rfl⟩ := List.mem_map.mp hk2
      exact List.mem_map.mpr ⟨z, List.mem_filter.mpr ⟨hz, by simpa using hk⟩, rfl⟩
end
end Tg
end
section
set_option Elab.async false
set_option autoImplicit false
set_option linter.all false
set_option maxRecDepth 100000
set_option maxHeartbeats 4000000
/-! Sums and products of terms. -/
namespace Tg
open PySem PySem.Spec PyProof.Rows L2 RZ
theorem gt_map (f : Int → Int) (h0 : f 0 = 0) : ∀ (t : T) (k : K), gt (t.map fun e => (e.1, f e.2)) k = f (gt t k)
  | [], k => by simp [gt_nil, h0]
  | e :: t, k => by
    rw [List.map_cons, gt_cons, gt_cons, gt_map f h0 t k]
    split <;> rfl
theorem keys_map (f : Int → Int) (t : T) : (t.map fun e => (e.1, f e.2)).map (·.1) = t.map (·.1) := by rw [List.map_map]; rfl
theorem nd_range {t : T} (h : Nd t) (p : Nat → Bool) : (((List.range t.length).filter p).map fun i => (t.getD i ([], 0)).1).Nodup := by
  have h1 : ((List.range t.length).map fun i => (t.getD i ([], 0)).1) = t.map (·.1) := map_get t ([], 0) (·.1)
  have h2 : ((List.range t.length).map fun i => (t.getD i ([], 0)).1).Nodup := by rw [h1]; exact h
  exact ((List.filter_sublist (l := List.range t.length) (p := p)).map _).nodup h2
theorem dget_tb {H : Hp} {a q : Addr} {t : T} {k : K} (h : Tb H a t) (hq : Tp H q k) (hm : k ∈ t.map (·.1)) : DGet H a (.ref q) (some (.int (gt t k))) := by
  have := DGet.t (k := ek k) h (by rw [ek_kV]; exact hq)
  rw [valV_mem hm] at this
  exact this
theorem dget_any {H : Hp} {a q : Addr} {t : T} {k : K} (h : Tb H a t) (hq : Tp H q k) : DGet H a (.ref q) (valV (et t) (ek k)) := DGet.t (k := ek k) h (by rw [ek_kV]; exact hq)
theorem dput_tb {H : Hp} {a q : Addr} {t : T} {k : K} {n : Int} (h : Tb H a t) (hq : Tp H q k) (hl : t.length < sizeLine) : DPut H a (.ref q) (.int n) (upd H a (.dT (et (put t k n)))) := by
  have := DPut.t (k := ek k) (v := .int n) h (by rw [ek_kV]; exact hq) (by rw [et_length]; exact hl)
  rw [putK_et] at this
  exact this
abbrev Ks (L : Nat) (t : T) : Prop := ∀ e ∈ t, e.1.length = L ∧ Sm e.1
section
variable {P : Program} {w : World} {K : PySem.W.Frag} {mg : Str → Option Value} {base : Heap}
def sp_cleaned : Sp := fun vs H Q _ => ∃ (p : Int) (a : Addr) (t : T) (L : Nat), vs = [.int p, .ref a] ∧ Pm p ∧ Tb H a t ∧ Nd t ∧ t.length < 64 ∧ 1 ≤ L ∧ Ks L t ∧
  ∀ r H' u, Same H H' → H r = none → Tb H' r u → Ds u → Nz u → (∀ k, gt u k = low p (gt t k)) → Q (.ref r) H'
theorem sc_cleaned : FnScope ["prime", "terms", "lowered", "one", "number"] ["prime", "terms"] (defScope s_cleaned) := ⟨rfl, rfl, rfl, by decide +kernel, rfl, by decide +kernel, by decide +kernel⟩
/- prime 0 terms 1 lowered 2 one 3 number 4 -/
theorem w_cleaned (px : Px K mg) : FnR P w K mg base CX0 2 (d_cleaned.at_ K) sp_cleaned ∧ PySem.W.keepIn K (.ref (d_cleaned.at_ K)) = true := by
  refine px.R 11 rfl rfl rfl sc_cleaned (fun vs H Q E ⟨_, _, _, _, e, _⟩ => by rw [e]; rfl) (fun _ _ _ _ _ _ us hl => match us, hl with | [_, _], _ => rfl) (fun cdv A outer s H vs Q E hr h => ⟨_, (pss_cons (ps_lock (ps_set (i := 2) sc_cleaned.nd rfl (Or.inr rfl) (pe_dcS (own := [("one", 3), ("number", 4)]) (g := (gTup K 2 (gCons (gName 3) (gCons (gName 4) gNil)))) (stT _ (un0 hr)) rfl sc_cleaned.nd (pi_itemsT (pv 1)) (blkOk_by (own := [("one", 3), ("number", 4)]) (N := ["prime", "terms", "lowered", "one", "number"]) (sc := (defScope s_cleaned)) (by decide +kernel)) (fun _ _ _ _ _ => (pg_tup rfl (pgs_cons (pg_name (i := 3) sc_cleaned.nd rfl (Or.inl rfl)) (pgs_cons (pg_name (i := 4) sc_cleaned.nd rfl (Or.inl rfl)) pgs_nil)))) (fun _ _ _ _ _ => pts_nil) (fun _ _ _ _ _ => (pv 3)) (fun _ _ _ _ _ => (pe_cR (w_lowered_by px) (hr.mono (by decide)) (px.g "lowered_by" (by simp [gloL])) pass0 (pa_cons (pv 0) (pa_cons (pv 4) pa_nil))))))) (pss_one (ps_ret (pe_dcS (own := [("one", 3)]) (stT _ (un0 hr)) rfl sc_cleaned.nd (pi_list (pe_revL (pe_callB (cr_sortD rfl) rfl (px.f "sorted" (by simp [freeL])) bo_sorted (pa_cons (pv 2) pa_nil)))) (blkOk_by (own := [("one", 3)]) (N := ["prime", "terms", "lowered", "one", "number"]) (sc := (defScope s_cleaned)) (by decide +kernel)) (fun _ _ _ _ _ => (pg_name (i := 3) sc_cleaned.nd rfl (Or.inl rfl))) (fun _ _ _ _ _ => (pts_one (pt_cmpR op_ne (pe_dget (un1 hr) (pv 2) (pv 3) (fun _ _ => rfl)) pe_int (nomark _)))) (fun _ _ _ _ _ => (pv 3)) (fun _ _ _ _ _ => (pe_dget (un1 hr) (pv 2) (pv 3) (fun _ _ => rfl))))))), ?_⟩)
  obtain ⟨p, a, t, L, rfl, hp, ha, nd, hl, h1, ks, q⟩ := h
  refine ⟨a, _, ha, trivial, fun od => ⟨_, rfl, a, od, _, rfl, upd_same, fun D hD => ?_⟩⟩
  obtain ⟨hD0, hDa⟩ := lk_none ha hD
  have sz : (64 : Nat) < sizeLine := by decide
  refine dcS1 walk_itemsT (fun i => ((t.getD i ([], 0)).1, low p (t.getD i ([], 0)).2)) (fun _ => true) (by rw [et_length]; omega) hD (fun H' sm => sm _ _ upd_same) (by rw [et_length]; exact nd_range nd _) ?_ ?_
  · rintro i x H1 H2 R R0 hi sm ⟨T, qa, k, v, ee, rfl, hT, hqa, rfl⟩ kt kf
    obtain ⟨z, hz, rfl, rfl⟩ := et_get ee
    rw [ek_kV] at hqa
    refine ⟨T, _, rfl, SqT.of upd_same, rfl, _, _, rfl, _, _, rfl, rfl, rfl, yesT ⟨_, rfl, _, rfl, _, rfl, _, _, rfl, hp, ?_⟩⟩
    rw [get_D hz] at kt
    exact kt rfl qa _ _ (sm_new hT _ _ hqa) rfl (sm_new hT)
  · intro H1 sm hD1
    rw [filt_true, et_length, map_get t ([], 0) (fun e => (e.1, low p e.2))] at hD1
    refine ⟨sm _ _ upd_same, ?_⟩
    have s2 : Same H (upd H1 a (.dT (et t))) := lk_back ha sm
    have hD2 : Tb (upd H1 a (.dT (et t))) D (t.map fun e => (e.1, low p e.2)) := by show upd H1 a _ D = _; rw [upd_ne hDa]; exact hD1
    have nd2 : Nd (t.map fun e => (e.1, low p e.2)) := by unfold Nd; rw [keys_map]; exact nd
    have ks2 : Ks L (t.map fun e => (e.1, low p e.2)) := fun e he => by
      obtain ⟨z, hz, rfl⟩ := List.mem_map.mp he
      exact ks z hz
    have hg : ∀ k, gt (t.map fun e => (e.1, low p e.2)) k = low p (gt t k) := gt_map (low p) (low_zero p) t
    have hl2 : (t.map fun e => (e.1, low p e.2)).length < 64 := by rw [List.length_map]; exact hl
    generalize hlt : (t.map fun e => (e.1, low p e.2)) = lt at *
    generalize hH2 : upd H1 a (.dT (et t)) = H2 at *
    refine ⟨_, rfl, D, lt, L, rfl, hD2, hl2, h1, ks2, fun ps pa pm as ka hpa => ⟨pa, _, rfl, SqL.of upd_same, fun pb hpb => ⟨_, rfl, ⟨_, SqL.of upd_same⟩, fun D2 hD3 => ?_⟩⟩⟩
    obtain ⟨c1, c2, c3⟩ := clean_pure pm as nd2 ks2
    obtain ⟨d1, d2⟩ := desc_pure pm as nd2 ks2
    have s3 : Same H2 (upd (upd H2 pa (.lst (ps.map fun z => V.ref z.1))) pb (.lst (ps.map fun z => V.ref z.1).reverse)) := Same.trans (sm_new hpa) (sm_new hpb)
    have hpl : ps.reverse.length = lt.length := by have := pm.length_eq; simpa using this
    rw [← List.map_reverse] at *
    refine dcS1 (walk_list (K := K) (a := pb) (xs := ps.reverse.map fun z => V.ref z.1)) (fun i => ((ps.reverse.getD i (0, [])).2, gt lt (ps.reverse.getD i (0, [])).2)) (fun i => decide (gt lt (ps.reverse.getD i (0, [])).2 ≠ 0)) (by rw [List.length_map]; omega) hD3 (fun H' sm => SqL.of (sm _ _ upd_same)) ?_ ?_ ?_
    · rw [List.length_map, filt_map_get ps.reverse (0, []) (fun z => decide (gt lt z.2 ≠ 0)) (fun z => z.2)]
      have : ((ps.reverse.filter fun z => decide (gt lt z.2 ≠ 0)).map fun z => z.2).Pairwise (fun a b => cd b < cd a) := List.pairwise_map.mpr ((List.pairwise_map.mp d1).filter _)
      exact this.imp fun {a b} h e => by rw [e] at h; omega
    · rintro i x H3 H4 R R0 hi sm3 ⟨rfl, hx⟩ kt kf
      rw [List.getElem?_map] at hx
      obtain ⟨z, hz, rfl⟩ := Option.map_eq_some_iff.mp hx
      have hzm : z ∈ ps := List.mem_reverse.mp (List.mem_of_getElem? hz)
      have hk : z.2 ∈ lt.map (·.1) := (d2 z.2).mp (List.mem_map_of_mem (List.mem_of_getElem? hz))
      have s4 := Same.trans s3 sm3
      have hq : Tp H4 z.1 z.2 := s4 _ _ (ka z hzm)
      rw [get_D hz] at kt kf
      refine ⟨rfl, _, rfl, _, rfl, D, _, rfl, dget_tb (s4 _ _ hD2) hq hk, rfl, _, rfl, ?_⟩
      by_cases h0 : gt lt z.2 = 0
      · exact ifF (by simp [eqV, h0]) (kf (by simp [h0]) _ (Same.refl _))
      · exact ifT (by simp [eqV, h0]) ⟨_, rfl, _, rfl, _, rfl, D, _, rfl, dget_tb (s4 _ _ hD2) hq hk, kt (by simp [h0]) _ _ _ hq rfl (Same.refl _)⟩
    · intro H3 sm3 hD4
      rw [List.length_map, filt_map_get ps.reverse (0, []) (fun z => decide (gt lt z.2 ≠ 0)) (fun z => (z.2, gt lt z.2))] at hD4
      exact q _ _ _ (Same.trans s2 (Same.trans s3 sm3)) (Same.free (Same.trans s2 s3) hD3) hD4 c1 c2 (fun k => by rw [c3, hg])
end
end Tg
end
section
set_option Elab.async false
set_option autoImplicit false
set_option linter.all false
set_option maxRecDepth 100000
set_option maxHeartbeats 4000000
/-! Sums and products of terms. -/
namespace Tg
open PySem PySem.Spec PyProof.Rows L2 RZ
/-- terms of one degree, no key twice -/
structure Ht (L : Nat) (D : Int) (t : T) : Prop where
  nd : Nd t
  mo : ∀ e ∈ t, Mo L D e.1
theorem len_sub {α : Type} [DecidableEq α] : ∀ {l m : List α}, l.Nodup → (∀ x ∈ l, x ∈ m) → l.length ≤ m.length
  | [], _, _, _ => Nat.zero_le _
  | x :: l, m, h, s => by
    rw [List.nodup_cons] at h
    have h1 := len_sub (l := l) (m := m.erase x) h.2 fun y hy => by
      have hne : y ≠ x := fun z => h.1 (z ▸ hy)
      exact (List.mem_erase_of_ne hne).mpr (s y (List.mem_cons_of_mem _ hy))
    have h2 := List.length_erase_of_mem (s x List.mem_cons_self)
    have h3 : 0 < m.length := List.length_pos_of_mem (s x List.mem_cons_self)
    rw [List.length_cons]; omega
theorem m2_len : ∀ D : _root_.Fin 7, (m2 D.val).length ≤ 28 := by decide +kernel
theorem m3_len : ∀ D : _root_.Fin 7, (m3 D.val).length ≤ 28 := by decide +kernel
theorem Ht.len {L : Nat} {D : Int} {t : T} (h : Ht L D t) (hL : Lt L) (hD : D ≤ 6) : t.length ≤ 28 := by
  cases t with
  | nil => simp
  | cons e u =>
    have h0 := (h.mo e List.mem_cons_self).deg
    obtain ⟨n, rfl⟩ := Int.eq_ofNat_of_zero_le h0
    have hn : n < 7 := by omega
    have hl : (e :: u).length = ((e :: u).map (·.1)).length := by rw [List.length_map]
    rw [hl]
    rcases hL with rfl | rfl
    · exact Nat.le_trans (len_sub (m := m2 n) h.nd fun x hx => by
        obtain ⟨z, hz, rfl⟩ := List.mem_map.mp hx
        exact m2_mem (h.mo z hz)) (m2_len ⟨n, hn⟩)
    · exact Nat.le_trans (len_sub (m := m3 n) h.nd fun x hx => by
        obtain ⟨z, hz, rfl⟩ := List.mem_map.mp hx
        exact m3_mem (h.mo z hz)) (m3_len ⟨n, hn⟩)
theorem Lt.pos {L : Nat} (h : Lt L) : 1 ≤ L := by rcases h with rfl | rfl <;> decide
theorem Ht.ks {L : Nat} {D : Int} {t : T} (h : Ht L D t) (hD : D ≤ 6) : Ks L t := fun e he => ⟨(h.mo e he).len, (h.mo e he).sm (by omega)⟩
theorem Ht.put {L : Nat} {D : Int} {t : T} (h : Ht L D t) {k : K} (hk : Mo L D k) (v : Int) : Ht L D (put t k v) :=
  ⟨nd_put h.nd k v, fun e he => (mem_put he).elim (h.mo e) fun z => by rw [z]; exact hk⟩
theorem Ht.nil (L : Nat) (D : Int) : Ht L D [] := ⟨List.nodup_nil, fun _ h => nomatch h⟩
theorem Ht.hm {L : Nat} {D : Int} {t : T} (h : Ht L D t) : Hm L D (gt t) := fun k hk => h.mo _ (gt_ne hk)
/-- of a table that the function gives -/
theorem Ht.of {L : Nat} {D : Int} {t : T} (d : Ds t) (z : Nz t) (h : Hm L D (gt t)) : Ht L D t := ⟨d.nd, fun e he => h _ (by rw [gt_mem d.nd he]; exact z e he)⟩
theorem sh_take {t : T} {j : Nat} {e : K × Int} (nd : Nd t) (h : t[j]? = some e) {k1 : K} (hl : k1.length = e.1.length) (hk : ∀ e ∈ t, e.1.length = k1.length) (k : K) :
    sh k1 (gt (t.take (j + 1))) k = sh k1 (gt (t.take j)) k + if k = ad k1 e.1 then e.2 else 0 := by
  unfold sh
  by_cases hkl : k.length = k1.length
  · rw [if_pos hkl, if_pos hkl, gt_take_succ nd h]
    congr 1
    by_cases e1 : sb k k1 = e.1
    · rw [if_pos e1, if_pos]
      rw [← e1, ad_comm, ad_sb hkl]
    · rw [if_neg e1, if_neg]
      intro z
      apply e1
      rw [z, ad_comm, sb_ad hl.symm]
  · rw [if_neg hkl, if_neg hkl, if_neg]
    · rfl
    · intro z
      apply hkl
      rw [z]
      exact ad_len rfl hl.symm
section
variable {P : Program} {w : World} {K : PySem.W.Frag} {mg : Str → Option Value} {base : Heap}
def sp_plus_terms : Sp := fun vs H Q _ => ∃ (p : Int) (a b : Addr) (c : Int) (t u : T) (L : Nat) (D : Int), vs = [.int p, .ref a, .ref b, .int c] ∧ Pm p ∧ Tb H a t ∧ Tb H b u ∧ Lt L ∧ D ≤ 6 ∧ Ht L D t ∧ Ht L D u ∧ (-(2 ^ 64) < c ∧ c < 2 ^ 64) ∧
  ∀ r H' v, Same H H' → H r = none → Tb H' r v → Ds v → Nz v → (∀ k, gt v k = low p (gt t k + c * gt u k)) → Q (.ref r) H'
theorem sc_plus_terms : FnScope ["prime", "one", "other", "factor", "found", "exponents", "number"] ["prime", "one", "other", "factor"] (defScope s_plus_terms) := ⟨rfl, rfl, rfl, by decide +kernel, rfl, by decide +kernel, by decide +kernel⟩
/- prime 0 one 1 other 2 factor 3 found 4 exponents 5 number 6 -/
theorem w_plus_terms (px : Px K mg) : FnR P w K mg base CX0 3 (d_plus_terms.at_ K) sp_plus_terms ∧ PySem.W.keepIn K (.ref (d_plus_terms.at_ K)) = true := by
  refine px.R 12 rfl rfl rfl sc_plus_terms (fun vs H Q E ⟨_, _, _, _, _, _, _, _, e, _⟩ => by rw [e]; rfl) (fun _ _ _ _ _ _ us hl => match us, hl with | [_, _, _, _], _ => rfl) (fun cdv A outer s H vs Q E hr h => ⟨_, (pss_cons (ps_set (i := 4) sc_plus_terms.nd rfl (Or.inl rfl) (pe_callTy (cr_dictCp (un2 hr)) rfl (px.f "dict" (by simp [freeL])) bo_dict (pa_cons (pv 1) pa_nil))) (pss_cons (ps_lock (ps_for PassesOwn.leaving rfl (pi_itemsT (pv 2)) (pg_tup rfl (pgs_cons (pg_name (i := 5) sc_plus_terms.nd rfl (Or.inl rfl)) (pgs_cons (pg_name (i := 6) sc_plus_terms.nd rfl (Or.inl rfl)) pgs_nil))) (pss_one (ps_dput (un1 hr) (pv 4) (pv 5) (pe_op op_add (pe_dget2 (un1 hr) (pv 4) (pv 5) pe_int ⟨by rfl, by rfl, by rfl, by rfl⟩) (pe_op op_mul (pv 3) (pv 6))) rfl)))) (pss_one (ps_ret (pe_cR (w_cleaned px) (hr.mono (by decide)) (px.g "cleaned" (by simp [gloL])) pass0 (pa_cons (pv 0) (pa_cons (pv 4) pa_nil))))))), ?_⟩)
  obtain ⟨p, a, b, c, t, u, L, D, rfl, hp, ha, hb, hL, hD, ht, hu, hc, q⟩ := h
  have sz : (64 : Nat) < sizeLine := by decide
  have l1 := ht.len hL hD
  have l2 := hu.len hL hD
  refine ⟨_, rfl, a, _, rfl, ha, hash_nd hL hD ht.nd ht.mo, fun d hd => ?_⟩
  have hbd : b ≠ d := ne_of_none hb hd
  have hb1 : Tb (upd H d (.dT (et t))) b u := by show upd H d _ b = _; rw [upd_ne hbd]; exact hb
  refine ⟨b, _, hb1, trivial, fun od => ⟨_, rfl, b, od, _, rfl, upd_same, ?_⟩⟩
  refine for_it walk_itemsT (fun i σ' H' => ∃ x4 x5 : Option V, ∃ f : T, σ' = [some (.int p), some (.ref a), some (.ref b), some (.int c), some (.ref d), x4, x5] ∧ Same (upd H b (.frz od (.dT (et u)))) H' ∧ Tb H' d f ∧ Ht L D f ∧ ∀ k, gt f k = gt t k + c * gt (u.take i) k) ?_ (fun i σ' H' _ p => ?_) ?_ ?_
  · refine ⟨none, none, t, rfl, ?_, ?_, ht, fun k => by simp [gt_nil]⟩
    · intro x o e
      have hx : x ≠ d := by
        intro z; subst z; rw [upd_ne hbd.symm, hd] at e; cases e
      by_cases hxb : x = b
      · subst hxb; rw [upd_same] at e ⊢; exact e
      · rw [upd_ne hxb] at e ⊢; rw [upd_ne hx]; exact e
    · show upd _ b _ d = _; rw [upd_ne hbd.symm, upd_same]
  · obtain ⟨x4, x5, f, rfl, sm, _⟩ := p
    exact sm _ _ upd_same
  · rintro i x σ' H1 H2 hi ⟨x4, x5, f, rfl, sm, hf, hf2, hg⟩ ⟨T, qa, k, v, ee, rfl, hT, hqa, rfl⟩
    obtain ⟨z, hz, rfl, rfl⟩ := et_get ee
    rw [ek_kV] at hqa
    have hmz := hu.mo z (List.mem_of_getElem? hz)
    have hf3 : Tb (upd H1 T (.tup [V.ref qa, V.int z.2])) d f := sm_new hT _ _ hf
    have hq3 : Tp (upd H1 T (.tup [V.ref qa, V.int z.2])) qa z.1 := sm_new hT _ _ hqa
    have lf := hf2.len hL hD
    refine ⟨T, _, rfl, SqT.of upd_same, rfl, _, _, rfl, _, _, rfl, rfl, ?_⟩
    refine ⟨_, rfl, d, rfl, .inr ⟨_, .inl hf3⟩, _, rfl, _, dget_any hf3 hq3, _, rfl, _, rfl, _, _, rfl, rfl, .inl hc, _, _, valV_getD f z.1, rfl, _, rfl, _, rfl, d, _, rfl, dput_tb hf3 hq3 (by omega), _, _, _, rfl, ?_, upd_same, hf2.put hmz _, ?_⟩
    · intro x o e
      have hx : x ≠ d := by
        intro zz; subst zz; rw [upd_ne hbd.symm, hd] at e; cases e
      rw [upd_ne hx]
      exact sm_new hT _ _ (sm _ _ e)
    · intro k
      rw [gt_put, hg, hg, gt_take_succ hu.nd hz]
      by_cases e : k = z.1
      · subst e; simp; rw [Int.mul_add, Int.add_assoc]
      · simp [e]
  · rintro σ' H1 ⟨x4, x5, f, rfl, sm, hf, hf2, hg⟩
    have lf := hf2.len hL hD
    rw [et_length, List.take_length] at hg
    have s2 := lk_back hb sm
    refine ⟨sm _ _ upd_same, _, rfl, _, rfl, p, d, f, L, rfl, hp, by show upd H1 b _ d = _; rw [upd_ne hbd.symm]; exact hf, hf2.nd, by omega, hL.pos, hf2.ks hD, fun r H' v s3 fr hv dv nv gv => ?_⟩
    exact q r H' v (Same.trans s2 s3) (Same.free s2 fr) hv dv nv fun k => by rw [gv, hg]
end
end Tg
end
section
set_option Elab.async false
set_option autoImplicit false
set_option linter.all false
set_option maxRecDepth 100000
set_option maxHeartbeats 4000000
/-! Products of terms. -/
namespace Tg
open PySem PySem.Spec PyProof.Rows L2 RZ
/-- small numbers -/
abbrev Sn (t : T) : Prop := ∀ e ∈ t, -(2 ^ 64) < e.2 ∧ e.2 < 2 ^ 64
section
variable {P : Program} {w : World} {K : PySem.W.Frag} {mg : Str → Option Value} {base : Heap}
def sp_times_terms : Sp := fun vs H Q _ => ∃ (p : Int) (a b : Addr) (t u : T) (L : Nat) (D E : Int), vs = [.int p, .ref a, .ref b] ∧ Pm p ∧ a ≠ b ∧ Tb H a t ∧ Tb H b u ∧ Lt L ∧ D + E ≤ 6 ∧ Ht L D t ∧ Ht L E u ∧ Sn u ∧
  ∀ r H' v, Same H H' → H r = none → Tb H' r v → Ds v → Nz v → (∀ k, gt v k = low p (ml t (gt u) k)) → Q (.ref r) H'
theorem sc_times_terms : FnScope ["prime", "one", "other", "found", "first", "number", "second", "factor", "exponents"] ["prime", "one", "other"] (defScope s_times_terms) := ⟨rfl, rfl, rfl, by decide +kernel, rfl, by decide +kernel, by decide +kernel⟩
/- prime 0 one 1 other 2 found 3 first 4 number 5 second 6 factor 7 exponents 8 -/
theorem w_times_terms (px : Px K mg) : FnR P w K mg base CX0 3 (d_times_terms.at_ K) sp_times_terms ∧ PySem.W.keepIn K (.ref (d_times_terms.at_ K)) = true := by
  refine px.R 14 rfl rfl rfl sc_times_terms (fun vs H Q E ⟨_, _, _, _, _, _, _, _, e, _⟩ => by rw [e]; rfl) (fun _ _ _ _ _ _ us hl => match us, hl with | [_, _, _], _ => rfl) (fun cdv A outer s H vs Q E hr h => ⟨_, (pss_cons (ps_set (i := 3) sc_times_terms.nd rfl (Or.inl rfl) pe_dnewT) (pss_cons (ps_lock (ps_for PassesOwn.leaving rfl (pi_itemsT (pv 1)) (pg_tup rfl (pgs_cons (pg_name (i := 4) sc_times_terms.nd rfl (Or.inl rfl)) (pgs_cons (pg_name (i := 5) sc_times_terms.nd rfl (Or.inl rfl)) pgs_nil))) (pss_one (ps_lock (ps_for PassesOwn.leaving rfl (pi_itemsT (pv 2)) (pg_tup rfl (pgs_cons (pg_name (i := 6) sc_times_terms.nd rfl (Or.inl rfl)) (pgs_cons (pg_name (i := 7) sc_times_terms.nd rfl (Or.inl rfl)) pgs_nil))) (pss_cons (ps_set (i := 8) sc_times_terms.nd rfl (Or.inl rfl) (pe_cR (w_sum_of_exponents px) (hr.mono (by decide)) (px.g "sum_of_exponents" (by simp [gloL])) pass0 (pa_cons (pv 4) (pa_cons (pv 6) pa_nil)))) (pss_one (ps_dput (un1 hr) (pv 3) (pv 8) (pe_op op_add (pe_dget2 (un1 hr) (pv 3) (pv 8) pe_int ⟨by rfl, by rfl, by rfl, by rfl⟩) (pe_op op_mul (pv 5) (pv 7))) rfl)))))))) (pss_one (ps_ret (pe_cR (w_cleaned px) (hr.mono (by decide)) (px.g "cleaned" (by simp [gloL])) pass0 (pa_cons (pv 0) (pa_cons (pv 3) pa_nil))))))), ?_⟩)
  obtain ⟨p, a, b, t, u, L, D, E', rfl, hp, hab, ha, hb, hL, hDE, ht, hu, hsn, q⟩ := h
  have sz : (64 : Nat) < sizeLine := by decide
  refine fun d hd => ?_
  have had : a ≠ d := ne_of_none ha hd
  have hbd : b ≠ d := ne_of_none hb hd
  have ha1 : Tb (upd H d (.dT [])) a t := by show upd H d _ a = _; rw [upd_ne had]; exact ha
  refine ⟨a, _, ha1, trivial, fun od => ⟨_, rfl, a, od, _, rfl, upd_same, ?_⟩⟩
  have B0d : upd H a (.frz od (.dT (et t))) d = none := by rw [upd_ne had.symm]; exact hd
  have B0b : Tb (upd H a (.frz od (.dT (et t)))) b u := by show upd H a _ b = _; rw [upd_ne hab.symm]; exact hb
  have smd : ∀ {H1 H2 : Hp} {o : HO}, H1 d = none → Same H1 H2 → Same H1 (upd H2 d o) := fun h sm => sm_upd h sm
  refine for_it walk_itemsT (fun i σ' H' => ∃ x4 x5 x6 x7 x8 : Option V, ∃ f : Tg.T, σ' = [some (.int p), some (.ref a), some (.ref b), some (.ref d), x4, x5, x6, x7, x8] ∧ Same (upd H a (.frz od (.dT (et t)))) H' ∧ Tb H' d f ∧ Ht L (D + E') f ∧ ∀ k, gt f k = ml (t.take i) (gt u) k) ?_ (fun i σ' H' _ p => ?_) ?_ ?_
  · refine ⟨none, none, none, none, none, [], rfl, ?_, ?_, Ht.nil _ _, fun k => by simp [gt_nil, ml_nil]⟩
    · intro x o e
      have hx : x ≠ d := fun z => by rw [z, B0d] at e; cases e
      by_cases hxb : x = a
      · subst hxb; rw [upd_same] at e ⊢; exact e
      · rw [upd_ne hxb] at e ⊢; rw [upd_ne hx]; exact e
    · show upd _ a _ d = _; rw [upd_ne had.symm, upd_same]; rfl
  · obtain ⟨x4, x5, x6, x7, x8, f, rfl, sm, _⟩ := p
    exact sm _ _ upd_same
  · rintro i x σ' H1 H2 hi ⟨x4, x5, x6, x7, x8, f, rfl, sm, hf, hf2, hg⟩ ⟨T, qa, k, v, ee, rfl, hT, hqa, rfl⟩
    obtain ⟨z, hz, rfl, rfl⟩ := et_get ee
    rw [ek_kV] at hqa
    have hmz := ht.mo z (List.mem_of_getElem? hz)
    have sT : Same H1 (upd H1 T (.tup [V.ref qa, V.int z.2])) := sm_new hT
    have sm1 := Same.trans sm sT
    have hf3 := sT _ _ hf
    have hq3 := sT _ _ hqa
    refine ⟨T, _, rfl, SqT.of upd_same, rfl, _, _, rfl, _, _, rfl, rfl, ?_⟩
    generalize upd H1 T (.tup [V.ref qa, V.int z.2]) = H3 at *
    have hb3 : Tb H3 b u := sm1 _ _ B0b
    refine ⟨b, _, hb3, trivial, fun od2 => ⟨_, rfl, b, od2, _, rfl, upd_same, ?_⟩⟩
    have hdb : d ≠ b := fun z => hbd z.symm
    refine for_it walk_itemsT (fun j σ' H' => ∃ x6 x7 x8 : Option V, ∃ f : Tg.T, σ' = [some (.int p), some (.ref a), some (.ref b), some (.ref d), some (.ref qa), some (.int z.2), x6, x7, x8] ∧ Same (upd (upd H a (.frz od (.dT (et t)))) b (.frz od2 (.dT (et u)))) H' ∧ Tb H' d f ∧ Ht L (D + E') f ∧ Tp H' qa z.1 ∧ ∀ k, gt f k = ml (t.take i) (gt u) k + z.2 * sh z.1 (gt (u.take j)) k) ?_ (fun j σ' H' _ p => ?_) ?_ ?_
    · refine ⟨x6, x7, x8, f, rfl, ?_, ?_, hf2, ?_, fun k => ?_⟩
      · intro x o e
        by_cases hxb : x = b
        · subst hxb; rw [upd_same] at e ⊢; exact e
        · rw [upd_ne hxb] at e ⊢; exact sm1 _ _ e
      · show upd _ b _ d = _; rw [upd_ne hdb]; exact hf3
      · exact lk_tup hb3 hq3
      · rw [hg, sh_zero (fun k => by rw [List.take_zero, gt_nil])]; omega
    · obtain ⟨x6, x7, x8, f, rfl, sm, _⟩ := p
      exact sm _ _ upd_same
    · rintro j x σ' H4 H5 hj ⟨x6, x7, x8, f, rfl, sm4, hf4, hf5, hq4, hg4⟩ ⟨T2, qb, k, v, ee2, rfl, hT2, hqb, rfl⟩
      obtain ⟨y, hy, rfl, rfl⟩ := et_get ee2
      rw [ek_kV] at hqb
      have hmy := hu.mo y (List.mem_of_getElem? hy)
      have sT2 : Same H4 (upd H4 T2 (.tup [V.ref qb, V.int y.2])) := sm_new hT2
      have sm6 := Same.trans sm4 sT2
      have hf6 := sT2 _ _ hf4
      have hqa6 := sT2 _ _ hq4
      have hqb6 := sT2 _ _ hqb
      refine ⟨T2, _, rfl, SqT.of upd_same, rfl, _, _, rfl, _, _, rfl, rfl, ?_⟩
      generalize upd H4 T2 (.tup [V.ref qb, V.int y.2]) = H6 at *
      have lf := hf5.len hL hDE
      refine ⟨_, rfl, _, rfl, qa, qb, z.1, y.1, rfl, hqa6, hqb6, by rw [hmz.len, hmy.len], by rw [hmz.len]; rcases hL with rfl | rfl <;> decide, fun qc H7 s7 _ hqc => ?_⟩
      have hf7 := s7 _ _ hf6
      have sm7 := Same.trans sm6 s7
      have B1d : upd (upd H a (.frz od (.dT (et t)))) b (.frz od2 (.dT (et u))) d = none := by rw [upd_ne hdb]; exact B0d
      refine ⟨_, rfl, d, rfl, .inr ⟨_, .inl hf7⟩, _, rfl, _, dget_any hf7 hqc, _, rfl, _, rfl, _, _, rfl, rfl, .inr (hsn y (List.mem_of_getElem? hy)), _, _, valV_getD f (ad z.1 y.1), rfl, _, rfl, _, rfl, d, _, rfl, dput_tb hf7 hqc (by omega), _, _, _, _, rfl, smd B1d sm7, upd_same, hf5.put (hmz.ad hmy) _, ?_, ?_⟩
      · have hne : qa ≠ d := ne_of (s7 _ _ hqa6) hf7 (fun z => nomatch z)
        show upd H7 d _ qa = _
        rw [upd_ne hne]
        exact s7 _ _ hqa6
      · intro k
        rw [gt_put, hg4, hg4, sh_take hu.nd hy (by rw [hmz.len, hmy.len]) (fun e he => by rw [(hu.mo e he).len, hmz.len]), Int.mul_add]
        by_cases e : k = ad z.1 y.1
        · subst e; simp; omega
        · simp [e]
    · rintro σ' H4 ⟨x6, x7, x8, f, rfl, sm4, hf4, hf5, hq4, hg4⟩
      refine ⟨sm4 _ _ upd_same, _, _, _, _, _, f, rfl, lk_back B0b sm4, ?_, hf5, fun k => ?_⟩
      · show upd H4 b _ d = _
        rw [upd_ne hdb]; exact hf4
      · rw [hg4, ml_take_succ hz, et_length, List.take_length]
  · rintro σ' H1 ⟨x4, x5, x6, x7, x8, f, rfl, sm, hf, hf2, hg⟩
    have lf := hf2.len hL hDE
    rw [et_length, List.take_length] at hg
    have s2 := lk_back ha sm
    refine ⟨sm _ _ upd_same, _, rfl, _, rfl, p, d, f, L, rfl, hp, by show upd H1 a _ d = _; rw [upd_ne had.symm]; exact hf, hf2.nd, by omega, hL.pos, hf2.ks hDE, fun r H' v s3 fr hv dv nv gv => ?_⟩
    exact q r H' v (Same.trans s2 s3) (Same.free s2 fr) hv dv nv fun k => by rw [gv, hg]
end
end Tg
end
section
set_option Elab.async false
set_option autoImplicit false
set_option linter.all false
set_option maxRecDepth 100000
set_option maxHeartbeats 4000000
/-! Quotients of terms. -/
namespace Tg
open PySem PySem.Spec PyProof.Rows L2 RZ
/-- how far the head stands -/
def hcd : T → Nat
  | [] => 0
  | e :: _ => (cd e.1).toNat + 1
section
variable {P : Program} {w : World} {K : PySem.W.Frag} {mg : Str → Option Value} {base : Heap}
def sp_quotient_terms : Sp := fun vs H Q _ => ∃ (p : Int) (a b : Addr) (t g : T) (h : Tg.K) (L : Nat) (D E : Int), vs = [.int p, .ref a, .ref b] ∧ Tb H a t ∧ Tb H b g ∧ Lt L ∧ Dvr p L E (gt g) h ∧ D ≤ 6 ∧ Ds t ∧ Nz t ∧ Hm L D (gt t) ∧ Rdc p (gt t) ∧ Ds g ∧ Nz g ∧ Sn g ∧
  ∀ H', Same H H' → (Dv p (gt g) h (gt t) none → Q .non H') ∧ ∀ q r, Dv p (gt g) h (gt t) (some q) → H r = none → Tb H' r q → Q (.ref r) H'
theorem sc_quotient_terms : FnScope ["prime", "whole", "part", "left", "found", "head", "first", "rest", "one", "other", "factor"] ["prime", "whole", "part"] (defScope s_quotient_terms) := ⟨rfl, rfl, rfl, by decide +kernel, rfl, by decide +kernel, by decide +kernel⟩
/- prime 0 whole 1 part 2 left 3 found 4 head 5 first 6 rest 7 one 8 other 9 factor 10 -/
theorem w_quotient_terms (px : Px K mg) : FnR P w K mg base CX0 4 (d_quotient_terms.at_ K) sp_quotient_terms ∧ PySem.W.keepIn K (.ref (d_quotient_terms.at_ K)) = true := by
  refine px.R 16 rfl rfl rfl sc_quotient_terms (fun vs H Q E ⟨_, _, _, _, _, _, _, _, _, e, _⟩ => by rw [e]; rfl) (fun _ _ _ _ _ _ us hl => match us, hl with | [_, _, _], _ => rfl) (fun cdv A outer s H vs Q E hr h => ⟨_, (pss_cons (ps_par (i := 3) (j := 4) rfl sc_quotient_terms.nd rfl rfl (by decide) rfl rfl (pa_cons (pe_callTy (cr_dictCp (un2 hr)) rfl (px.f "dict" (by simp [freeL])) bo_dict (pa_cons (pv 1) pa_nil)) (pa_cons pe_dnewT pa_nil)) (by rfl)) (pss_cons (ps_set (i := 5) sc_quotient_terms.nd rfl (Or.inl rfl) (pe_cR (w_first_of px) (hr.mono (by decide)) (px.g "first_of" (by simp [gloL])) pass0 (pa_cons (pv 2) pa_nil))) (pss_cons (ps_while PassesOwn.leaving (pt_cmpR (op_neT (un1 hr)) (pv 3) pe_dnewT (nomark _)) (pss_cons (ps_set (i := 6) sc_quotient_terms.nd rfl (Or.inl rfl) (pe_cR (w_first_of px) (hr.mono (by decide)) (px.g "first_of" (by simp [gloL])) pass0 (pa_cons (pv 3) pa_nil))) (pss_cons (ps_set (i := 7) sc_quotient_terms.nd rfl (Or.inl rfl) (pe_tupleOf rfl (px.f "tuple" (by simp [freeL])) (pe_lc (own := [("one", 8), ("other", 9)]) (g := (gTup K 2 (gCons (gName 8) (gCons (gName 9) gNil)))) rfl sc_quotient_terms.nd (pi_zipA rfl (px.f "zip" (by simp [freeL])) (pa_cons (pv 6) (pa_cons (pv 5) pa_nil))) (blkOk_by (own := [("one", 8), ("other", 9)]) (N := ["prime", "whole", "part", "left", "found", "head", "first", "rest", "one", "other", "factor"]) (sc := (defScope s_quotient_terms)) (by decide +kernel)) (fun _ _ _ _ _ => (pg_tup rfl (pgs_cons (pg_name (i := 8) sc_quotient_terms.nd rfl (Or.inl rfl)) (pgs_cons (pg_name (i := 9) sc_quotient_terms.nd rfl (Or.inl rfl)) pgs_nil)))) (fun _ _ _ _ _ => pts_nil) (fun _ _ _ _ _ => (pe_op op_sub (pv 8) (pv 9)))))) (pss_cons (ps_set (i := 10) sc_quotient_terms.nd rfl (Or.inl rfl) (pe_cR (w_quotient_of px) (hr.mono (by decide)) (px.g "quotient_of" (by simp [gloL])) pass0 (pa_cons (pv 0) (pa_cons (pe_dget (un1 hr) (pv 3) (pv 6) (fun _ _ => rfl)) (pa_cons (pe_dget (un1 hr) (pv 2) (pv 5) (fun _ _ => rfl)) pa_nil))))) (pss_cons (ps_if (PW.pt (pw_or (pt_cmp (pc_isN (pv 10))) (pw_or1 (pt_cmpR op_lt (pe_callB (cr_minT rfl) rfl (px.f "min" (by simp [freeL])) bo_min (pa_cons (pv 7) pa_nil)) pe_int (nomark _))))) (pss_one (ps_ret pe_non)) pss_nil) (pss_cons (ps_dput (un1 hr) (pv 4) (pv 7) (pv 10) rfl) (pss_one (ps_set (i := 3) sc_quotient_terms.nd rfl (Or.inl rfl) (pe_cR (w_plus_terms px) (hr.mono (by decide)) (px.g "plus_terms" (by simp [gloL])) pass0 (pa_cons (pv 0) (pa_cons (pv 3) (pa_cons (pe_cR (w_times_terms px) (hr.mono (by decide)) (px.g "times_terms" (by simp [gloL])) pass0 (pa_cons (pv 0) (pa_cons (pe_dispT (un0 hr) (pps_cons (pv 7) (pv 10) pps_nil) (by rfl) (by rfl) (by simp) (by decide)) (pa_cons (pv 2) pa_nil)))) (pa_cons (pe_un un_neg pe_int) pa_nil))))))))))))) (pss_one (ps_ret (pv 4)))))), ?_⟩)
  obtain ⟨p, a, b, t, g, h, L, D, E', rfl, ha, hb, hL, G, hD, dt, zt, ht, rt, dg, zg, sg, q⟩ := h
  have sz : (64 : Nat) < sizeLine := by decide
  have hp := G.pm
  have hgt : gt g h ≠ 0 := G.ld.1
  obtain ⟨e0, g', rfl⟩ : ∃ e0 g', g = e0 :: g' := by
    cases g with
    | nil => exact absurd (gt_nil h) hgt
    | cons e0 g' => exact ⟨_, _, rfl⟩
  have he0 : e0.1 = h := Ld.uniq G.hm G.deg (Ds.ld dg zg) G.ld
  have htt := Ht.of dt zt ht
  have hgg := Ht.of dg zg G.hm
  refine ⟨_, rfl, a, _, rfl, ha, hash_nd hL hD htt.nd htt.mo, fun la hla => fun fa hfa => ?_⟩
  have Hla : H fa = none := by
    by_cases e : fa = la
    · rw [e, upd_same] at hfa; cases hfa
    · rw [upd_ne e] at hfa; exact hfa
  have hfl : la ≠ fa := fun z => by rw [← z, upd_same] at hfa; cases hfa
  have s0 : Same H (upd (upd H la (.dT (et t))) fa (.dT [])) := Same.trans (sm_new hla) (sm_new hfa)
  refine ⟨_, _, rfl, ⟨_, rfl, b, _, rfl, s0 _ _ hb, (fun z => nomatch z), fun e u qh eq tq => ?_⟩⟩
  obtain ⟨rfl, rfl⟩ := List.cons.inj eq
  rw [he0] at tq
  refine ⟨fun m σ H' => ∃ (la : Addr) (u f : Tg.T) (x6 x7 x8 x9 x10 : Option V), m = hcd u ∧ σ = [some (.int p), some (.ref a), some (.ref b), some (.ref la), some (.ref fa), some (.ref qh), x6, x7, x8, x9, x10] ∧ Same H H' ∧ Tb H' la u ∧ Tb H' fa f ∧ la ≠ fa ∧ Tp H' qh h ∧
    Ds u ∧ Nz u ∧ Hm L D (gt u) ∧ Rdc p (gt u) ∧ Ht L (D - E') f ∧ (∀ e ∈ f, ∀ z u', u = z :: u' → cd z.1 - cd h < cd e.1) ∧ ∀ res, Dv p (gt (e0 :: g')) h (gt u) res → Dv p (gt (e0 :: g')) h (gt t) (res.map (f ++ ·)), ⟨_, la, t, [], none, none, none, none, none, rfl, rfl, s0, ?_, ?_, hfl, tq, dt, zt, ht, rt, Ht.nil _ _, (fun _ h => nomatch h), fun res d => ?_⟩, ?_⟩
  · show upd _ fa _ la = _; rw [upd_ne hfl, upd_same]
  · show upd _ fa _ fa = _; rw [upd_same]; rfl
  · cases res with
    | none => exact d
    | some q => exact d
  rintro m σ H' ⟨la, u, f, x6, x7, x8, x9, x10, rfl, rfl, sm, hl, hf, hne, hq, du, zu, hu, ru, hf2, hlow, hdv⟩
  have huu := Ht.of du zu hu
  refine ⟨_, rfl, fun pn hpn => ⟨la, pn, u, [], rfl, rfl, sm_new hpn _ _ hl, upd_same, ?_⟩⟩
  have smn := Same.trans sm (sm_new (o := .dT []) hpn)
  have hln := sm_new (o := .dT []) hpn _ _ hl
  have hfn := sm_new (o := .dT []) hpn _ _ hf
  have hqn := sm_new (o := .dT []) hpn _ _ hq
  generalize upd H' pn (.dT []) = H1 at *
  cases u with
  | nil =>
    refine .inr ⟨⟨rfl, (fun _ h => nomatch h)⟩, _, rfl, ifF rfl ⟨_, rfl, ?_⟩⟩
    have d0 := hdv (some []) (.done fun k => gt_nil k)
    rw [Option.map_some, List.append_nil] at d0
    exact (q H1 smn).2 f fa d0 Hla hfn
  | cons z u' =>
    refine .inl ⟨by simp, _, rfl, ifT rfl ⟨fun σ' H' => ∃ (la : Addr) (u f : Tg.T) (x6 x7 x8 x9 x10 : Option V), hcd u < hcd (z :: u') ∧ σ' = [some (.int p), some (.ref a), some (.ref b), some (.ref la), some (.ref fa), some (.ref qh), x6, x7, x8, x9, x10] ∧ Same H H' ∧ Tb H' la u ∧ Tb H' fa f ∧ la ≠ fa ∧ Tp H' qh h ∧
      Ds u ∧ Nz u ∧ Hm L D (gt u) ∧ Rdc p (gt u) ∧ Ht L (D - E') f ∧ (∀ e ∈ f, ∀ z u', u = z :: u' → cd z.1 - cd h < cd e.1) ∧ ∀ res, Dv p (gt (e0 :: g')) h (gt u) res → Dv p (gt (e0 :: g')) h (gt t) (res.map (f ++ ·)),
      fun σ' H' ⟨la, u, f, x6, x7, x8, x9, x10, hm, r⟩ => ⟨_, hm, la, u, f, x6, x7, x8, x9, x10, rfl, r⟩, ?_⟩⟩
    refine ⟨_, rfl, la, _, rfl, hln, (fun z => nomatch z), fun e u2 q1 eq tq1 => ?_⟩
    obtain ⟨rfl, rfl⟩ := List.cons.inj eq
    have hmz := huu.mo z List.mem_cons_self
    have hmh := G.mo
    have hld : Ld (gt (z :: u')) z.1 := Ds.ld du zu
    refine ⟨_, rfl, _, rfl, q1, qh, _, _, rfl, .inr ⟨SqT.of tq1, SqT.of hqn, fun Dl hDl => ?_⟩⟩
    have hz1 : (z.1.map V.int).length = L := by rw [List.length_map, hmz.len]
    have hz2 : (h.map V.int).length = L := by rw [List.length_map, hmh.len]
    have hLs : L ≤ sizeLine := by rcases hL with rfl | rfl <;> decide
    refine lcS (walk_zipT (K := K) (a := q1) (b := qh) (xs := z.1.map V.int) (ys := h.map V.int) (n := L) (by rw [hz1, hz2]; omega)) (fun i => .int (z.1.getD i 0 - h.getD i 0)) (fun _ => true) hLs hDl (fun H' sm => ⟨SqT.of (sm _ _ tq1), SqT.of (sm _ _ hqn)⟩) ?_ ?_
    · rintro i x H2 H3 R R0 hi sm2 ⟨T, x, y, rfl, hT, rfl, hx, hy⟩ kt kf
      rw [List.getElem?_map] at hx hy
      obtain ⟨n, hn, rfl⟩ := Option.map_eq_some_iff.mp hx
      obtain ⟨m, hm, rfl⟩ := Option.map_eq_some_iff.mp hy
      refine ⟨T, _, rfl, SqT.of upd_same, rfl, _, _, rfl, _, _, rfl, rfl, rfl, yesT ⟨_, rfl, _, rfl, _, _, rfl, rfl, ?_⟩⟩
      exact kt rfl _ _ (by rw [get_D hn, get_D hm]) (sm_new hT)
    · intro H2 sm2 hD2
      rw [filt_true] at hD2
      have hsb : (List.range L).map (fun i => V.int (z.1.getD i 0 - h.getD i 0)) = (sb z.1 h).map V.int := by
        have l1 := hmz.len
        have l2 := hmh.len
        apply List.ext_getElem
        · simp [sb, l1, l2]
        · intro i h1 h2
          simp at h1
          have h3 : i < z.1.length := by omega
          have h4 : i < h.length := by omega
          simp [sb, h3, h4]
      rw [hsb] at hD2
      refine .inl ⟨_, _, rfl, SqL.of hD2, fun rr hrr => ?_⟩
      have sr : Same H1 (upd H2 rr (.tup ((sb z.1 h).map V.int))) := Same.trans sm2 (sm_new hrr)
      have hR : Tp (upd H2 rr (.tup ((sb z.1 h).map V.int))) rr (sb z.1 h) := upd_same
      generalize upd H2 rr (.tup ((sb z.1 h).map V.int)) = H3 at *
      have sm3 := Same.trans smn sr
      have hl3 := sr _ _ hln
      have hf3 := sr _ _ hfn
      have hq3 := sr _ _ hqn
      have hb3 := sm3 _ _ hb
      have hq13 := sr _ _ tq1
      have g1 : gt (z :: u') z.1 = z.2 := by rw [gt_cons, if_pos rfl]
      have g2 : gt (e0 :: g') h = e0.2 := by rw [gt_cons, if_pos he0]
      have lowd : low p (gt (e0 :: g') h) ≠ 0 := by rw [G.rd]; exact hgt
      have hbd : (gt (e0 :: g') h).natAbs < 2 ^ 80 := by
        rw [g2]
        have := sg e0 List.mem_cons_self
        omega
      refine ⟨_, rfl, _, rfl, _, rfl, la, _, rfl, dget_tb hl3 hq13 (by simp), _, rfl, _, rfl, b, _, rfl, dget_tb hb3 hq3 (by rw [← he0]; simp), p, _, _, rfl, hp, lowd, hbd, fun r H4 s4 hQ => ?_⟩
      have sm4 := Same.trans sm3 s4
      cases r with
      | none =>
        refine ⟨_, rfl, _, rfl, ifT rfl (ifT rfl ?_)⟩
        have d0 := hdv none (.rest hld hQ)
        exact (q H4 sm4).1 d0
      | some c =>
        refine ⟨_, rfl, _, rfl, ifF rfl ⟨_, rfl, rr, _, rfl, SqT.of (s4 _ _ hR), ?_, fun mn hmn hall => ⟨_, _, rfl, rfl, _, rfl, ?_⟩⟩⟩
        · intro hnil
          have l0 := sb_len (k := z.1) (j := h) hmz.len hmh.len
          rw [hnil] at l0
          have := hL.pos
          simp at l0
          omega
        by_cases hneg : mn < 0
        · refine ifT (decide_eq_true hneg) ?_
          have d0 := hdv none (.bad hld ⟨mn, hmn, hneg⟩)
          exact (q H4 sm4).1 d0
        · refine ifF (decide_eq_false hneg) ?_
          have hnn : ∀ x ∈ sb z.1 h, 0 ≤ x := fun x hx => by have := hall x hx; omega
          have hmr := hmz.sb hmh hnn
          have hf4 := s4 _ _ hf3
          have hl4 := s4 _ _ hl3
          have hR4 := s4 _ _ hR
          have hq4 := s4 _ _ hq3
          have lf := hf2.len hL (by have := hmh.deg; omega)
          have hnk : sb z.1 h ∉ f.map (·.1) := fun hc => by
            obtain ⟨e, he, e1⟩ := List.mem_map.mp hc
            have := hlow e he z u' rfl
            rw [e1, cd_sb (by rw [hmz.len, hmh.len])] at this
            omega
          refine ⟨_, rfl, _, rfl, _, rfl, fa, _, rfl, dput_tb hf4 hR4 (by omega), ?_⟩
          rw [put_new c hnk]
          have hfr : H1 fa ≠ none := fun z => by rw [hfn] at z; cases z
          have sm5 : Same H (upd H4 fa (.dT (et (f ++ [(sb z.1 h, c)])))) := sm_upd Hla sm4
          have hf5 : Tb (upd H4 fa (.dT (et (f ++ [(sb z.1 h, c)])))) fa (f ++ [(sb z.1 h, c)]) := upd_same
          have hl5 : Tb (upd H4 fa (.dT (et (f ++ [(sb z.1 h, c)])))) la (z :: u') := by show upd H4 fa _ la = _; rw [upd_ne hne]; exact hl4
          have hR5 : Tp (upd H4 fa (.dT (et (f ++ [(sb z.1 h, c)])))) rr (sb z.1 h) := by
            show upd H4 fa _ rr = _; rw [upd_ne (ne_of hR4 hf4 (fun z => nomatch z))]; exact hR4
          have hq5 : Tp (upd H4 fa (.dT (et (f ++ [(sb z.1 h, c)])))) qh h := by
            show upd H4 fa _ qh = _; rw [upd_ne (ne_of hq4 hf4 (fun z => nomatch z))]; exact hq4
          generalize upd H4 fa (.dT (et (f ++ [(sb z.1 h, c)]))) = H5 at *
          refine ⟨_, rfl, _, rfl, _, rfl, fun dp hdp => ⟨_, rfl, _, rfl, ?_⟩⟩
          have hR6 : Tp (upd H5 dp (.dT [])) rr (sb z.1 h) := sm_new hdp _ _ hR5
          refine ⟨upd_same, [(rr, sb z.1 h, c)], rfl, ?_, by simp, by simp, ?_⟩
          · intro y hy
            rw [List.mem_singleton.mp hy]
            exact hR6
          rw [upd_upd]
          have s6 : Same H5 (upd H5 dp (.dT (et ([(rr, sb z.1 h, c)].map (·.2))))) := sm_new hdp
          have hdp6 : Tb (upd H5 dp (.dT (et ([(rr, sb z.1 h, c)].map (·.2))))) dp [(sb z.1 h, c)] := upd_same
          generalize upd H5 dp (.dT (et ([(rr, sb z.1 h, c)].map (·.2)))) = H6 at *
          have sm6 := Same.trans sm5 s6
          have hdb : dp ≠ b := fun e => by
            have := sm5 _ _ hb
            rw [← e, hdp] at this; cases this
          refine ⟨_, rfl, p, dp, b, [(sb z.1 h, c)], _, L, D - E', E', rfl, hp, hdb, hdp6, sm6 _ _ hb, hL, by omega, ⟨by simp [Nd], fun e he => by rw [List.mem_singleton.mp he]; exact hmr⟩, hgg, sg, fun r7 H7 v s7 fr7 hv dv nv gv => ?_⟩
          have gv2 : ∀ k, gt v k = low p (c * sh (sb z.1 h) (gt (e0 :: g')) k) := fun k => by rw [gv, ml_cons, ml_nil]; simp
          have hv2 : Ht L D v := Ht.of dv nv fun k hk => by
            rw [gv2] at hk
            have h1 : sh (sb z.1 h) (gt (e0 :: g')) k ≠ 0 := fun z => by rw [z, Int.mul_zero, low_zero] at hk; exact hk rfl
            have := (sh_hm G.hm hmr h1).1
            rw [show D - E' + E' = D by omega] at this
            exact this
          refine ⟨_, rfl, p, la, r7, -1, _, v, L, D, rfl, hp, s7 _ _ (s6 _ _ hl5), hv, hL, hD, huu, hv2, ⟨by decide, by decide⟩, fun r8 H8 w8 s8 fr8 hw dw nw gw => ?_⟩
          have gfun : gt w8 = stp p (gt (e0 :: g')) (gt (z :: u')) (sb z.1 h) c := by
            funext k
            rw [gw, gv2]
            unfold stp
            rw [show gt (z :: u') k + -1 * low p (c * sh (sb z.1 h) (gt (e0 :: g')) k) = gt (z :: u') k - low p (c * sh (sb z.1 h) (gt (e0 :: g')) k) by omega, low_sub']
          have s58 := Same.trans s6 (Same.trans s7 s8)
          have hcdlt : ∀ y v', w8 = y :: v' → cd y.1 < cd z.1 := fun y v' e => by
            have h1 : gt w8 y.1 ≠ 0 := by rw [e, gt_cons, if_pos rfl]; exact nw y (by rw [e]; exact List.mem_cons_self)
            rw [gfun] at h1
            exact stp_ld G hu hld (by omega) hnn hQ y.1 h1
          refine ⟨r8, w8, f ++ [(sb z.1 h, c)], _, _, _, _, _, ?_, rfl, Same.trans sm5 s58, hw, s58 _ _ hf5, ?_, s58 _ _ hq5, dw, nw, ?_, ?_, ?_, ?_, ?_⟩
          · cases w8 with
            | nil => exact Nat.succ_pos _
            | cons y v' =>
              have h1 := hcdlt y v' rfl
              have h2 : 0 ≤ cd y.1 := by
                have h3 : gt (y :: v') y.1 ≠ 0 := by rw [gt_cons, if_pos rfl]; exact nw y List.mem_cons_self
                rw [gfun] at h3
                exact (cd_bd ((stp_hm G hu hld hnn y.1 h3).sm (by omega))).1
              show (cd y.1).toNat + 1 < (cd z.1).toNat + 1
              omega
          · exact fun e => by
              have h1 := (Same.trans s6 s7) _ _ hf5
              rw [← e, fr8] at h1; cases h1
          · rw [gfun]; exact stp_hm G hu hld hnn
          · rw [gfun]; exact stp_rd
          · exact ⟨by
              have := hf2.nd
              unfold Nd at this ⊢
              rw [List.map_append, List.nodup_append]
              exact ⟨this, by simp, fun x hx y hy e => hnk (by have h9 := List.mem_singleton.mp hy; rw [e, h9] at hx; exact hx)⟩, fun e he => (List.mem_append.mp he).elim (hf2.mo e) fun h => by rw [List.mem_singleton.mp h]; exact hmr⟩
          · intro e he y v' ew
            have h1 := hcdlt y v' ew
            rcases List.mem_append.mp he with h2 | h2
            · have := hlow e h2 z u' rfl
              omega
            · rw [List.mem_singleton.mp h2]
              show cd y.1 - cd h < cd (sb z.1 h)
              rw [cd_sb (by rw [hmz.len, hmh.len])]
              omega
          · intro res d
            rw [gfun] at d
            have d1 := hdv _ (.step hld hnn hQ d)
            cases res with
            | none => exact d1
            | some q =>
              rw [Option.map_some, Option.map_some] at d1
              rw [Option.map_some, List.append_assoc]
              exact d1
end
end Tg
end
section
set_option Elab.async false
set_option autoImplicit false
set_option linter.all false
set_option maxRecDepth 100000
set_option maxHeartbeats 4000000
/-! Dict comprehensions whose keys are ints. -/
namespace Tg
open PySem PySem.Spec PyProof.Rows L2
section
variable {X : Cx}
def relK (H : Hp) (D : Addr) (y z : V) (H' : Hp) : Prop := ∃ kvs k, H D = some (.dK kvs) ∧ y = kV k ∧ kvs.length < sizeLine ∧ H' = upd H D (.dK (putK kvs k z))
def stK (X : Cx) : Sto X where
  o0 := .dK []
  rel := relK
  new := fun h H hb => dk_empty h hb
  put := by
    intro Y hP hw hA pins σ H H' s E D y z u r Q I h ry rz q
    obtain ⟨kvs, k, hD, rfl, hz, rfl⟩ := h
    exact d_dictSet I hD hz ry rz q
end
end Tg
end
section
set_option Elab.async false
set_option autoImplicit false
set_option linter.all false
set_option maxRecDepth 100000
set_option maxHeartbeats 4000000
/-! The checks of tables. -/
namespace Tg
open PySem PySem.Spec PyProof.Rows L2 RZ
section
variable {P : Program} {w : World} {K : PySem.W.Frag} {mg : Str → Option Value} {base : Heap}
def sp_are_exponents : Sp := fun vs H Q _ => ∃ (L : Nat) (D : Int) (a : Addr) (k : Tg.K), vs = [.int L, .ref a] ∧ Tp H a k ∧ Mo L D k ∧ D ≤ 40 ∧ L < sizeLine ∧ ∀ H', Same H H' → Q (.bl true) H'
theorem sc_are_exponents : FnScope ["letters", "value", "one"] ["letters", "value"] (defScope s_are_exponents) := ⟨rfl, rfl, rfl, by decide +kernel, rfl, by decide +kernel, by decide +kernel⟩
theorem w_are_exponents (px : Px K mg) : FnR P w K mg base CX0 3 (d_are_exponents.at_ K) sp_are_exponents ∧ PySem.W.keepIn K (.ref (d_are_exponents.at_ K)) = true := by
  refine px.R 9 rfl rfl rfl sc_are_exponents (fun vs H Q E ⟨_, _, _, _, e, _⟩ => by rw [e]; rfl) (fun _ _ _ _ _ _ us hl => match us, hl with | [_, _], _ => rfl) (fun cdv A outer s H vs Q E hr h => ⟨_, (pss_one (ps_ret (pe_and (pe_callB call_isi rfl (px.f "isinstance" (by simp [freeL])) bo_isi (pa_cons (pv 1) (pa_cons (pe_bltn (v := .ty "tuple") rfl (px.f "tuple" (by simp [freeL])) bo_tuple rfl) pa_nil))) (pe_and (pe_cmpR op_eq (pe_callB call_len_seq rfl (px.f "len" (by simp [freeL])) bo_len (pa_cons (pv 1) pa_nil)) (pv 0) (nomark _)) (pe_one (pe_callB (cr_all rfl) rfl (px.f "all" (by simp [freeL])) bo_all (pa_cons (pe_lc (own := [("one", 2)]) rfl sc_are_exponents.nd (pi_tup (pv 1)) (blkOk_by (own := [("one", 2)]) (N := ["letters", "value", "one"]) (sc := (defScope s_are_exponents)) (by decide +kernel)) (fun _ _ _ _ _ => (pg_name (i := 2) sc_are_exponents.nd rfl (Or.inl rfl))) (fun _ _ _ _ _ => pts_nil) (fun _ _ _ _ _ => (pe_cR (w_is_within px) (hr.mono (by decide)) (px.g "is_within" (by simp [gloL])) pass0 (pa_cons (pv 2) (pa_cons pe_int (pa_cons (pe_gint rfl (px.i "BOUND" (10 ^ 60 - 1) (by simp [intL]))) pa_nil)))))) pa_nil))))))), ?_⟩)
  obtain ⟨L, D, a, k, rfl, ha, hm, hD, hz, q⟩ := h
  refine ⟨_, rfl, _, _, _, _, true, rfl, .ty _, .base (.tup ha), by first | rfl | (with_unfolding_all rfl) | decide +kernel, true, rfl, ifT rfl ⟨_, rfl, a, _, rfl, .inr (SqT.of ha), _, rfl, rfl, _, rfl, ifT (by simp [eqV, hm.len]) ?_⟩⟩
  refine ⟨_, rfl, a, rfl, ⟨_, SqT.of ha⟩, fun D1 hD1 => ?_⟩
  refine lcS (walk_tup (K := K) (a := a) (xs := k.map V.int)) (fun _ => .bl true) (fun _ => true) (by rw [List.length_map, hm.len]; omega) hD1 (fun H' sm => SqT.of (sm _ _ ha)) ?_ ?_
  · rintro i x H1 H2 R R0 hi sm ⟨rfl, hx⟩ kt kf
    rw [List.getElem?_map] at hx
    obtain ⟨n, hn, rfl⟩ := Option.map_eq_some_iff.mp hx
    have h1 := hm.nn n (List.mem_of_getElem? hn)
    have h2 := hm.le n (List.mem_of_getElem? hn)
    have h3 : n ≤ 10 ^ 60 - 1 := by
      have : (40 : Int) ≤ 10 ^ 60 - 1 := by decide
      omega
    refine ⟨rfl, yesT ⟨_, rfl, n, 0, _, rfl, ?_⟩⟩
    exact kt rfl _ _ (by simp [h1]; omega) (Same.refl _)
  · intro H1 sm hD2
    refine ⟨_, List.replicate ((List.filter (fun _ => true) (List.range (k.map V.int).length)).length) true, rfl, SqL.of ?_, ?_⟩
    · rw [hD2]; congr 2; rw [List.map_const', List.map_replicate]
    · exact toQ (by simp) (q H1 sm)
def sp_is_number_of2 : Sp := fun vs H Q E => sp_is_number_of (vs ++ [.int (10 ^ 60)]) H Q E
theorem w_is_number_of2 (px : Px K mg) : FnR P w K mg base CX0 2 (d_is_number_of.at_ K) sp_is_number_of2 ∧ PySem.W.keepIn K (.ref (d_is_number_of.at_ K)) = true := ⟨(w_is_number_of (P := P) (w := w) (base := base) px).1.1, (w_is_number_of (P := P) (w := w) (base := base) px).2⟩
theorem putK_one {k : Key} {v : V} {kvs : List (Key × V)} (h : kvs = [] ∨ kvs = [(k, v)]) : putK kvs k v = [(k, v)] := by
  rcases h with rfl | rfl <;> simp [putK]
def sp_is_table_of : Sp := fun vs H Q _ => ∃ (p : Int) (L : Nat) (D : Int) (a : Addr) (t : T), vs = [.int p, .int L, .ref a] ∧ Tb H a t ∧ Lt L ∧ D ≤ 6 ∧ Ht L D t ∧ (∀ e ∈ t, low p e.2 = e.2 ∧ e.2 ≠ 0 ∧ (-(10 ^ 60) < e.2 ∧ e.2 < 10 ^ 60)) ∧ Pm p ∧ ∀ H', Same H H' → Q (.bl true) H'
theorem sc_is_table_of : FnScope ["prime", "letters", "value", "one", "degrees", "number"] ["prime", "letters", "value"] (defScope s_is_table_of) := ⟨rfl, rfl, rfl, by decide +kernel, rfl, by decide +kernel, by decide +kernel⟩
/- prime 0 letters 1 value 2 one 3 degrees 4 number 5 -/
theorem w_is_table_of (px : Px K mg) : FnR P w K mg base CX0 4 (d_is_table_of.at_ K) sp_is_table_of ∧ PySem.W.keepIn K (.ref (d_is_table_of.at_ K)) = true := by
  refine px.R 10 rfl rfl rfl sc_is_table_of (fun vs H Q E ⟨_, _, _, _, _, e, _⟩ => by rw [e]; rfl) (fun _ _ _ _ _ _ us hl => match us, hl with | [_, _, _], _ => rfl) (fun cdv A outer s H vs Q E hr h => ⟨_, (pss_cons (ps_if (PW.pt (pw_or (pt_not (pt_val (pe_callB call_isi rfl (px.f "isinstance" (by simp [freeL])) bo_isi (pa_cons (pv 2) (pa_cons (pe_bltn (v := .ty "dict") rfl (px.f "dict" (by simp [freeL])) bo_dict rfl) pa_nil))))) (pw_or1 (pt_not (pt_val (pe_callB (cr_all rfl) rfl (px.f "all" (by simp [freeL])) bo_all (pa_cons (pe_lock (pe_lc (own := [("one", 3)]) rfl sc_is_table_of.nd (pi_keys (pv 2)) (blkOk_by (own := [("one", 3)]) (N := ["prime", "letters", "value", "one", "degrees", "number"]) (sc := (defScope s_is_table_of)) (by decide +kernel)) (fun _ _ _ _ _ => (pg_name (i := 3) sc_is_table_of.nd rfl (Or.inl rfl))) (fun _ _ _ _ _ => pts_nil) (fun _ _ _ _ _ => (pe_cR (w_are_exponents px) (hr.mono (by decide)) (px.g "are_exponents" (by simp [gloL])) pass0 (pa_cons (pv 1) (pa_cons (pv 3) pa_nil)))))) pa_nil))))))) (pss_one (ps_ret pe_bl)) pss_nil) (pss_cons (ps_lock (ps_setDcS (i := 4) (own := [("one", 3)]) (tk := tCB (rSumT K) (tCons (tVar 3) tNil)) (stK _) rfl sc_is_table_of.nd rfl rfl (sw_trueD rfl rfl rfl (by decide +kernel)) (pi_keys (pv 2)) (blkOk_by (own := [("one", 3)]) (N := ["prime", "letters", "value", "one", "degrees", "number"]) (sc := (defScope s_is_table_of)) (by decide +kernel)) (fun _ _ _ _ _ => (pg_name (i := 3) sc_is_table_of.nd rfl (Or.inl rfl))) (fun _ _ _ _ _ => pts_nil) (fun _ _ _ _ _ => (pe_callB (cr_sumT rfl) rfl (px.f "sum" (by simp [freeL])) bo_sum (pa_cons (pv 3) pa_nil))) (fun _ _ _ _ _ => pe_bl))) (pss_cons (ps_if (PW.pt (pw_or (pt_cmpR op_gt (pe_callB call_lenD rfl (px.f "len" (by simp [freeL])) bo_len (pa_cons (pv 4) pa_nil)) pe_int (nomark _)) (pw_or1 (pt_cmpR op_gt (pe_callBK (crk_maxKD rfl) rfl (px.f "max" (by simp [freeL])) bo_max (pa_cons (pv 4) pa_nil) (pk_cons pe_int pk_nil)) (pe_gint rfl (px.i "MAX_DEGREE" 40 (by simp [intL]))) (nomark _))))) (pss_one (ps_ret pe_bl)) pss_nil) (pss_one (ps_ret (pe_callB (cr_all rfl) rfl (px.f "all" (by simp [freeL])) bo_all (pa_cons (pe_lock (pe_lc (own := [("number", 5)]) rfl sc_is_table_of.nd (pi_valuesT (pv 2)) (blkOk_by (own := [("number", 5)]) (N := ["prime", "letters", "value", "one", "degrees", "number"]) (sc := (defScope s_is_table_of)) (by decide +kernel)) (fun _ _ _ _ _ => (pg_name (i := 5) sc_is_table_of.nd rfl (Or.inl rfl))) (fun _ _ _ _ _ => pts_nil) (fun _ _ _ _ _ => (pe_and (pe_cR (w_is_number_of2 px) (hr.mono (by decide)) (px.g "is_number_of" (by simp [gloL])) pass0 (pa_cons (pv 0) (pa_cons (pv 5) pa_nil))) (pe_one (pe_cmpR op_ne (pv 5) pe_int (nomark _))))))) pa_nil))))))), ?_⟩)
  obtain ⟨p, L, D, a, t, rfl, ha, hL, hD, ht, hn, hp, q⟩ := h
  have sz : (64 : Nat) < sizeLine := by decide
  have hlen := ht.len hL hD
  refine ⟨_, rfl, _, _, _, _, true, rfl, .ty _, .base (.dT ha), by first | rfl | (with_unfolding_all rfl) | decide +kernel, true, rfl, ifF rfl ?_⟩
  refine ⟨a, _, ha, trivial, fun od => ⟨_, rfl, a, od, rfl, .inr ⟨_, upd_same, fun D1 hD1 => ?_⟩⟩⟩
  have hsl : ∀ e ∈ t, Tb H a t := fun _ _ => ha
  refine lcS walk_keysT (fun _ => .bl true) (fun _ => true) (by rw [et_length]; omega) hD1 (fun H' sm => sm _ _ upd_same) ?_ ?_
  · rintro i x H1 H2 R R0 hi sm ⟨rfl, k, v, qk, ee, rfl, hqk⟩ kt kf
    obtain ⟨z, hz, rfl, rfl⟩ := et_get ee
    rw [ek_kV] at hqk
    refine ⟨rfl, yesT ⟨_, rfl, _, rfl, L, D, qk, z.1, rfl, hqk, ht.mo z (List.mem_of_getElem? hz), by omega, by rcases hL with rfl | rfl <;> decide, fun H3 s3 => ?_⟩⟩
    exact kt rfl _ _ rfl s3
  intro H1 sm1 hl1
  refine ⟨sm1 _ _ upd_same, ?_⟩
  have s2 := lk_back ha sm1
  have hDa : D1 ≠ a := (lk_none ha hD1).2
  have hl2 : upd H1 a (.dT (et t)) D1 = some (.lst ((List.replicate (et t).length true).map V.bl)) := by
    rw [upd_ne hDa, hl1, filt_true]
    congr 2
    rw [List.map_const', List.map_replicate]
    simp
  generalize upd H1 a (.dT (et t)) = H2 at *
  refine ⟨D1, _, rfl, SqL.of hl2, _, rfl, ?_⟩
  refine ifF (by simp) ?_
  have ha2 := s2 _ _ ha
  refine ⟨a, _, ha2, trivial, fun od2 => ⟨_, rfl, a, od2, rfl, .inr ⟨_, upd_same, fun D2 hD2 => ?_⟩⟩⟩
  obtain ⟨hD2n, hD2a⟩ := lk_none ha2 hD2
  refine dcS_it walk_keysT (fun i H' => Same (upd H2 a (.frz od2 (.dT (et t)))) H' ∧ ∃ kvs, H' D2 = some (.dK kvs) ∧ (kvs = [] ∨ kvs = [(Sum.inl D, .bl true)])) ⟨sm_new hD2, [], upd_same, .inl rfl⟩ (fun i H' _ p => p.1 _ _ upd_same) ?_ ?_
  · rintro i x H3 H4 hi ⟨sm3, kvs, hk, hkv⟩ ⟨rfl, k, v, qk, ee, rfl, hqk⟩
    obtain ⟨z, hz, rfl, rfl⟩ := et_get ee
    rw [ek_kV] at hqk
    have hsum : z.1.sum = D := (ht.mo z (List.mem_of_getElem? hz)).sum
    refine ⟨rfl, yesT ⟨_, rfl, qk, z.1, rfl, SqT.of hqk, ?_⟩⟩
    refine ⟨_, ⟨kvs, Sum.inl D, hk, by rw [hsum]; rfl, by rcases hkv with rfl | rfl <;> (simp; omega), rfl⟩, sm_upd hD2 sm3, _, upd_same, .inr (putK_one hkv)⟩
  rintro H3 ⟨sm3, kvs, hk, hkv⟩
  refine ⟨sm3 _ _ upd_same, ?_⟩
  have s3 := Same.trans s2 (lk_back ha2 sm3)
  have hk3 : upd H3 a (.dT (et t)) D2 = some (.dK kvs) := by rw [upd_ne hD2a]; exact hk
  generalize upd H3 a (.dT (et t)) = H5 at *
  refine ⟨_, rfl, D2, kvs, rfl, hk3, _, _, rfl, rfl, _, rfl, ifF (by rcases hkv with rfl | rfl <;> rfl) ?_⟩
  have tail : (tRet (tCB (rAll K) (tCons (tLockE (tLc (iValsT (tVar 2)) (gName 5) tYes (tAndV (tCR sp_is_number_of2 E0 (tCons (tVar 0) (tCons (tVar 5) tNil))) (tOp rNe (tVar 5) (tC (V.int 0)))) [5])) tNil))) { nx := fun x H' => Q V.non H', rt := Q } [some (.int p), some (.int L), some (.ref a), none, some (.ref D2), none] H5 := by
    have ha5 := s3 _ _ ha
    refine ⟨a, _, ha5, trivial, fun od3 => ⟨_, rfl, a, od3, _, rfl, upd_same, fun D3 hD3 => ?_⟩⟩
    refine lcS walk_valuesT (fun _ => .bl true) (fun _ => true) (by rw [et_length]; omega) hD3 (fun H' sm => sm _ _ upd_same) ?_ ?_
    · rintro i x H6 H7 R R0 hi sm ⟨rfl, k, ee⟩ kt kf
      obtain ⟨z, hz, rfl, rfl⟩ := et_get ee
      obtain ⟨n1, n2, n3, n4⟩ := hn z (List.mem_of_getElem? hz)
      refine ⟨rfl, yesT ⟨_, rfl, _, rfl, p, z.2, 10 ^ 60, rfl, fun h0 => ?_, fun _ => ⟨n3, n4⟩, true, rfl, ifT rfl ⟨_, rfl, rfl, ?_⟩⟩⟩
      · have := low_bd hp h0 z.2
        rw [n1] at this
        exact this
      · exact kt rfl _ _ (by simp [eqV, n2]) (Same.refl _)
    · intro H6 sm6 hl6
      refine ⟨sm6 _ _ upd_same, ?_⟩
      have s6 := lk_back ha5 sm6
      have hDa6 : D3 ≠ a := (lk_none ha5 hD3).2
      refine ⟨D3, List.replicate (et t).length true, rfl, SqL.of ?_, ?_⟩
      · rw [upd_ne hDa6, hl6, filt_true]
        congr 2
        rw [List.map_const', List.map_replicate]
        simp
      · exact toQ (by simp) (q _ (Same.trans s3 s6))
  rcases hkv with rfl | rfl
  · refine ⟨_, rfl, D2, [], [], _, rfl, rfl, hk3, rfl, (fun _ => ⟨_, _, rfl, rfl, _, rfl, ifF (by decide) ?_⟩), (fun m h => nomatch h)⟩
    exact tail
  · refine ⟨_, rfl, D2, _, [D], _, rfl, rfl, hk3, rfl, (fun h => nomatch h), fun m hm _ => ⟨_, _, rfl, rfl, _, rfl, ifF ?_ ?_⟩⟩
    · rw [List.mem_singleton.mp hm]
      exact decide_eq_false (by omega)
    · exact tail
end
end Tg
end
section
set_option Elab.async false
set_option autoImplicit false
set_option linter.all false
set_option maxRecDepth 100000
set_option maxHeartbeats 4000000
/-! Forms. -/
namespace Tg
open PySem PySem.Spec PyProof.Rows L2 RZ
theorem CallR.or {X : Cx} {f : Value} {r1 r2 : List V → Hp → VK → Prop} (h1 : CallR X f r1) (h2 : CallR X f r2) : CallR X f (fun vs H Q => r1 vs H Q ∨ r2 vs H Q) :=
  fun pins s σ H vs us Q I r h => h.elim (h1 pins s σ H vs us Q I r) (h2 pins s σ H vs us Q I r)
theorem kit_self {K : PySem.W.Frag} {C : Addr} : PySem.W.kitOne K (.ref C) (.ref C) = some true := by
  unfold PySem.W.kitOne
  rw [if_pos (by first | exact beq_self_eq_true _ | decide | simp)]
theorem slt_same {H H' : Hp} {a C dx : Addr} {vs : List (Option V)} (h : SlX.Slt H a C dx vs) (s : Same H H') : SlX.Slt H' a C dx vs :=
  h.elim (fun z => .inl ⟨s _ _ z.1, z.2⟩) fun z => .inr ⟨s _ _ z.1, s _ _ z.2⟩
/-- two addresses may change -/
def But2 (x y : Addr) (H H' : Hp) : Prop := ∀ b o, b ≠ x → b ≠ y → H b = some o → H' b = some o
theorem but2_same {x y : Addr} {H H' : Hp} {o u : HO} (hx : H x = none) (hy : H y = none) (b : But2 x y (upd (upd H y o) x u) H') : Same H H' := fun c w e => by
  have h1 : c ≠ x := fun z => by rw [z, hx] at e; cases e
  have h2 : c ≠ y := fun z => by rw [z, hy] at e; cases e
  exact b c w h1 h2 (by rw [upd_ne h1, upd_ne h2]; exact e)
theorem but2_slH {x dx C : Addr} {H H' : Hp} {vs : List (Option V)} (b : But2 x dx H H') : But2 x dx H (SlX.slH H' x C dx vs) := fun c o h1 h2 e => by
  rw [SlX.slH_ne h1 h2]; exact b c o h1 h2 e
section
variable {P : Program} {w : World} {K : PySem.W.Frag} {mg : Str → Option Value} {base : Heap}
def sp_require_letters : Sp := fun vs H Q _ => ∃ L : Nat, vs = [.int L] ∧ Lt L ∧ Q .non H
theorem sc_require_letters : FnScope ["value"] ["value"] (defScope s_require_letters) := ⟨rfl, rfl, rfl, by decide +kernel, rfl, by decide +kernel, by decide +kernel⟩
theorem w_require_letters (px : Px K mg) : FnR P w K mg base CX0 3 (d_require_letters.at_ K) sp_require_letters ∧ PySem.W.keepIn K (.ref (d_require_letters.at_ K)) = true := by
  refine px.R 18 rfl rfl rfl sc_require_letters (fun vs H Q E ⟨_, e, _⟩ => by rw [e]; rfl) (fun _ _ _ _ _ _ us hl => match us, hl with | [_], _ => rfl) (fun cdv A outer s H vs Q E hr h => ⟨_, (pss_one (ps_if (pt_not (pt_val (pe_cR (w_is_within px) (hr.mono (by decide)) (px.g "is_within" (by simp [gloL])) pass0 (pa_cons (pv 0) (pa_cons (pe_gint rfl (px.i "TWO" 2 (by simp [intL]))) (pa_cons (pe_gint rfl (px.i "THREE" 3 (by simp [intL]))) pa_nil)))))) (pss_one (ps_never)) pss_nil)), ?_⟩)
  obtain ⟨L, rfl, hL, q⟩ := h
  refine ⟨_, rfl, _, _, _, rfl, _, rfl, ifF ?_ q⟩
  rcases hL with rfl | rfl <;> decide
def sp_require_degree : Sp := fun vs H Q _ => ∃ D : Int, vs = [.int D] ∧ D ≤ 40 ∧ Q .non H
theorem sc_require_degree : FnScope ["degree"] ["degree"] (defScope s_require_degree) := ⟨rfl, rfl, rfl, by decide +kernel, rfl, by decide +kernel, by decide +kernel⟩
theorem w_require_degree (px : Px K mg) : FnR P w K mg base CX0 1 (d_require_degree.at_ K) sp_require_degree ∧ PySem.W.keepIn K (.ref (d_require_degree.at_ K)) = true := by
  refine px.R 32 rfl rfl rfl sc_require_degree (fun vs H Q E ⟨_, e, _⟩ => by rw [e]; rfl) (fun _ _ _ _ _ _ us hl => match us, hl with | [_], _ => rfl) (fun cdv A outer s H vs Q E hr h => ⟨_, (pss_one (ps_if (pt_cmpR op_gt (pv 0) (pe_gint rfl (px.i "MAX_DEGREE" 40 (by simp [intL]))) (nomark _)) (pss_one (ps_never)) pss_nil)), ?_⟩)
  obtain ⟨D, rfl, hD, q⟩ := h
  exact ⟨_, rfl, _, _, rfl, rfl, _, rfl, ifF (decide_eq_false (by omega)) q⟩
/-- the degree told -/
def dg : T → V
  | [] => .non
  | e :: _ => .int e.1.sum
def sp_degree_of : Sp := fun vs H Q _ => ∃ (a : Addr) (t : T), vs = [.ref a] ∧ Tb H a t ∧ Q (dg t) H
theorem sc_degree_of : FnScope ["terms", "one"] ["terms"] (defScope s_degree_of) := ⟨rfl, rfl, rfl, by decide +kernel, rfl, by decide +kernel, by decide +kernel⟩
theorem w_degree_of (px : Px K mg) : FnR P w K mg base CX0 1 (d_degree_of.at_ K) sp_degree_of ∧ PySem.W.keepIn K (.ref (d_degree_of.at_ K)) = true := by
  refine px.R 21 rfl rfl rfl sc_degree_of (fun vs H Q E ⟨_, _, e, _⟩ => by rw [e]; rfl) (fun _ _ _ _ _ _ us hl => match us, hl with | [_], _ => rfl) (fun cdv A outer s H vs Q E hr h => ⟨_, (pss_cons (ps_lock (ps_for PassesOwn.leaving rfl (pi_keys (pv 0)) (pg_name (i := 1) sc_degree_of.nd rfl (Or.inl rfl)) (pss_one (ps_ret (pe_callB (cr_sumT rfl) rfl (px.f "sum" (by simp [freeL])) bo_sum (pa_cons (pv 1) pa_nil)))))) (pss_one (ps_ret pe_non))), ?_⟩)
  obtain ⟨a, t, rfl, ha, q⟩ := h
  refine ⟨a, _, ha, trivial, fun od => ⟨_, rfl, a, od, rfl, .inr ⟨_, upd_same, ?_⟩⟩⟩
  refine for_it walk_keysT (fun i σ H' => i = 0 ∧ H' = upd H a (.frz od (.dT (et t))) ∧ σ = L2.start _ [.ref a]) ⟨rfl, rfl, rfl⟩ (fun i σ H' _ p => by rw [p.2.1]; exact upd_same) ?_ ?_
  · rintro i x σ H1 H2 hi ⟨rfl, rfl, rfl⟩ ⟨rfl, k, v, q1, ee, rfl, hq⟩
    obtain ⟨z, hz, rfl, rfl⟩ := et_get ee
    rw [ek_kV] at hq
    refine ⟨_, rfl, q1, z.1, rfl, SqT.of hq, upd_same, ?_⟩
    rw [upd_upd, upd_self ha]
    cases t with
    | nil => cases hz
    | cons e u =>
      obtain rfl : e = z := Option.some.inj hz
      exact q
  · rintro σ H1 ⟨hl, rfl, rfl⟩
    refine ⟨upd_same, ?_⟩
    rw [upd_upd, upd_self ha]
    have : t = [] := List.eq_nil_of_length_eq_zero (by rw [et_length] at hl; exact hl)
    subst this
    exact q
/-- what a Known holds -/
abbrev kn (L p : V) (a : Addr) : List (Option V) := [some L, some p, some (.ref a)]
abbrev fm (D L p : V) (a : Addr) : List (Option V) := [some D, some L, some p, some (.ref a)]
def sp_Known_init (K : PySem.W.Frag) : Sp := fun vs H Q _ => ∃ (x dx a : Addr) (p L : V), vs = [.ref x, p, L, .ref a] ∧ dx ≠ x ∧ H x = some (.ins (He.ga K "Known") dx []) ∧ ∀ H', But2 x dx H H' → SlX.Slt H' x (He.ga K "Known") dx (kn L p a) → Q .non H'
theorem sc_Known___init : FnScope ["self", "prime", "letters", "terms"] ["self", "prime", "letters", "terms"] (defScope m_Known_init) := ⟨rfl, rfl, rfl, by decide +kernel, rfl, by decide +kernel, by decide +kernel⟩
theorem w_Known_init (px : Px K mg) : FnR P w K mg base CX0 1 (d_Known_init.at_ K) (sp_Known_init K) ∧ PySem.W.keepIn K (.ref (d_Known_init.at_ K)) = true := by
  refine px.R 22 rfl rfl rfl sc_Known___init (fun vs H Q E ⟨_, _, _, _, _, e, _⟩ => by rw [e]; rfl) (fun _ _ _ _ _ _ us hl => match us, hl with | [_, _, _, _], _ => rfl) (fun cdv A outer s H vs Q E hr h => ⟨_, (pss_cons (SlX.ps_sl (pv 0) (pv 1)) (pss_cons (SlX.ps_sl (pv 0) (pv 2)) (pss_one (SlX.ps_sl (pv 0) (pv 3))))), ?_⟩)
  obtain ⟨x, dx, a, p, L, rfl, hne, hx, q⟩ := h
  obtain ⟨p1, s1⟩ := px.cl.kl
  obtain ⟨p2, s2⟩ := px.cl.kp
  obtain ⟨p3, s3⟩ := px.cl.kt
  refine ⟨_, rfl, _, rfl, x, _, dx, _, _, _, rfl, .inl ⟨hx, rfl⟩, px.cl.sk, s2, ?_⟩
  refine ⟨_, rfl, _, rfl, x, _, dx, _, _, _, rfl, SlX.slH_slt hne, px.cl.sk, s1, ?_⟩
  refine ⟨_, rfl, _, rfl, x, _, dx, _, _, _, rfl, SlX.slH_slt hne, px.cl.sk, s3, ?_⟩
  exact q _ (but2_slH (but2_slH (but2_slH fun _ _ _ _ e => e))) (SlX.slH_slt hne)
end
end Tg
end
section
set_option Elab.async false
set_option autoImplicit false
set_option linter.all false
set_option maxRecDepth 100000
set_option maxHeartbeats 4000000
/-! Forms made. -/
namespace Tg
open PySem PySem.Spec PyProof.Rows L2 RZ
section
variable {P : Program} {w : World} {K : PySem.W.Frag} {mg : Str → Option Value} {base : Heap}
def sp_is_form_of (K : PySem.W.Frag) : Sp := fun vs H Q _ => ∃ (x dx a : Addr) (D : V) (L p : Int), vs = [.ref x, .int p, .int L] ∧ SlX.Slt H x (He.ga K "Form") dx (fm D (.int L) (.int p) a) ∧ Q (.bl true) H
theorem sc_is_form_of : FnScope ["value", "prime", "letters"] ["value", "prime", "letters"] (defScope s_is_form_of) := ⟨rfl, rfl, rfl, by decide +kernel, rfl, by decide +kernel, by decide +kernel⟩
theorem w_is_form_of (px : Px K mg) : FnR P w K mg base CX0 1 (d_is_form_of.at_ K) (sp_is_form_of K) ∧ PySem.W.keepIn K (.ref (d_is_form_of.at_ K)) = true := by
  refine px.R 19 rfl rfl rfl sc_is_form_of (fun vs H Q E ⟨_, _, _, _, _, _, e, _⟩ => by rw [e]; rfl) (fun _ _ _ _ _ _ us hl => match us, hl with | [_, _, _], _ => rfl) (fun cdv A outer s H vs Q E hr h => ⟨_, (pss_one (ps_ret (pe_and (pe_callB (SlX.call_isiSl (.ref (He.ga K "Form"))) rfl (px.f "isinstance" (by simp [freeL])) bo_isi (pa_cons (pv 0) (pa_cons (pe_glob (v := .ref (He.ga K "Form")) rfl (px.g "Form" (by simp [gloL])) rfl) pa_nil))) (pe_and (pe_cmpR op_eq (SlX.pe_sl (pv 0)) (pv 1) (nomark _)) (pe_one (pe_cmpR op_eq (SlX.pe_sl (pv 0)) (pv 2) (nomark _))))))), ?_⟩)
  obtain ⟨x, dx, a, D, L, p, rfl, hx, q⟩ := h
  obtain ⟨p1, s1⟩ := px.cl.fl
  obtain ⟨p2, s2⟩ := px.cl.fp
  refine ⟨_, rfl, x, _, dx, _, _, true, rfl, rfl, (fun w h => h), hx, px.cl.sf, px.cl.if_, kit_self, true, rfl, ifT rfl ⟨_, rfl, x, _, dx, _, _, _, _, rfl, hx, px.cl.sf, s2, rfl, _, rfl, rfl, _, rfl, ifT (by simp [eqV]) ⟨_, rfl, x, _, dx, _, _, _, _, rfl, hx, px.cl.sf, s1, rfl, _, rfl, rfl, ?_⟩⟩⟩
  exact toQ (by simp [eqV]) q
def sp_require_kin (K : PySem.W.Frag) : Sp := fun vs H Q _ => ∃ (x dx a y dy b : Addr) (D D' : V) (L p : Int), vs = [.ref x, .ref y] ∧ SlX.Slt H x (He.ga K "Form") dx (fm D (.int L) (.int p) a) ∧ SlX.Slt H y (He.ga K "Form") dy (fm D' (.int L) (.int p) b) ∧ Q .non H
theorem sc_require_kin : FnScope ["form", "value"] ["form", "value"] (defScope s_require_kin) := ⟨rfl, rfl, rfl, by decide +kernel, rfl, by decide +kernel, by decide +kernel⟩
theorem w_require_kin (px : Px K mg) : FnR P w K mg base CX0 2 (d_require_kin.at_ K) (sp_require_kin K) ∧ PySem.W.keepIn K (.ref (d_require_kin.at_ K)) = true := by
  refine px.R 20 rfl rfl rfl sc_require_kin (fun vs H Q E ⟨_, _, _, _, _, _, _, _, _, _, e, _⟩ => by rw [e]; rfl) (fun _ _ _ _ _ _ us hl => match us, hl with | [_, _], _ => rfl) (fun cdv A outer s H vs Q E hr h => ⟨_, (pss_one (ps_if (pt_not (pt_val (pe_cR (w_is_form_of px) (hr.mono (by decide)) (px.g "is_form_of" (by simp [gloL])) pass0 (pa_cons (pv 1) (pa_cons (SlX.pe_sl (pv 0)) (pa_cons (SlX.pe_sl (pv 0)) pa_nil)))))) (pss_one (ps_never)) pss_nil)), ?_⟩)
  obtain ⟨x, dx, a, y, dy, b, D, D', L, p, rfl, hx, hy, q⟩ := h
  obtain ⟨p1, s1⟩ := px.cl.fl
  obtain ⟨p2, s2⟩ := px.cl.fp
  exact ⟨_, rfl, _, rfl, x, _, dx, _, _, _, _, rfl, hx, px.cl.sf, s2, rfl, _, rfl, x, _, dx, _, _, _, _, rfl, hx, px.cl.sf, s1, rfl, y, dy, b, D', L, p, rfl, hy, _, rfl, q⟩
/-- what a given table must be -/
def Gv (p : Int) (L : Nat) (D : Int) (t : T) : Prop := D ≤ 6 ∧ Ht L D t ∧ ∀ e ∈ t, low p e.2 = e.2 ∧ e.2 ≠ 0 ∧ (-(10 ^ 60) < e.2 ∧ e.2 < 10 ^ 60)
/-- a table, or none -/
def Tn (H : Hp) (tv : V) (p : Int) (L : Nat) (t : T) : Prop := (tv = .non ∧ t = []) ∨ ∃ a D, tv = .ref a ∧ Tb H a t ∧ Gv p L D t
def sp_known_form (K : PySem.W.Frag) : Sp := fun vs H Q _ => ∃ (p : Int) (L : Nat) (tv : V) (t : T), vs = [.int p, .int L, tv] ∧ Pm p ∧ Lt L ∧ Tn H tv p L t ∧
  ∀ H' x dx b u, Same H H' → H x = none → H dx = none → SlX.Slt H' x (He.ga K "Known") dx (kn (.int L) (.int p) b) → Tb H' b u → Ds u → Nz u → (∀ k, gt u k = gt t k) → Q (.ref x) H'
theorem sc_known_form : FnScope ["prime", "letters", "table"] ["prime", "letters", "table"] (defScope s_known_form) := ⟨rfl, rfl, rfl, by decide +kernel, rfl, by decide +kernel, by decide +kernel⟩
/- prime 0 letters 1 table 2 -/
theorem w_known_form (px : Px K mg) : FnR P w K mg base CX0 5 (d_known_form.at_ K) (sp_known_form K) ∧ PySem.W.keepIn K (.ref (d_known_form.at_ K)) = true := by
  refine px.R 23 rfl rfl rfl sc_known_form (fun vs H Q E ⟨_, _, _, _, e, _⟩ => by rw [e]; rfl) (fun _ _ _ _ _ _ us hl => match us, hl with | [_, _, _], _ => rfl) (fun cdv A outer s H vs Q E hr h => ⟨_, (pss_cons (ps_expr (pe_cR (w_require_prime px) (hr.mono (by decide)) (px.g "require_prime" (by simp [gloL])) pass0 (pa_cons (pv 0) pa_nil))) (pss_cons (ps_expr (pe_cR (w_require_letters px) (hr.mono (by decide)) (px.g "require_letters" (by simp [gloL])) pass0 (pa_cons (pv 1) pa_nil))) (pss_cons (ps_if (PW.pt (pw_and (pt_cmp (pc_notN (pv 2))) (pw_and1 (pt_not (pt_val (pe_cR (w_is_table_of px) (hr.mono (by decide)) (px.g "is_table_of" (by simp [gloL])) pass0 (pa_cons (pv 0) (pa_cons (pv 1) (pa_cons (pv 2) pa_nil))))))))) (pss_one (ps_never)) pss_nil) (pss_one (ps_ret (StX.pe_makeR px.mkK (w_Known_init px).1 (hr.mono (by decide)) rfl (px.g "Known" (by simp [gloL])) pass0 (pa_cons (pv 0) (pa_cons (pv 1) (pa_cons (pe_ifExp (pt_cmp (pc_isN (pv 2))) pe_dnewT (pe_cR (w_cleaned px) (hr.mono (by decide)) (px.g "cleaned" (by simp [gloL])) pass0 (pa_cons (pv 0) (pa_cons (pv 2) pa_nil)))) pa_nil))))))))), ?_⟩)
  obtain ⟨p, L, tv, t, rfl, hp, hL, ht, q⟩ := h
  refine ⟨_, rfl, p, rfl, hp, _, rfl, L, rfl, hL, _, rfl, _, rfl, ?_⟩
  rcases ht with ⟨rfl, rfl⟩ | ⟨a, D, rfl, ha, hD, hht, hc⟩
  · refine ifF rfl <| ifF rfl ⟨_, rfl, _, rfl, _, rfl, _, rfl, ifT rfl fun b hb => fun x dx hx hdx hne => ?_⟩
    refine ⟨x, dx, b, _, _, rfl, hne, upd_same, fun H' s1 s2 => ⟨rfl, ?_⟩⟩
    have s3 := but2_same hx hdx s1
    exact q H' x dx b [] (Same.trans (sm_new hb) s3) (Same.free (sm_new hb) hx) (Same.free (sm_new hb) hdx) s2 (s3 _ _ upd_same) List.Pairwise.nil (fun _ h => nomatch h) (fun k => rfl)
  · refine ifT rfl ⟨_, rfl, _, rfl, _, rfl, p, L, D, a, t, rfl, ha, hL, hD, hht, hc, hp, fun H1 s1 => ⟨_, rfl, ifF rfl ?_⟩⟩
    have ha1 := s1 _ _ ha
    have hl := hht.len hL hD
    refine ⟨_, rfl, _, rfl, _, rfl, _, rfl, ifF rfl ⟨_, rfl, _, rfl, p, a, t, L, rfl, hp, ha1, hht.nd, by omega, hL.pos, hht.ks hD, fun r H2 u s2 fr hu du zu gu => fun x dx hx hdx hne => ?_⟩⟩
    refine ⟨x, dx, r, _, _, rfl, hne, upd_same, fun H' s3 s4 => ⟨rfl, ?_⟩⟩
    have s5 := but2_same hx hdx s3
    refine q H' x dx r u (Same.trans s1 (Same.trans s2 s5)) (Same.free (Same.trans s1 s2) hx) (Same.free (Same.trans s1 s2) hdx) s4 (s5 _ _ hu) du zu fun k => ?_
    rw [gu]
    by_cases h0 : gt t k = 0
    · rw [h0, low_zero]
    · exact (hc _ (gt_ne h0)).1
/-- a form of the table t -/
def Fo (K : PySem.W.Frag) (H : Hp) (x : Addr) (L : Nat) (p : Int) (a : Addr) (t : T) : Prop := ∃ dx, SlX.Slt H x (He.ga K "Form") dx (fm (dg t) (.int L) (.int p) a) ∧ Tb H a t
def sp_Form_init (K : PySem.W.Frag) : Sp := fun vs H Q _ => ∃ (x dx : Addr) (v1 v2 v3 : V), vs = [.ref x, v1, v2, v3] ∧ dx ≠ x ∧ H x = some (.ins (He.ga K "Form") dx []) ∧ H dx = some (.own x) ∧
  ((∃ (p : Int) (L : Nat) (t : T), v1 = .int p ∧ v2 = .int L ∧ Pm p ∧ Lt L ∧ Tn H v3 p L t ∧ ∀ H' b u, But2 x dx H H' → SlX.Slt H' x (He.ga K "Form") dx (fm (dg u) (.int L) (.int p) b) → Tb H' b u → Ds u → Nz u → (∀ k, gt u k = gt t k) → Q .non H') ∨
   ∃ (y dy b : Addr) (p L : V) (u : T), v1 = .ref y ∧ y ≠ x ∧ y ≠ dx ∧ dy ≠ x ∧ dy ≠ dx ∧ SlX.Slt H y (He.ga K "Known") dy (kn L p b) ∧ Tb H b u ∧ ∀ H', But2 x dx H H' → SlX.Slt H' x (He.ga K "Form") dx (fm (dg u) L p b) → Q .non H')
theorem sc_Form___init : FnScope ["self", "prime", "letters", "table", "known"] ["self", "prime", "letters", "table"] (defScope m_Form_init) := ⟨rfl, rfl, rfl, by decide +kernel, rfl, by decide +kernel, by decide +kernel⟩
/- self 0 prime 1 letters 2 table 3 known 4 -/
theorem w_Form_init (px : Px K mg) : (FnR P w K mg base CX0 6 (d_Form_init.at_ K) (fun vs H Q E => sp_Form_init K (vs ++ [.non]) H Q E) ∧ FnR P w K mg base CX0 6 (d_Form_init.at_ K) (sp_Form_init K)) ∧ PySem.W.keepIn K (.ref (d_Form_init.at_ K)) = true := by
  refine px.R1 (n := 3) (v := .non) 24 rfl rfl rfl sc_Form___init rfl (fun vs H Q E ⟨_, _, _, _, _, e, _⟩ => by rw [e]; rfl) (fun T kV doc pm an cdv ct us its hu hi => match us, hu, its, hi with | [_, _, _], _, [_], _ => ⟨_, rfl, rfl⟩)
    (fun T kV doc pm an cdv ct us its hu hi => match us, hu, its, hi with | [_, _, _, _], _, [_], _ => ⟨_, rfl, rfl⟩) (fun cdv A outer s H vs Q E hr h => ⟨_, (pss_cons (ps_set (i := 4) sc_Form___init.nd rfl (Or.inl rfl) (pe_ifExp (pt_val (pe_callB (CallR.or call_isi (SlX.call_isiSl (.ref (He.ga K "Known")))) rfl (px.f "isinstance" (by simp [freeL])) bo_isi (pa_cons (pv 1) (pa_cons (pe_glob (v := .ref (He.ga K "Known")) rfl (px.g "Known" (by simp [gloL])) rfl) pa_nil)))) (pv 1) (pe_cR (w_known_form px) (hr.mono (by decide)) (px.g "known_form" (by simp [gloL])) pass0 (pa_cons (pv 1) (pa_cons (pv 2) (pa_cons (pv 3) pa_nil)))))) (pss_cons (SlX.ps_sl (pv 0) (SlX.pe_sl (pv 4))) (pss_cons (SlX.ps_sl (pv 0) (SlX.pe_sl (pv 4))) (pss_cons (SlX.ps_sl (pv 0) (SlX.pe_sl (pv 4))) (pss_one (SlX.ps_sl (pv 0) (pe_cR (w_degree_of px) (hr.mono (by decide)) (px.g "degree_of" (by simp [gloL])) pass0 (pa_cons (SlX.pe_sl (pv 4)) pa_nil)))))))), ?_⟩)
  obtain ⟨x, dx, v1, v2, v3, rfl, hne, hx, hdx, h⟩ := h
  obtain ⟨q1, c1⟩ := px.cl.kl
  obtain ⟨q2, c2⟩ := px.cl.kp
  obtain ⟨q3, c3⟩ := px.cl.kt
  obtain ⟨f0, d0⟩ := px.cl.fd
  obtain ⟨f1, d1⟩ := px.cl.fl
  obtain ⟨f2, d2⟩ := px.cl.fp
  obtain ⟨f3, d3⟩ := px.cl.ft
  have key : ∀ (H1 : Hp) (v1 v2 v3 : V) (y dy b : Addr) (p L : V) (u : T), H1 x = some (.ins (He.ga K "Form") dx []) → y ≠ x → y ≠ dx → dy ≠ x → dy ≠ dx → b ≠ x → b ≠ dx → SlX.Slt H1 y (He.ga K "Known") dy (kn L p b) → Tb H1 b u → (∀ H', But2 x dx H1 H' → SlX.Slt H' x (He.ga K "Form") dx (fm (dg u) L p b) → Q .non H') →
      (tSeq (SlX.sSl K (tVar 0) (SlX.tSl K (tVar 4) "own_prime") "own_prime") (tSeq (SlX.sSl K (tVar 0) (SlX.tSl K (tVar 4) "own_letters") "own_letters") (tSeq (SlX.sSl K (tVar 0) (SlX.tSl K (tVar 4) "own_terms") "own_terms") (SlX.sSl K (tVar 0) (tCR sp_degree_of E0 (tCons (SlX.tSl K (tVar 4) "own_terms") tNil)) "own_degree"))))
        { nx := fun x H' => Q V.non H', rt := Q } [some (.ref x), some v1, some v2, some v3, some (.ref y)] H1 := by
    intro H1 v1 v2 v3 y dy b p L u hx hy1 hy2 hy3 hy4 hb1 hb2 hy hb q
    have mv : ∀ {H2 : Hp} {vs : List (Option V)}, SlX.Slt H2 y (He.ga K "Known") dy (kn L p b) → SlX.Slt (SlX.slH H2 x (He.ga K "Form") dx vs) y (He.ga K "Known") dy (kn L p b) := fun {H2 vs} h =>
      h.elim (fun z => .inl ⟨by rw [SlX.slH_ne hy1 hy2]; exact z.1, z.2⟩) fun z => .inr ⟨by rw [SlX.slH_ne hy1 hy2]; exact z.1, by rw [SlX.slH_ne hy3 hy4]; exact z.2⟩
    refine ⟨_, rfl, y, _, dy, _, _, _, _, rfl, hy, px.cl.sk, c2, rfl, _, rfl, x, _, dx, _, _, _, rfl, .inl ⟨hx, rfl⟩, px.cl.sf, d2, ?_⟩
    refine ⟨_, rfl, y, _, dy, _, _, _, _, rfl, mv hy, px.cl.sk, c1, rfl, _, rfl, x, _, dx, _, _, _, rfl, SlX.slH_slt hne, px.cl.sf, d1, ?_⟩
    refine ⟨_, rfl, y, _, dy, _, _, _, _, rfl, mv (mv hy), px.cl.sk, c3, rfl, _, rfl, x, _, dx, _, _, _, rfl, SlX.slH_slt hne, px.cl.sf, d3, ?_⟩
    refine ⟨_, rfl, y, _, dy, _, _, _, _, rfl, mv (mv (mv hy)), px.cl.sk, c3, rfl, b, u, rfl, ?_, _, rfl, x, _, dx, _, _, _, rfl, SlX.slH_slt hne, px.cl.sf, d0, ?_⟩
    · show SlX.slH _ x _ dx _ b = _
      rw [SlX.slH_ne hb1 hb2, SlX.slH_ne hb1 hb2, SlX.slH_ne hb1 hb2]; exact hb
    · exact q _ (but2_slH (but2_slH (but2_slH (but2_slH fun _ _ _ _ e => e)))) (SlX.slH_slt hne)
  rcases h with ⟨p, L, t, rfl, rfl, hp, hL, ht, q⟩ | ⟨y, dy, b, p, L, u, rfl, hy1, hy2, hy3, hy4, hy, hb, q⟩
  · refine ⟨_, rfl, .inl ⟨_, _, _, _, false, rfl, .own _, .base (.int p), px.cl.ki, false, rfl, ifF rfl ⟨_, rfl, _, rfl, _, rfl, p, L, v3, t, rfl, hp, hL, ht, fun H1 y dy b u s1 fy fdy hy hb du zu gu => ?_⟩⟩⟩
    have n1 : ∀ {z : Addr} {o : HO}, H z = some o → y ≠ z := fun h e => by rw [← e, fy] at h; cases h
    have n2 : ∀ {z : Addr} {o : HO}, H z = some o → dy ≠ z := fun h e => by rw [← e, fdy] at h; cases h
    refine key H1 _ _ _ y dy b _ _ u (s1 _ _ hx) (n1 hx) (n1 hdx) (n2 hx) (n2 hdx) (ne_of hb (s1 _ _ hx) (fun z => nomatch z)) (ne_of hb (s1 _ _ hdx) (fun z => nomatch z)) hy hb fun H' b1 s2 => ?_
    have hbx : b ≠ x := ne_of hb (s1 _ _ hx) (fun z => nomatch z)
    have hbd : b ≠ dx := ne_of hb (s1 _ _ hdx) (fun z => nomatch z)
    exact q H' b u (fun c o h1 h2 e => b1 c o h1 h2 (s1 _ _ e)) s2 (b1 _ _ hbx hbd hb) du zu gu
  · refine ⟨_, rfl, .inr ⟨y, _, dy, _, _, true, rfl, rfl, (fun w h => h), hy, px.cl.sk, px.cl.ik, kit_self, true, rfl, ifT rfl ⟨_, rfl, ?_⟩⟩⟩
    exact key H _ _ _ y dy b p L u hx hy1 hy2 hy3 hy4 (ne_of hb hx (fun z => nomatch z)) (ne_of hb hdx (fun z => nomatch z)) hy hb q
end
end Tg
end
section
set_option Elab.async false
set_option autoImplicit false
set_option linter.all false
set_option maxRecDepth 100000
set_option maxHeartbeats 4000000
/-! What forms give. -/
namespace Tg
open PySem PySem.Spec PyProof.Rows L2 RZ
/-- keys in an order, the values looked up -/
theorem keyed_pure {t : T} {ks : List K} (h : ∀ k, k ∈ ks ↔ k ∈ t.map (·.1)) : (∀ k, gt (ks.map fun k => (k, gt t k)) k = gt t k) ∧ (Nd t → Nz t → Nz (ks.map fun k => (k, gt t k))) := by
  constructor
  · intro k
    rw [gt_keys]
    split
    · rfl
    · rename_i hk
      exact (gt_out fun z => hk ((h k).mpr z)).symm
  · intro nd nz e he
    obtain ⟨k, hk, rfl⟩ := List.mem_map.mp he
    obtain ⟨z, hz, rfl⟩ := List.mem_map.mp ((h k).mp hk)
    show gt t z.1 ≠ 0
    rw [gt_mem nd hz]; exact nz z hz
section
variable {P : Program} {w : World} {K : PySem.W.Frag} {mg : Str → Option Value} {base : Heap}
def sp_Form_init3 (K : PySem.W.Frag) : Sp := fun vs H Q E => sp_Form_init K (vs ++ [.non]) H Q E
theorem w_Form_init3 (px : Px K mg) : FnR P w K mg base CX0 6 (d_Form_init.at_ K) (sp_Form_init3 K) := (w_Form_init (P := P) (w := w) (base := base) px).1.1
theorem w_Form_init4 (px : Px K mg) : FnR P w K mg base CX0 6 (d_Form_init.at_ K) (sp_Form_init K) := (w_Form_init (P := P) (w := w) (base := base) px).1.2
def sp_form_with (K : PySem.W.Frag) : Sp := fun vs H Q _ => ∃ (p : Int) (L : Nat) (D : Int) (a : Addr) (t : T), vs = [.int p, .int L, .ref a] ∧ Tb H a t ∧ Lt L ∧ D ≤ 6 ∧ Ht L D t ∧ Nz t ∧
  ∀ H' x b u, Same H H' → H x = none → Fo K H' x L p b u → Ds u → Nz u → (∀ k, gt u k = gt t k) → Q (.ref x) H'
theorem sc_form_with : FnScope ["prime", "letters", "terms", "one"] ["prime", "letters", "terms"] (defScope s_form_with) := ⟨rfl, rfl, rfl, by decide +kernel, rfl, by decide +kernel, by decide +kernel⟩
/- prime 0 letters 1 terms 2 one 3 -/
theorem w_form_with (px : Px K mg) : FnR P w K mg base CX0 8 (d_form_with.at_ K) (sp_form_with K) ∧ PySem.W.keepIn K (.ref (d_form_with.at_ K)) = true := by
  refine px.R 33 rfl rfl rfl sc_form_with (fun vs H Q E ⟨_, _, _, _, _, e, _⟩ => by rw [e]; rfl) (fun _ _ _ _ _ _ us hl => match us, hl with | [_, _, _], _ => rfl) (fun cdv A outer s H vs Q E hr h => ⟨_, (pss_cons (ps_if (pt_cmpR (op_neT (un1 hr)) (pv 2) pe_dnewT (nomark _)) (pss_one (ps_expr (pe_cR (w_require_degree px) (hr.mono (by decide)) (px.g "require_degree" (by simp [gloL])) pass0 (pa_cons (pe_callB (cr_sumT rfl) rfl (px.f "sum" (by simp [freeL])) bo_sum (pa_cons (pe_cR (w_first_of px) (hr.mono (by decide)) (px.g "first_of" (by simp [gloL])) pass0 (pa_cons (pv 2) pa_nil)) pa_nil)) pa_nil)))) pss_nil) (pss_one (ps_ret (StX.pe_makeR px.mkF (w_Form_init3 px) (hr.mono (by decide)) rfl (px.g "Form" (by simp [gloL])) pass0 (pa_cons (StX.pe_makeR px.mkK (w_Known_init px).1 (hr.mono (by decide)) rfl (px.g "Known" (by simp [gloL])) pass0 (pa_cons (pv 0) (pa_cons (pv 1) (pa_cons (pe_dcS (own := [("one", 3)]) (stT _ (un0 hr)) rfl sc_form_with.nd (pi_list (pe_revL (pe_callB (cr_sortD rfl) rfl (px.f "sorted" (by simp [freeL])) bo_sorted (pa_cons (pv 2) pa_nil)))) (blkOk_by (own := [("one", 3)]) (N := ["prime", "letters", "terms", "one"]) (sc := (defScope s_form_with)) (by decide +kernel)) (fun _ _ _ _ _ => (pg_name (i := 3) sc_form_with.nd rfl (Or.inl rfl))) (fun _ _ _ _ _ => pts_nil) (fun _ _ _ _ _ => (pv 3)) (fun _ _ _ _ _ => (pe_dget (un1 hr) (pv 2) (pv 3) (fun _ _ => rfl)))) pa_nil)))) (pa_cons (pv 1) pa_nil)))))), ?_⟩)
  obtain ⟨p, L, D, a, t, rfl, ha, hL, hD, ht, nz, q⟩ := h
  have sz : (64 : Nat) < sizeLine := by decide
  have hl := ht.len hL hD
  have rest : ∀ H1, Same H H1 → (tRet (StX.tMakeR (He.ga K "Form") (sp_Form_init3 K) E0 (tCons (StX.tMakeR (He.ga K "Known") (sp_Known_init K) E0 (tCons (tVar 0) (tCons (tVar 1) (tCons
      (tDcS (stT (cxOf CX0 P w K mg base ["prime", "letters", "terms", "one"] d_form_with.qual d_form_with.scope (d_form_with.at_ K) cdv A outer s H E) (un0 hr)) (iList K (tRevL K (tCB rSortD (tCons (tVar 2) tNil)))) (gName 3) tYes (tVar 3) (tDGet (tVar 2) (tVar 3)) [3]) tNil)))) (tCons (tVar 1) tNil))))
      { nx := fun x H' => Q V.non H', rt := Q } [some (.int p), some (.int L), some (.ref a), none] H1 := by
    intro H1 s1
    have ha1 := s1 _ _ ha
    refine ⟨_, rfl, _, rfl, _, rfl, a, t, L, rfl, ha1, by omega, hL.pos, ht.ks hD, fun ps pa pm as ka hpa => ⟨pa, _, rfl, SqL.of upd_same, fun pb hpb => ⟨_, rfl, ⟨_, SqL.of upd_same⟩, fun D2 hD3 => ?_⟩⟩⟩
    obtain ⟨d1, d2⟩ := desc_pure pm as ht.nd (ht.ks hD)
    have s3 : Same H1 (upd (upd H1 pa (.lst (ps.map fun z => V.ref z.1))) pb (.lst (ps.map fun z => V.ref z.1).reverse)) := Same.trans (sm_new hpa) (sm_new hpb)
    have hpl : ps.reverse.length = t.length := by have := pm.length_eq; simpa using this
    rw [← List.map_reverse] at *
    refine dcS1 (walk_list (K := K) (a := pb) (xs := ps.reverse.map fun z => V.ref z.1)) (fun i => ((ps.reverse.getD i (0, [])).2, gt t (ps.reverse.getD i (0, [])).2)) (fun _ => true) (by rw [List.length_map]; omega) hD3 (fun H' sm => SqL.of (sm _ _ upd_same)) ?_ ?_ ?_
    · rw [filt_true, List.length_map, map_get ps.reverse (0, []) (fun z => z.2)]
      exact d1.imp fun {a b} h e => by rw [e] at h; omega
    · rintro i x H3 H4 R R0 hi sm3 ⟨rfl, hx⟩ kt kf
      rw [List.getElem?_map] at hx
      obtain ⟨z, hz, rfl⟩ := Option.map_eq_some_iff.mp hx
      have hzm : z ∈ ps := List.mem_reverse.mp (List.mem_of_getElem? hz)
      have hk : z.2 ∈ t.map (·.1) := (d2 z.2).mp (List.mem_map_of_mem (List.mem_of_getElem? hz))
      have s4 := Same.trans s3 sm3
      have hq : Tp H4 z.1 z.2 := s4 _ _ (ka z hzm)
      rw [get_D hz] at kt
      exact ⟨rfl, yesT ⟨_, rfl, _, rfl, _, rfl, a, _, rfl, dget_tb (s4 _ _ ha1) hq hk, kt rfl _ _ _ hq rfl (Same.refl _)⟩⟩
    · intro H3 sm3 hD4
      rw [filt_true, List.length_map, map_get ps.reverse (0, []) (fun z => (z.2, gt t z.2))] at hD4
      have hu : (ps.reverse.map fun z => (z.2, gt t z.2)) = (ps.reverse.map (·.2)).map fun k => (k, gt t k) := by rw [List.map_map]; rfl
      obtain ⟨k1, k2⟩ := keyed_pure d2
      have ds : Ds (ps.reverse.map fun z => (z.2, gt t z.2)) := by
        unfold Ds; rw [List.pairwise_map]; exact List.pairwise_map.mp d1
      have nzu : Nz (ps.reverse.map fun z => (z.2, gt t z.2)) := by rw [hu]; exact k2 ht.nd nz
      have gtu : ∀ k, gt (ps.reverse.map fun z => (z.2, gt t z.2)) k = gt t k := by rw [hu]; exact k1
      generalize (ps.reverse.map fun z => (z.2, gt t z.2)) = u at *
      have s5 := Same.trans s1 (Same.trans s3 sm3)
      refine fun y dy hy hdy hne => ⟨y, dy, D2, _, _, rfl, hne, upd_same, fun H5 b5 sl5 => ⟨rfl, ?_⟩⟩
      have s6 := but2_same hy hdy b5
      refine ⟨_, rfl, fun x dx hx hdx hne2 => ?_⟩
      have yx : y ≠ x ∧ y ≠ dx ∧ dy ≠ x ∧ dy ≠ dx := by
        rcases sl5 with ⟨e, e2⟩ | ⟨e, e2⟩
        · exact nomatch e2
        · exact ⟨ne_of_none e hx, ne_of_none e hdx, ne_of_none e2 hx, ne_of_none e2 hdx⟩
      have sn : Same H5 (upd (upd H5 dx (.own x)) x (.ins (He.ga K "Form") dx [])) := by
        intro c o e
        have h1 : c ≠ x := fun z => by rw [z, hx] at e; cases e
        have h2 : c ≠ dx := fun z => by rw [z, hdx] at e; cases e
        rw [upd_ne h1, upd_ne h2]; exact e
      refine ⟨x, dx, _, _, _, rfl, hne2, upd_same, by rw [upd_ne hne2, upd_same], .inr ⟨y, dy, D2, _, _, u, rfl, yx.1, yx.2.1, yx.2.2.1, yx.2.2.2, slt_same sl5 sn, sn _ _ (s6 _ _ hD4), fun H6 b6 sl6 => ⟨rfl, ?_⟩⟩⟩
      have s7 := but2_same hx hdx b6
      exact q H6 x D2 u (Same.trans s5 (Same.trans s6 s7)) (Same.free (Same.trans s5 s6) hx) ⟨dx, sl6, s7 _ _ (s6 _ _ hD4)⟩ ds nzu gtu
  refine ⟨_, rfl, fun n hn => ⟨a, n, t, [], rfl, rfl, sm_new hn _ _ ha, upd_same, ?_⟩⟩
  have s1 : Same H (upd H n (.dT [])) := sm_new hn
  generalize upd H n (.dT []) = H1 at *
  cases t with
  | nil => exact .inr ⟨⟨rfl, fun _ h => nomatch h⟩, _, rfl, ifF rfl (rest H1 s1)⟩
  | cons e u =>
    refine .inl ⟨by simp, _, rfl, ifT rfl ⟨_, rfl, a, _, rfl, s1 _ _ ha, (fun z => nomatch z), fun e2 u2 q1 eq tq => ?_⟩⟩
    obtain ⟨rfl, rfl⟩ := List.cons.inj eq
    refine ⟨q1, e.1, rfl, SqT.of tq, _, rfl, ?_, rest H1 s1⟩
    rw [(ht.mo e List.mem_cons_self).sum]; omega
end
end Tg
end
section
set_option Elab.async false
set_option autoImplicit false
set_option linter.all false
set_option maxRecDepth 100000
set_option maxHeartbeats 4000000
/-! Multiples, equality, tables, cleared forms. -/
namespace Tg
open PySem PySem.Spec PyProof.Rows L2 RZ
theorem fo_same {K : PySem.W.Frag} {H H' : Hp} {x a : Addr} {L : Nat} {p : Int} {t : T} (h : Fo K H x L p a t) (s : Same H H') : Fo K H' x L p a t := by
  obtain ⟨dx, h1, h2⟩ := h
  exact ⟨dx, slt_same h1 s, s _ _ h2⟩
section
variable {P : Program} {w : World} {K : PySem.W.Frag} {mg : Str → Option Value} {base : Heap}
theorem sl_t {X : Cx} {H : Hp} {x dx a : Addr} {D L p : V} {Q : VK} (px : Px X.K mg) (h : SlX.Slt H x (He.ga X.K "Form") dx (fm D L p a)) (q : Q (.ref a) H) :
    ∃ a' C dx' p' vs i v, V.ref x = .ref a' ∧ SlX.Slt H a' C dx' vs ∧ SlX.SCls X.K C ∧ SlX.Slot1 X.K C "own_terms" p' i ∧ vs[i]? = some (some v) ∧ Q v H := by
  obtain ⟨p3, s3⟩ := px.cl.ft
  exact ⟨x, _, dx, _, _, _, _, rfl, h, px.cl.sf, s3, rfl, q⟩
def sp_multiple_by (K : PySem.W.Frag) : Sp := fun vs H Q _ => ∃ (x a : Addr) (p c : Int) (L : Nat) (D : Int) (t : T), vs = [.ref x, .int c] ∧ Fo K H x L p a t ∧ Pm p ∧ Lt L ∧ D ≤ 6 ∧ Ht L D t ∧ (-(2 ^ 64) < c ∧ c < 2 ^ 64) ∧
  ∀ H' y b u, Same H H' → H y = none → Fo K H' y L p b u → Ds u → Nz u → (∀ k, gt u k = low p (c * gt t k)) → Q (.ref y) H'
theorem sc_multiple_by : FnScope ["form", "number", "terms", "one", "other"] ["form", "number"] (defScope s_multiple_by) := ⟨rfl, rfl, rfl, by decide +kernel, rfl, by decide +kernel, by decide +kernel⟩
/- form 0 number 1 terms 2 one 3 other 4 -/
theorem w_multiple_by (px : Px K mg) : FnR P w K mg base CX0 9 (d_multiple_by.at_ K) (sp_multiple_by K) ∧ PySem.W.keepIn K (.ref (d_multiple_by.at_ K)) = true := by
  refine px.R 34 rfl rfl rfl sc_multiple_by (fun vs H Q E ⟨_, _, _, _, _, _, _, e, _⟩ => by rw [e]; rfl) (fun _ _ _ _ _ _ us hl => match us, hl with | [_, _], _ => rfl) (fun cdv A outer s H vs Q E hr h => ⟨_, (pss_cons (ps_lock (ps_setDcS (i := 2) (own := [("one", 3), ("other", 4)]) (g := (gTup K 2 (gCons (gName 3) (gCons (gName 4) gNil)))) (stT _ (un0 hr)) rfl sc_multiple_by.nd rfl rfl (sw_trueD rfl rfl rfl (by decide +kernel)) (pi_itemsT (SlX.pe_sl (pv 0))) (blkOk_by (own := [("one", 3), ("other", 4)]) (N := ["form", "number", "terms", "one", "other"]) (sc := (defScope s_multiple_by)) (by decide +kernel)) (fun _ _ _ _ _ => (pg_tup rfl (pgs_cons (pg_name (i := 3) sc_multiple_by.nd rfl (Or.inl rfl)) (pgs_cons (pg_name (i := 4) sc_multiple_by.nd rfl (Or.inl rfl)) pgs_nil)))) (fun _ _ _ _ _ => pts_nil) (fun _ _ _ _ _ => (pv 3)) (fun _ _ _ _ _ => (pe_op op_mul (pv 1) (pv 4))))) (pss_one (ps_ret (pe_cR (w_form_with px) (hr.mono (by decide)) (px.g "form_with" (by simp [gloL])) pass0 (pa_cons (SlX.pe_sl (pv 0)) (pa_cons (SlX.pe_sl (pv 0)) (pa_cons (pe_cR (w_cleaned px) (hr.mono (by decide)) (px.g "cleaned" (by simp [gloL])) pass0 (pa_cons (SlX.pe_sl (pv 0)) (pa_cons (pv 2) pa_nil))) pa_nil))))))), ?_⟩)
  obtain ⟨x, a, p, c, L, D, t, rfl, ⟨dx, hx, ha⟩, hp, hL, hD, ht, hc, q⟩ := h
  have sz : (64 : Nat) < sizeLine := by decide
  have hl := ht.len hL hD
  obtain ⟨q1, c1⟩ := px.cl.fl
  obtain ⟨q2, c2⟩ := px.cl.fp
  obtain ⟨q3, c3⟩ := px.cl.ft
  refine ⟨a, _, ha, trivial, fun od => ?_⟩
  have hx1 : SlX.Slt (upd H a (.frz od (.dT (et t)))) x (He.ga K "Form") dx (fm (dg t) (.int L) (.int p) a) := by
    rcases hx with ⟨e, e2⟩ | ⟨e, e2⟩
    · exact nomatch e2
    · exact .inr ⟨lk_get ha e (fun z => nomatch z), lk_get ha e2 (fun z => nomatch z)⟩
  refine ⟨_, rfl, x, _, dx, _, _, _, _, rfl, hx1, px.cl.sf, c3, rfl, a, od, _, rfl, upd_same, fun D1 hD1 => ?_⟩
  obtain ⟨hD0, hDa⟩ := lk_none ha hD1
  refine dcS1 walk_itemsT (fun i => ((t.getD i ([], 0)).1, c * (t.getD i ([], 0)).2)) (fun _ => true) (by rw [et_length]; omega) hD1 (fun H' sm => sm _ _ upd_same) (by rw [et_length]; exact nd_range ht.nd _) ?_ ?_
  · rintro i z H1 H2 R R0 hi sm ⟨T, qa, k, v, ee, rfl, hT, hqa, rfl⟩ kt kf
    obtain ⟨z, hz, rfl, rfl⟩ := et_get ee
    rw [ek_kV] at hqa
    rw [get_D hz] at kt
    exact ⟨T, _, rfl, SqT.of upd_same, rfl, _, _, rfl, _, _, rfl, rfl, rfl, yesT ⟨_, rfl, _, rfl, _, rfl, _, _, rfl, rfl, .inl hc, kt rfl qa _ _ (sm_new hT _ _ hqa) rfl (sm_new hT)⟩⟩
  · intro H1 sm hD2
    rw [filt_true, et_length, map_get t ([], 0) (fun e => (e.1, c * e.2))] at hD2
    refine ⟨sm _ _ upd_same, ?_⟩
    have s2 := lk_back ha sm
    have hD3 : Tb (upd H1 a (.dT (et t))) D1 (t.map fun e => (e.1, c * e.2)) := by show upd H1 a _ D1 = _; rw [upd_ne hDa]; exact hD2
    have hm : Ht L D (t.map fun e => (e.1, c * e.2)) := ⟨by unfold Nd; rw [keys_map]; exact ht.nd, fun e he => by
      obtain ⟨z, hz, rfl⟩ := List.mem_map.mp he
      exact ht.mo z hz⟩
    have hg : ∀ k, gt (t.map fun e => (e.1, c * e.2)) k = c * gt t k := gt_map (c * ·) (by simp) t
    have hl2 : (t.map fun e => (e.1, c * e.2)).length < 64 := by rw [List.length_map]; omega
    generalize (t.map fun e => (e.1, c * e.2)) = t2 at *
    generalize upd H1 a (.dT (et t)) = H2 at *
    have hx2 := slt_same hx s2
    refine ⟨_, rfl, x, _, dx, _, _, _, _, rfl, hx2, px.cl.sf, c2, rfl, _, rfl, x, _, dx, _, _, _, _, rfl, hx2, px.cl.sf, c1, rfl, _, rfl, x, _, dx, _, _, _, _, rfl, hx2, px.cl.sf, c2, rfl, _, rfl, p, D1, t2, L, rfl, hp, hD3, hm.nd, hl2, hL.pos, hm.ks hD, fun r H3 u s3 fr hu du zu gu => ?_⟩
    have hu2 : Ht L D u := Ht.of du zu fun k hk => by
      rw [gu] at hk
      exact hm.hm k fun z => hk (by rw [z, low_zero])
    refine ⟨p, L, D, r, u, rfl, hu, hL, hD, hu2, zu, fun H' y b v s4 fy hy dv zv gv => ?_⟩
    exact q H' y b v (Same.trans s2 (Same.trans s3 s4)) (Same.free (Same.trans s2 s3) fy) hy dv zv fun k => by rw [gv, gu, hg]
def sp_Form_mul (K : PySem.W.Frag) : Sp := fun vs H Q _ => ∃ (x a : Addr) (p c : Int) (L : Nat) (D : Int) (t : T), vs = [.ref x, .int c] ∧ Fo K H x L p a t ∧ Pm p ∧ Lt L ∧ D ≤ 6 ∧ Ht L D t ∧ (-(2 ^ 64) < c ∧ c < 2 ^ 64) ∧ (p ≠ 0 → 0 ≤ c ∧ c < p) ∧
  ∀ H' y b u, Same H H' → H y = none → Fo K H' y L p b u → Ds u → Nz u → (∀ k, gt u k = low p (c * gt t k)) → Q (.ref y) H'
theorem sc_Form___mul : FnScope ["self", "other"] ["self", "other"] (defScope m_Form_mul) := ⟨rfl, rfl, rfl, by decide +kernel, rfl, by decide +kernel, by decide +kernel⟩
theorem w_Form_mul (px : Px K mg) : FnR P w K mg base CX0 10 (d_Form_mul.at_ K) (sp_Form_mul K) ∧ PySem.W.keepIn K (.ref (d_Form_mul.at_ K)) = true := by
  refine px.R 30 rfl rfl rfl sc_Form___mul (fun vs H Q E ⟨_, _, _, _, _, _, _, e, _⟩ => by rw [e]; rfl) (fun _ _ _ _ _ _ us hl => match us, hl with | [_, _], _ => rfl) (fun cdv A outer s H vs Q E hr h => ⟨_, (pss_cons (ps_if (pt_val (pe_callB call_isi rfl (px.f "isinstance" (by simp [freeL])) bo_isi (pa_cons (pv 1) (pa_cons (pe_glob (v := .ref (He.ga K "Form")) rfl (px.g "Form" (by simp [gloL])) rfl) pa_nil)))) pss_never pss_nil) (pss_cons (ps_if (pt_not (pt_val (pe_cR (w_is_whole px) (hr.mono (by decide)) (px.g "is_whole" (by simp [gloL])) pass0 (pa_cons (pv 1) pa_nil)))) pss_never pss_nil) (pss_cons (ps_if (pt_not (pt_val (pe_cR (w_is_number_of2 px) (hr.mono (by decide)) (px.g "is_number_of" (by simp [gloL])) pass0 (pa_cons (SlX.pe_sl (pv 0)) (pa_cons (pv 1) pa_nil))))) pss_never pss_nil) (pss_one (ps_ret (pe_cR (w_multiple_by px) (hr.mono (by decide)) (px.g "multiple_by" (by simp [gloL])) pass0 (pa_cons (pv 0) (pa_cons (pv 1) pa_nil)))))))), ?_⟩)
  obtain ⟨x, a, p, c, L, D, t, rfl, ⟨dx, hx, ha⟩, hp, hL, hD, ht, hc, hc2, q⟩ := h
  obtain ⟨q2, c2⟩ := px.cl.fp
  refine ⟨_, rfl, _, _, _, _, false, rfl, .own _, .base (.int c), px.cl.fi, _, rfl, ifF rfl ⟨_, rfl, c, rfl, _, rfl, ifF rfl ?_⟩⟩
  refine ⟨_, rfl, x, _, dx, _, _, _, _, rfl, hx, px.cl.sf, c2, rfl, _, rfl, p, c, 10 ^ 60, rfl, hc2, fun _ => ⟨by omega, by omega⟩, _, rfl, ifF rfl ?_⟩
  exact ⟨_, rfl, _, rfl, x, a, p, c, L, D, t, rfl, ⟨dx, hx, ha⟩, hp, hL, hD, ht, hc, q⟩
def sp_Form_eq (K : PySem.W.Frag) : Sp := fun vs H Q _ => ∃ (x a y b : Addr) (p : Int) (L : Nat) (t u : T), vs = [.ref x, .ref y] ∧ Fo K H x L p a t ∧ Fo K H y L p b u ∧ ((t.length ≠ u.length ∧ Q (.bl false) H) ∨ (Alike t u ∧ Q (.bl true) H))
theorem sc_Form___eq : FnScope ["self", "other"] ["self", "other"] (defScope m_Form_eq) := ⟨rfl, rfl, rfl, by decide +kernel, rfl, by decide +kernel, by decide +kernel⟩
theorem w_Form_eq (px : Px K mg) : FnR P w K mg base CX0 2 (d_Form_eq.at_ K) (sp_Form_eq K) ∧ PySem.W.keepIn K (.ref (d_Form_eq.at_ K)) = true := by
  refine px.R 31 rfl rfl rfl sc_Form___eq (fun vs H Q E ⟨_, _, _, _, _, _, _, _, e, _⟩ => by rw [e]; rfl) (fun _ _ _ _ _ _ us hl => match us, hl with | [_, _], _ => rfl) (fun cdv A outer s H vs Q E hr h => ⟨_, (pss_one (ps_ret (pe_and (pe_cR (w_is_form_of px) (hr.mono (by decide)) (px.g "is_form_of" (by simp [gloL])) pass0 (pa_cons (pv 1) (pa_cons (SlX.pe_sl (pv 0)) (pa_cons (SlX.pe_sl (pv 0)) pa_nil)))) (pe_one (pe_cmpR (op_eqT (un1 hr)) (SlX.pe_sl (pv 0)) (SlX.pe_sl (pv 1)) (nomark _)))))), ?_⟩)
  obtain ⟨x, a, y, b, p, L, t, u, rfl, ⟨dx, hx, ha⟩, ⟨dy, hy, hb⟩, q⟩ := h
  obtain ⟨q1, c1⟩ := px.cl.fl
  obtain ⟨q2, c2⟩ := px.cl.fp
  obtain ⟨q3, c3⟩ := px.cl.ft
  refine ⟨_, rfl, _, rfl, x, _, dx, _, _, _, _, rfl, hx, px.cl.sf, c2, rfl, _, rfl, x, _, dx, _, _, _, _, rfl, hx, px.cl.sf, c1, rfl, y, dy, b, _, L, p, rfl, hy, true, rfl, ifT rfl ?_⟩
  exact ⟨_, rfl, x, _, dx, _, _, _, _, rfl, hx, px.cl.sf, c3, rfl, _, rfl, y, _, dy, _, _, _, _, rfl, hy, px.cl.sf, c3, rfl, a, b, t, u, rfl, rfl, ha, hb, q⟩
def sp_Form_table (K : PySem.W.Frag) : Sp := fun vs H Q _ => ∃ (x a : Addr) (p : Int) (L : Nat) (D : Int) (t : T), vs = [.ref x] ∧ Fo K H x L p a t ∧ Lt L ∧ D ≤ 6 ∧ Ht L D t ∧ Nz t ∧
  ∀ H' r u, Same H H' → H r = none → Tb H' r u → Nd u → Nz u → (∀ k, gt u k = gt t k) → u.length = t.length → Q (.ref r) H'
theorem sc_Form_table : FnScope ["self", "one"] ["self"] (defScope m_Form_table) := ⟨rfl, rfl, rfl, by decide +kernel, rfl, by decide +kernel, by decide +kernel⟩
theorem w_Form_table (px : Px K mg) : FnR P w K mg base CX0 1 (d_Form_table.at_ K) (sp_Form_table K) ∧ PySem.W.keepIn K (.ref (d_Form_table.at_ K)) = true := by
  refine px.R 25 rfl rfl rfl sc_Form_table (fun vs H Q E ⟨_, _, _, _, _, _, e, _⟩ => by rw [e]; rfl) (fun _ _ _ _ _ _ us hl => match us, hl with | [_], _ => rfl) (fun cdv A outer s H vs Q E hr h => ⟨_, (pss_one (ps_ret (pe_dcS (own := [("one", 1)]) (tv := tDGet (SlX.tSl K (tVar 0) "own_terms") (tVar 1)) (stT _ (un0 hr)) rfl sc_Form_table.nd (pi_list (pe_callB (cr_sortD rfl) rfl (px.f "sorted" (by simp [freeL])) bo_sorted (pa_cons (SlX.pe_sl (pv 0)) pa_nil))) (blkOk_by (own := [("one", 1)]) (N := ["self", "one"]) (sc := (defScope m_Form_table)) (by decide +kernel)) (fun _ _ _ _ _ => (pg_name (i := 1) sc_Form_table.nd rfl (Or.inl rfl))) (fun _ _ _ _ _ => pts_nil) (fun _ _ _ _ _ => (pv 1)) (fun _ _ _ _ _ => (pe_dget (un1 hr) (SlX.pe_sl (pv 0)) (pv 1) (fun _ _ => rfl)))))), ?_⟩)
  obtain ⟨x, a, p, L, D, t, rfl, ⟨dx, hx, ha⟩, hL, hD, ht, nz, q⟩ := h
  have sz : (64 : Nat) < sizeLine := by decide
  have hl := ht.len hL hD
  obtain ⟨q3, c3⟩ := px.cl.ft
  refine ⟨_, rfl, x, _, dx, _, _, _, _, rfl, hx, px.cl.sf, c3, rfl, a, t, L, rfl, ha, by omega, hL.pos, ht.ks hD, fun ps pa pm as ka hpa => ⟨pa, rfl, ⟨_, SqL.of upd_same⟩, fun D2 hD3 => ?_⟩⟩
  have d2 : ∀ k, k ∈ ps.map (·.2) ↔ k ∈ t.map (·.1) := fun k => pm.mem_iff
  have s3 : Same H (upd H pa (.lst (ps.map fun z => V.ref z.1))) := sm_new hpa
  have hpl : ps.length = t.length := by have := pm.length_eq; simpa using this
  refine dcS1 (walk_list (K := K) (a := pa) (xs := ps.map fun z => V.ref z.1)) (fun i => ((ps.getD i (0, [])).2, gt t (ps.getD i (0, [])).2)) (fun _ => true) (by rw [List.length_map]; omega) hD3 (fun H' sm => SqL.of (sm _ _ upd_same)) ?_ ?_ ?_
  · rw [filt_true, List.length_map, map_get ps (0, []) (fun z => z.2)]
    exact pm.nodup_iff.mpr ht.nd
  · rintro i x1 H3 H4 R R0 hi sm3 ⟨rfl, hx1⟩ kt kf
    rw [List.getElem?_map] at hx1
    obtain ⟨z, hz, rfl⟩ := Option.map_eq_some_iff.mp hx1
    have hzm : z ∈ ps := List.mem_of_getElem? hz
    have hk : z.2 ∈ t.map (·.1) := (d2 z.2).mp (List.mem_map_of_mem hzm)
    have s4 := Same.trans s3 sm3
    have hq : Tp H4 z.1 z.2 := sm3 _ _ (s3 _ _ (by
      have := ka z hzm
      exact this))
    rw [get_D hz] at kt
    exact ⟨rfl, yesT ⟨_, rfl, _, rfl, x, _, dx, _, _, _, _, rfl, slt_same hx s4, px.cl.sf, c3, rfl, _, rfl, a, _, rfl, dget_tb (s4 _ _ ha) hq hk, kt rfl _ _ _ hq rfl (Same.refl _)⟩⟩
  · intro H3 sm3 hD4
    rw [filt_true, List.length_map, map_get ps (0, []) (fun z => (z.2, gt t z.2))] at hD4
    have hu : (ps.map fun z => (z.2, gt t z.2)) = (ps.map (·.2)).map fun k => (k, gt t k) := by rw [List.map_map]; rfl
    obtain ⟨k1, k2⟩ := keyed_pure d2
    refine q H3 D2 _ (Same.trans s3 sm3) (Same.free s3 hD3) hD4 ?_ (by rw [hu]; exact k2 ht.nd nz) (by rw [hu]; exact k1) (by rw [List.length_map]; exact hpl)
    unfold Nd
    rw [List.map_map]
    exact pm.nodup_iff.mpr ht.nd
end
end Tg
end
section
set_option Elab.async false
set_option autoImplicit false
set_option linter.all false
set_option maxRecDepth 100000
set_option maxHeartbeats 4000000
/-! Cleared forms, orders. -/
namespace Tg
open PySem PySem.Spec PyProof.Rows L2 RZ
/-- u is t cleared -/
def Clr (p : Int) (t u : T) : Prop := u.map (·.1) = t.map (·.1) ∧ Nr p (t.map (·.2)) (u.map (·.2))
theorem table_ext : ∀ {t u : T}, t.map (·.1) = u.map (·.1) → t.map (·.2) = u.map (·.2) → t = u
  | [], [], _, _ => rfl
  | [], _ :: _, h, _ => nomatch h
  | _ :: _, [], h, _ => nomatch h
  | (a, b) :: t, (c, d) :: u, h1, h2 => by
    rw [List.map_cons, List.map_cons] at h1 h2
    obtain ⟨e1, e2⟩ := List.cons.inj h1
    obtain ⟨e3, e4⟩ := List.cons.inj h2
    rw [table_ext e2 e4]
    simp only at e1 e3
    rw [e1, e3]
theorem Clr.det {p : Int} (P : Pm p) {t u v : T} (a : Clr p t u) (b : Clr p t v) : u = v := table_ext (a.1.trans b.1.symm) (Nr.det P a.2 b.2)
theorem rn_of {p : Int} {t : T} (nd : Nd t) (nz : Nz t) (r : Rdc p (gt t)) : Rn p (t.map (·.2)) := fun n hn => by
  obtain ⟨e, he, rfl⟩ := List.mem_map.mp hn
  have := r e.1
  rw [gt_mem nd he] at this
  exact ⟨this, nz e he⟩
theorem ds_of_keys {t u : T} (h : u.map (·.1) = t.map (·.1)) (d : Ds t) : Ds u := by
  unfold Ds at d ⊢
  have h1 : (t.map (·.1)).Pairwise (fun a b => cd b < cd a) := List.pairwise_map.mpr d
  rw [← h] at h1
  exact List.pairwise_map.mp h1
structure ClrF (p : Int) (L : Nat) (D : Int) (t u : T) : Prop where
  ds : Ds u
  ht : Ht L D u
  nz : Nz u
  rd : Rdc p (gt u)
  sn : Sn t → Sn u
theorem mem_gt_rd {p : Int} {u : T} (nd : Nd u) (h : ∀ e ∈ u, low p e.2 = e.2) : Rdc p (gt u) := fun k => by
  by_cases h0 : gt u k = 0
  · rw [h0, low_zero]
  · have := h _ (gt_ne h0)
    exact this
theorem Clr.f {p : Int} (P : Pm p) {L : Nat} {D : Int} {t u : T} (c : Clr p t u) (d : Ds t) (nz : Nz t) (ht : Ht L D t) (r : Rdc p (gt t)) : ClrF p L D t u := by
  have F := Nr.f P (rn_of d.nd nz r) c.2
  have du := ds_of_keys c.1 d
  have hu : ∀ e ∈ u, low p e.2 = e.2 ∧ e.2 ≠ 0 := fun e he => F.rn e.2 (List.mem_map_of_mem he)
  refine ⟨du, ⟨du.nd, fun e he => ?_⟩, fun e he => (hu e he).2, mem_gt_rd du.nd fun e he => (hu e he).1, fun sn e he => ?_⟩
  · have h1 : e.1 ∈ t.map (·.1) := by rw [← c.1]; exact List.mem_map_of_mem he
    obtain ⟨z, hz, ez⟩ := List.mem_map.mp h1
    rw [← ez]; exact ht.mo z hz
  · by_cases h0 : p = 0
    · obtain ⟨j, hj⟩ := List.mem_iff_getElem?.mp he
      have hlen : u.length = t.length := by have := congrArg List.length c.1; simpa using this
      have hjl : j < t.length := by
        have := (List.getElem?_eq_some_iff.mp hj).1
        omega
      have ht1 : (t.map (·.2))[j]? = some (t[j]).2 := by simp [hjl]
      have hu1 : (u.map (·.2))[j]? = some e.2 := by rw [List.getElem?_map, hj]; rfl
      obtain ⟨uu, hu0, hun⟩ := F.unit
      have h2 := hun j _ _ ht1 hu1
      rw [h0, low0] at h2 hu0
      have h3 := sn t[j] (List.getElem_mem hjl)
      have h4 : e.2.natAbs ≤ (t[j]).2.natAbs := by
        rw [h2, Int.natAbs_mul]
        exact Nat.le_mul_of_pos_left _ (by omega)
      omega
    · have h1 := low_bd P h0 e.2
      rw [(hu e he).1] at h1
      have := P.le
      omega
theorem keyed_zip {t : T} {ms : List Int} (h : ms.length = t.length) : keyed (et t) (ms.map V.int) = et ((t.zip ms).map fun z => (z.1.1, z.2)) := by
  unfold keyed et
  rw [List.zip_map, List.map_map, List.map_map]
  rfl
theorem zip_keys : ∀ {t : T} {ms : List Int}, ms.length = t.length → ((t.zip ms).map fun z => (z.1.1, z.2)).map (·.1) = t.map (·.1) ∧ ((t.zip ms).map fun z => (z.1.1, z.2)).map (·.2) = ms
  | [], [], _ => ⟨rfl, rfl⟩
  | [], _ :: _, h => nomatch h
  | _ :: _, [], h => nomatch h
  | e :: t, m :: ms, h => by
    obtain ⟨h1, h2⟩ := zip_keys (t := t) (ms := ms) (by simpa using h)
    constructor
    · rw [List.zip_cons_cons, List.map_cons, List.map_cons, List.map_cons, h1]
    · rw [List.zip_cons_cons, List.map_cons, List.map_cons, h2]
section
variable {P : Program} {w : World} {K : PySem.W.Frag} {mg : Str → Option Value} {base : Heap}
def sp_Form_cleared (K : PySem.W.Frag) : Sp := fun vs H Q _ => ∃ (x a : Addr) (p : Int) (L : Nat) (D : Int) (t : T), vs = [.ref x] ∧ Fo K H x L p a t ∧ Pm p ∧ Lt L ∧ D ≤ 6 ∧ Ds t ∧ Nz t ∧ Ht L D t ∧ Rdc p (gt t) ∧ Sn t ∧
  ∀ H' y b u, Same H H' → Fo K H' y L p b u → Clr p t u → Q (.ref y) H'
theorem sc_Form_cleared : FnScope ["self", "numbers"] ["self"] (defScope m_Form_cleared) := ⟨rfl, rfl, rfl, by decide +kernel, rfl, by decide +kernel, by decide +kernel⟩
/- self 0 numbers 1 -/
theorem w_Form_cleared (px : Px K mg) : FnR P w K mg base CX0 9 (d_Form_cleared.at_ K) (sp_Form_cleared K) ∧ PySem.W.keepIn K (.ref (d_Form_cleared.at_ K)) = true := by
  refine px.R 29 rfl rfl rfl sc_Form_cleared (fun vs H Q E ⟨_, _, _, _, _, _, e, _⟩ => by rw [e]; rfl) (fun _ _ _ _ _ _ us hl => match us, hl with | [_], _ => rfl) (fun cdv A outer s H vs Q E hr h => ⟨_, (pss_cons (ps_if (pt_cmpR (op_eqT (un1 hr)) (SlX.pe_sl (pv 0)) pe_dnewT (nomark _)) (pss_one (ps_ret (pv 0))) pss_nil) (pss_cons (ps_set (i := 1) sc_Form_cleared.nd rfl (Or.inl rfl) (pe_cR (w_normal_of px) (hr.mono (by decide)) (px.g "normal_of" (by simp [gloL])) pass0 (pa_cons (SlX.pe_sl (pv 0)) (pa_cons (pe_callTy (cr_tupVals rfl) rfl (px.f "tuple" (by simp [freeL])) bo_tuple (pa_cons (pe_bm0 PySem.F.plainAttrs_dict PySem.F.slot_dict_values PySem.F.type_dict_values mt_valsT (SlX.pe_sl (pv 0))) pa_nil)) pa_nil)))) (pss_one (ps_ret (pe_cR (w_form_with px) (hr.mono (by decide)) (px.g "form_with" (by simp [gloL])) pass0 (pa_cons (SlX.pe_sl (pv 0)) (pa_cons (SlX.pe_sl (pv 0)) (pa_cons (pe_dictZip rfl (un2 hr) rfl (px.f "dict" (by simp [freeL])) rfl (px.f "zip" (by simp [freeL])) (pa_cons (SlX.pe_sl (pv 0)) (pa_cons (pv 1) pa_nil))) pa_nil)))))))), ?_⟩)
  obtain ⟨x, a, p, L, D, t, rfl, ⟨dx, hx, ha⟩, hp, hL, hD, dt, nz, ht, rd, sn, q⟩ := h
  have sz : (64 : Nat) < sizeLine := by decide
  have hl := ht.len hL hD
  obtain ⟨q1, c1⟩ := px.cl.fl
  obtain ⟨q2, c2⟩ := px.cl.fp
  obtain ⟨q3, c3⟩ := px.cl.ft
  refine ⟨_, rfl, x, _, dx, _, _, _, _, rfl, hx, px.cl.sf, c3, rfl, fun n hn => ⟨a, n, t, [], rfl, rfl, sm_new hn _ _ ha, upd_same, ?_⟩⟩
  have s1 : Same H (upd H n (.dT [])) := sm_new hn
  generalize upd H n (.dT []) = H1 at *
  cases t with
  | nil => exact .inr ⟨⟨rfl, fun _ h => nomatch h⟩, _, rfl, ifT rfl ⟨_, rfl, q H1 x a [] s1 ⟨dx, slt_same hx s1, s1 _ _ ha⟩ ⟨rfl, rfl⟩⟩⟩
  | cons e0 t' =>
    refine .inl ⟨by simp, _, rfl, ifF rfl ?_⟩
    generalize ht0 : e0 :: t' = t at *
    have hx1 := slt_same hx s1
    have ha1 := s1 _ _ ha
    refine ⟨_, rfl, x, _, dx, _, _, _, _, rfl, hx1, px.cl.sf, c2, rfl, _, rfl, x, _, dx, _, _, _, _, rfl, hx1, px.cl.sf, c3, rfl, .inr (.inr (.inl ⟨rfl, .inr ⟨_, ha1⟩⟩)), a, _, rfl, rfl, ha1, fun vw hvw => ?_⟩
    have ha2 : Tb (upd H1 vw (valsO vw a)) a t := sm_new hvw _ _ ha1
    refine ⟨vw, a, _, rfl, upd_same, ha2, fun tp htp => ?_⟩
    have s2 : Same H1 (upd (upd H1 vw (valsO vw a)) tp (.tup ((et t).map (·.2)))) := Same.trans (sm_new hvw) (sm_new htp)
    have htup : (upd (upd H1 vw (valsO vw a)) tp (.tup ((et t).map (·.2)))) tp = some (.tup ((t.map (·.2)).map V.int)) := by
      rw [upd_same]; congr 2; unfold et; rw [List.map_map, List.map_map]; rfl
    generalize upd (upd H1 vw (valsO vw a)) tp (.tup ((et t).map (·.2))) = H2 at *
    refine ⟨p, tp, t.map (·.2), rfl, hp, htup, rn_of dt.nd nz rd, fun n hn => ?_, by rw [List.length_map]; omega, fun r H3 ms s3 hr3 hms => ?_⟩
    · obtain ⟨e, he, rfl⟩ := List.mem_map.mp hn
      have := sn e he
      omega
    have hml : ms.length = t.length := by
      have := (Nr.f hp (rn_of dt.nd nz rd) hms).len
      simpa using this
    have s4 := Same.trans s1 (Same.trans s2 s3)
    have hx4 := slt_same hx s4
    have ha4 := s4 _ _ ha
    obtain ⟨z1, z2⟩ := zip_keys hml
    refine ⟨_, rfl, x, _, dx, _, _, _, _, rfl, hx4, px.cl.sf, c2, rfl, _, rfl, x, _, dx, _, _, _, _, rfl, hx4, px.cl.sf, c1, rfl, _, rfl, x, _, dx, _, _, _, _, rfl, hx4, px.cl.sf, c3, rfl, _, rfl, a, r, et t, ms.map V.int, rfl, ha4, SqT.of hr3, by rw [et_length, List.length_map]; exact hml.symm, fun nw hnw => ?_⟩
    rw [keyed_zip hml]
    have hC : Clr p t ((t.zip ms).map fun z => (z.1.1, z.2)) := ⟨z1, by rw [z2]; exact hms⟩
    have F := hC.f hp dt nz ht rd
    have s5 : Same H (upd H3 nw (.dT (et ((t.zip ms).map fun z => (z.1.1, z.2))))) := Same.trans s4 (sm_new hnw)
    generalize ((t.zip ms).map fun z => (z.1.1, z.2)) = v at *
    refine ⟨p, L, D, nw, v, rfl, upd_same, hL, hD, F.ht, F.nz, fun H' y b u s6 fy hy du zu gu => ?_⟩
    have : u = v := Ds.ext du F.ds zu F.nz gu
    subst this
    exact q H' y b u (Same.trans s5 s6) hy hC
end
end Tg
end
section
set_option Elab.async false
set_option autoImplicit false
set_option linter.all false
set_option maxRecDepth 100000
set_option maxHeartbeats 4000000
/-! Orders. -/
namespace Tg
open PySem PySem.Spec PyProof.Rows L2 RZ
section
variable {P : Program} {w : World} {K : PySem.W.Frag} {mg : Str → Option Value} {base : Heap}
def sp_Form_order_of (K : PySem.W.Frag) : Sp := fun vs H Q _ => ∃ (x a y b : Addr) (p : Int) (L : Nat) (D : Int) (t g g' : T) (h : Tg.K) (n : Nat), vs = [.ref x, .ref y] ∧ Fo K H x L p a t ∧ Fo K H y L p b g ∧ Lt L ∧ D ≤ 6 ∧ Ds t ∧ Nz t ∧ Ht L D t ∧ Rdc p (gt t) ∧
  Ds g ∧ Nz g ∧ Ht L 1 g ∧ Rdc p (gt g) ∧ Sn g ∧ g ≠ [] ∧ Clr p g g' ∧ Dvr p L 1 (gt g') h ∧ (t ≠ [] → Od p (gt g') h (gt t) n) ∧ (t = [] → ∀ H', Same H H' → Q .non H') ∧ (t ≠ [] → ∀ H', Same H H' → Q (.int n) H')
theorem sc_Form_order_of : FnScope ["self", "linear", "part", "many", "left"] ["self", "linear"] (defScope m_Form_order_of) := ⟨rfl, rfl, rfl, by decide +kernel, rfl, by decide +kernel, by decide +kernel⟩
/- self 0 linear 1 part 2 many 3 left 4 -/
theorem w_Form_order_of (px : Px K mg) : FnR P w K mg base CX0 10 (d_Form_order_of.at_ K) (sp_Form_order_of K) ∧ PySem.W.keepIn K (.ref (d_Form_order_of.at_ K)) = true := by
  refine px.R 28 rfl rfl rfl sc_Form_order_of (fun vs H Q E ⟨_, _, _, _, _, _, _, _, _, _, _, _, e, _⟩ => by rw [e]; rfl) (fun _ _ _ _ _ _ us hl => match us, hl with | [_, _], _ => rfl) (fun cdv A outer s H vs Q E hr h => ⟨_, (pss_cons (ps_expr (pe_cR (w_require_kin px) (hr.mono (by decide)) (px.g "require_kin" (by simp [gloL])) pass0 (pa_cons (pv 0) (pa_cons (pv 1) pa_nil)))) (pss_cons (ps_if (pt_cmpR op_ne (SlX.pe_sl (pv 1)) pe_int (nomark _)) pss_never pss_nil) (pss_cons (ps_if (pt_cmpR (op_eqT (un1 hr)) (SlX.pe_sl (pv 0)) pe_dnewT (nomark _)) (pss_one (ps_ret pe_non)) pss_nil) (pss_cons (ps_par (i := 2) (j := 3) rfl sc_Form_order_of.nd rfl rfl (by decide) rfl rfl (pa_cons (SlX.pe_sl (SlX.pe_methSl0 (pv 1) px.cl.sf (px.meth (m := "cleared") (by simp [methL])) (w_Form_cleared px).1 (hr.mono (by decide)) pass0)) (pa_cons pe_int pa_nil)) (by rfl)) (pss_cons (ps_set (i := 4) sc_Form_order_of.nd rfl (Or.inl rfl) (pe_cR (w_quotient_terms px) (hr.mono (by decide)) (px.g "quotient_terms" (by simp [gloL])) pass0 (pa_cons (SlX.pe_sl (pv 0)) (pa_cons (SlX.pe_sl (pv 0)) (pa_cons (pv 2) pa_nil))))) (pss_cons (ps_while PassesOwn.leaving (pt_cmp (pc_notN (pv 4))) (pss_cons (ps_aug (i := 3) sc_Form_order_of.nd rfl (Or.inl rfl) pe_int ip_add) (pss_one (ps_set (i := 4) sc_Form_order_of.nd rfl (Or.inl rfl) (pe_cR (w_quotient_terms px) (hr.mono (by decide)) (px.g "quotient_terms" (by simp [gloL])) pass0 (pa_cons (SlX.pe_sl (pv 0)) (pa_cons (pv 4) (pa_cons (pv 2) pa_nil)))))))) (pss_one (ps_ret (pv 3))))))))), ?_⟩)
  obtain ⟨x, a, y, b, p, L, D, t, g, g', h, n, rfl, ⟨dx, hx, ha⟩, ⟨dy, hy, hb⟩, hL, hD, dt, nz, ht, rd, dg_, ng, hg, rg, sg, hgn, hC, G, hO, q0, q1⟩ := h
  obtain ⟨r0, c0⟩ := px.cl.fd
  obtain ⟨r2, c2⟩ := px.cl.fp
  obtain ⟨r3, c3⟩ := px.cl.ft
  have hp := G.pm
  have hdg : dg g = .int 1 := by
    cases g with
    | nil => exact absurd rfl hgn
    | cons e g0 => show V.int e.1.sum = _; rw [(hg.mo e List.mem_cons_self).sum]
  refine ⟨_, rfl, _, rfl, x, dx, a, y, dy, b, _, _, L, p, rfl, hx, hy, ?_⟩
  rw [hdg] at hy
  refine ⟨_, rfl, y, _, dy, _, _, _, _, rfl, hy, px.cl.sf, c0, rfl, rfl, _, rfl, ifF rfl ?_⟩
  refine ⟨_, rfl, x, _, dx, _, _, _, _, rfl, hx, px.cl.sf, c3, rfl, fun n0 hn0 => ⟨a, n0, t, [], rfl, rfl, sm_new hn0 _ _ ha, upd_same, ?_⟩⟩
  have s1 : Same H (upd H n0 (.dT [])) := sm_new hn0
  generalize upd H n0 (.dT []) = H1 at *
  by_cases ht0 : t = []
  · subst ht0
    exact .inr ⟨⟨rfl, fun _ h => nomatch h⟩, _, rfl, ifT rfl (q0 rfl H1 s1)⟩
  refine .inl ⟨fun z => ht0 (List.eq_nil_of_length_eq_zero z), _, rfl, ifF rfl ?_⟩
  rw [← hdg] at hy
  refine ⟨_, rfl, y, dy, _, rfl, slt_same hy s1, y, b, p, L, 1, g, rfl, ⟨dy, slt_same hy s1, s1 _ _ hb⟩, hp, hL, by omega, dg_, ng, hg, rg, sg, fun H2 y2 b2 u s2 ⟨dy2, hy2, hb2⟩ hC2 => ?_⟩
  have hu := Clr.det hp hC2 hC
  subst hu
  have F := hC.f hp dg_ ng hg rg
  refine ⟨y2, _, dy2, _, _, _, _, rfl, hy2, px.cl.sf, c3, rfl, _, _, rfl, ?_⟩
  have s3 := Same.trans s1 s2
  have hx2 := slt_same hx s3
  refine ⟨_, rfl, x, _, dx, _, _, _, _, rfl, hx2, px.cl.sf, c2, rfl, _, rfl, x, _, dx, _, _, _, _, rfl, hx2, px.cl.sf, c3, rfl, _, rfl, p, a, b2, t, u, h, L, D, 1, rfl, s3 _ _ ha, hb2, hL, G, hD, dt, nz, ht.hm, rd, F.ds, F.nz, F.sn sg, fun H3 s4 => ?_⟩
  have hne : ∃ k, gt t k ≠ 0 := gt_ex nz ht0
  -- the loop
  have loop : ∀ (H3 : Hp) (lv : V) (cur : Option Tg.T), Same H2 H3 → Dv p (gt u) h (gt t) cur → ((cur = none ∧ lv = .non) ∨ ∃ q r, cur = some q ∧ lv = .ref r ∧ Tb H3 r q) →
      (tSeq (tWhile (tB (tNotN (tVar 4))) (tSeq (tAug 3 (tC (.int 1)) (ipI fun i j => i + j)) (tAsg (tCR sp_quotient_terms E0 (tCons (SlX.tSl K (tVar 0) "own_prime") (tCons (tVar 4) (tCons (tVar 2) tNil)))) (gName 4)))) (tRet (tVar 3)))
        { nx := fun x H' => Q V.non H', rt := Q } [some (.ref x), some (.ref y), some (.ref b2), some (.int 0), some lv] H3 := by
    intro H3 lv cur s4 hd hcur
    refine ⟨fun m σ H' => ∃ (f : Tg.F) (Dk : Int) (k : Nat) (lv : V) (cur : Option Tg.T), m = (Dk + 1).toNat ∧ σ = [some (.ref x), some (.ref y), some (.ref b2), some (.int k), some lv] ∧ Same H2 H' ∧ Dv p (gt u) h f cur ∧ Hm L Dk f ∧ Rdc p f ∧ (∃ k, f k ≠ 0) ∧ Dk ≤ 6 ∧
      ((cur = none ∧ lv = .non) ∨ ∃ q r, cur = some q ∧ lv = .ref r ∧ Tb H' r q) ∧ ∀ n, Od p (gt u) h f n → Od p (gt u) h (gt t) (k + n), ⟨_, gt t, D, 0, lv, cur, rfl, rfl, s4, hd, ht.hm, rd, hne, hD, hcur, fun n o => by rw [Nat.zero_add]; exact o⟩, ?_⟩
    rintro m σ H' ⟨f, Dk, k, lv, cur, rfl, rfl, s5, hd, hm, rf, fne, hDk, hcur, ho⟩
    rcases hcur with ⟨rfl, rfl⟩ | ⟨q, r, rfl, rfl, hr⟩
    · refine ⟨_, rfl, _, rfl, ifF rfl ⟨_, rfl, ?_⟩⟩
      have h1 := ho 0 (.stop hd)
      rw [Nat.add_zero] at h1
      have h2 := Od.det G h1 (by omega) (by omega) ht.hm rd (hO ht0)
      exact toQ (by rw [h2]) (q1 ht0 H' (Same.trans s3 s5))
    · refine ⟨_, rfl, _, rfl, ifT rfl ?_⟩
      obtain ⟨tm, dsq, _⟩ := hd.props G (by omega) hm rf q rfl
      have qne := hd.ne fne
      have qex := gt_ex tm.nz qne
      obtain ⟨k0, hk0⟩ := fne
      have hD0 := (hm k0 hk0).deg
      have hD1 : 0 ≤ Dk - 1 := by
        obtain ⟨k1, hk1⟩ := qex
        exact (tm.hm k1 hk1).deg
      refine ⟨fun σ' H'' => ∃ (f : Tg.F) (Dk' : Int) (k : Nat) (lv : V) (cur : Option Tg.T), (Dk' + 1).toNat < (Dk + 1).toNat ∧ σ' = [some (.ref x), some (.ref y), some (.ref b2), some (.int k), some lv] ∧ Same H2 H'' ∧ Dv p (gt u) h f cur ∧ Hm L Dk' f ∧ Rdc p f ∧ (∃ k, f k ≠ 0) ∧ Dk' ≤ 6 ∧
        ((cur = none ∧ lv = .non) ∨ ∃ q r, cur = some q ∧ lv = .ref r ∧ Tb H'' r q) ∧ ∀ n, Od p (gt u) h f n → Od p (gt u) h (gt t) (k + n), fun σ' H'' ⟨f, D', k, lv, cur, hm, r⟩ => ⟨_, hm, f, D', k, lv, cur, rfl, r⟩, ?_⟩
      have s6 := Same.trans s3 s5
      refine ⟨_, rfl, _, _, rfl, rfl, _, rfl, x, _, dx, _, _, _, _, rfl, slt_same hx s6, px.cl.sf, c2, rfl, _, rfl, _, rfl, p, r, b2, q, u, h, L, Dk - 1, 1, rfl, hr, s5 _ _ hb2, hL, G, by omega, dsq, tm.nz, tm.hm, tm.rd, F.ds, F.nz, F.sn sg, fun H6 s7 => ?_⟩
      have hk1 : (some (V.int ((k : Int) + 1)) : Option V) = some (.int ((k + 1 : Nat) : Int)) := by simp
      refine ⟨fun hd2 => ?_, fun q2 r2 hd2 fr2 hr2 => ?_⟩
      · refine ⟨gt q, Dk - 1, k + 1, .non, none, by omega, ?_, Same.trans s5 s7, hd2, tm.hm, tm.rd, qex, by omega, .inl ⟨rfl, rfl⟩, fun n o => ?_⟩
        · show [some (V.ref x), some (.ref y), some (.ref b2), some (V.int ((k : Int) + 1)), some .non] = _
          rw [hk1]
        · rw [show k + 1 + n = k + (n + 1) by omega]; exact ho _ (.more hd o)
      · refine ⟨gt q, Dk - 1, k + 1, .ref r2, some q2, by omega, ?_, Same.trans s5 s7, hd2, tm.hm, tm.rd, qex, by omega, .inr ⟨q2, r2, rfl, rfl, hr2⟩, fun n o => ?_⟩
        · show [some (V.ref x), some (.ref y), some (.ref b2), some (V.int ((k : Int) + 1)), some (.ref r2)] = _
          rw [hk1]
        · rw [show k + 1 + n = k + (n + 1) by omega]; exact ho _ (.more hd o)
  refine ⟨fun hd => loop H3 .non none s4 hd (.inl ⟨rfl, rfl⟩), fun q r hd fr hr => loop H3 (.ref r) (some q) s4 hd (.inr ⟨q, r, rfl, rfl, hr⟩)⟩
end
end Tg
end
section
set_option Elab.async false
set_option autoImplicit false
set_option linter.all false
set_option maxRecDepth 100000
set_option maxHeartbeats 4000000
/-! The own error's text. -/
namespace Tg
open PySem PySem.Spec PyProof.Rows L2 RZ
theorem Px.txt {K : PySem.W.Frag} {mg : Str → Option Value} (p : Px K mg) : RX.Txt K fileN (He.ga K "Refused") (He.fAd K ("Refused", some "__init__")) ∧ L2.XfC K (He.ga K "Refused") ∧ PySem.W.exmOne K (.ref (He.ga K "Refused")) (.ref (He.ga K "Refused")) = some true := by
  have h := p.cl.rf
  unfold refB at h
  simp only [Bool.and_eq_true] at h
  obtain ⟨h1, h2, h3, h4, h5, h6, h7, h8, h9, h10, h11, h12, h13, h14⟩ := h
  refine ⟨⟨?_, He.eqO_ok h2, He.eqO_ok h3, He.eqO_ok h4, of_decide_eq_true h5, h6, of_decide_eq_true h7, of_decide_eq_true h8, of_decide_eq_true h9, He.eqO_ok h10, He.eqO_ok h11, ?_⟩, L2.xfB_ok h14, of_decide_eq_true h13⟩
  · unfold clsB at h1
    split at h1
    · rename_i dd cd sl e
      simp only [Bool.and_eq_true] at h1
      obtain ⟨a1, a2, a3, a4⟩ := h1
      split at a4
      · rename_i k0 k1 k2 k3 n k5 es
        have a1 := of_decide_eq_true a1
        have a4 := of_decide_eq_true a4
        obtain ⟨nm, bs, mro, ns, q, hd, sn, sub, ab, col, hdl⟩ := cd
        simp only at a1 a2 a3
        have a3 : hdl = false := by simpa using a3
        have es2 : sl = #[k0, k1, k2, k3, some (Value.builtin n), k5] := by rw [← Array.toArray_toList (xs := sl), es]
        subst a1 a2 a3 a4 es2
        exact ⟨nm, q, ns, bs, sn, sub, ab, col, dd, k0, k1, k2, k3, k5, e⟩
      · cases a4
    · cases h1
  · have hc := p.c
    unfold initB at h12
    split at h12
    · rename_i oc od fd osl e
      unfold fnC at hc
      rw [e] at hc
      obtain ⟨nm, q, pr, bd, sc, gl, cl, df, kd, dc, pm, an, cdv, ct, bn⟩ := fd
      simp only [Bool.and_eq_true] at h12
      obtain ⟨b1, b2, b3, b4⟩ := h12
      have b1 := of_decide_eq_true b1
      have b2 := of_decide_eq_true b2
      have hc2 := Option.some.inj hc
      simp only [Prod.mk.injEq] at hc2
      obtain ⟨c1, c2, c3, c4, c5, c6, c7, c8⟩ := hc2
      split at b3
      · rename_i c ec
        obtain ⟨b5, b6⟩ := Bool.and_eq_true_iff.mp b3
        split at b6
        · rename_i ccl cdd vs ccs eo
          split at b6
          · rename_i fl tf ef
            split at b4
            · rename_i nn cc
              split at b4
              · rename_i cl2 cld v csl eo2
                have b4 := of_decide_eq_true b4
                have c7 : nn = Str.ofString "__class__" := by
                  have := List.cons.inj c7
                  exact this.1
                have d1 : df = Value.none := of_decide_eq_true b1
                have d2 : kd = Value.none := of_decide_eq_true b2
                subst d1 d2 c1 c2 c3 c4 c5 c6 c7 c8 b4
                exact ⟨oc, od, dc, pm, an, ec, ct, osl, cc, _, _, _, e, b5, ⟨ccl, cdd, vs, ccs, fl, tf, eo, by rw [← Array.getElem?_toList]; exact ef, b6⟩, cl2, cld, csl, eo2⟩
              · cases b4
            · cases b4
          · cases b6
        · cases b6
      · cases b3
    · cases h12
end Tg
end
section
set_option Elab.async false
set_option autoImplicit false
set_option linter.all false
set_option maxRecDepth 100000
set_option maxHeartbeats 4000000
/-! Quotients of forms. -/
namespace Tg
open PySem PySem.Spec PyProof.Rows L2 RZ
/-- the program's own facts -/
structure Pg (P : Program) : Prop where
  file : P.main.file = fileN
  top : (P.main.scope.names.lookup ("super" : Str)).isSome = false
theorem Pg.txt {P : Program} {K : PySem.W.Frag} {mg : Str → Option Value} (g : Pg P) (px : Px K mg) : RX.Txt K P.main.file (He.ga K "Refused") (He.fAd K ("Refused", some "__init__")) := by
  rw [g.file]; exact px.txt.1
section
variable {P : Program} {w : World} {K : PySem.W.Frag} {mg : Str → Option Value} {base : Heap}
def sp_Form_over (K : PySem.W.Frag) : Sp := fun vs H Q E => ∃ (x a y b : Addr) (p : Int) (L : Nat) (D E' : Int) (t g : T) (h : Tg.K), vs = [.ref x, .ref y] ∧ Fo K H x L p a t ∧ Fo K H y L p b g ∧ Lt L ∧ D ≤ 6 ∧ Ds t ∧ Nz t ∧ Hm L D (gt t) ∧ Rdc p (gt t) ∧
  Ds g ∧ Nz g ∧ Sn g ∧ Dvr p L E' (gt g) h ∧ ∀ H', Same H H' →
    (Dv p (gt g) h (gt t) none → ∀ tp d, H' tp = some (.tup [.str "rest"]) → H' d = none → E (.ref (He.ga K "Refused")) (some d) (upd H' d (.xd [(RX.rField, .ref tp)]))) ∧
    ∀ q z c, Dv p (gt g) h (gt t) (some q) → Fo K H' z L p c q → Q (.ref z) H'
theorem sc_Form_over : FnScope ["self", "other", "found"] ["self", "other"] (defScope m_Form_over) := ⟨rfl, rfl, rfl, by decide +kernel, rfl, by decide +kernel, by decide +kernel⟩
/- self 0 other 1 found 2 -/
theorem w_Form_over (pg : Pg P) (px : Px K mg) : FnR P w K mg base (CX P w) 10 (d_Form_over.at_ K) (sp_Form_over K) ∧ PySem.W.keepIn K (.ref (d_Form_over.at_ K)) = true := by
  refine px.R 27 rfl rfl rfl sc_Form_over (fun vs H Q E ⟨_, _, _, _, _, _, _, _, _, _, _, e, _⟩ => by rw [e]; rfl) (fun _ _ _ _ _ _ us hl => match us, hl with | [_, _], _ => rfl) (fun cdv A outer s H vs Q E hr h => ⟨_, (pss_cons (ps_expr (pe_cR (w_require_kin px) (hr.mono (by decide)) (px.g "require_kin" (by simp [gloL])) pass0 (pa_cons (pv 0) (pa_cons (pv 1) pa_nil)))) (pss_cons (ps_if (pt_cmpR (op_eqT (un1 hr)) (SlX.pe_sl (pv 1)) pe_dnewT (nomark _)) pss_never pss_nil) (pss_cons (ps_set (i := 2) sc_Form_over.nd rfl (Or.inl rfl) (pe_cR (w_quotient_terms px) (hr.mono (by decide)) (px.g "quotient_terms" (by simp [gloL])) pass0 (pa_cons (SlX.pe_sl (pv 0)) (pa_cons (SlX.pe_sl (pv 0)) (pa_cons (SlX.pe_sl (pv 1)) pa_nil))))) (pss_cons (ps_if (pt_cmp (pc_isN (pv 2))) (pss_one (ps_raiseRef rfl (pg.txt px) (px.g "Refused" (by simp [gloL])) (px.f "super" (by simp [freeL])) pg.top hr (takes_of rfl rfl rfl rfl) (pa_cons (pe_tup (pa_cons pe_str pa_nil)) pa_nil))) pss_nil) (pss_one (ps_ret (pe_cR (w_form_with px) (hr.mono (by decide)) (px.g "form_with" (by simp [gloL])) pass0 (pa_cons (SlX.pe_sl (pv 0)) (pa_cons (SlX.pe_sl (pv 0)) (pa_cons (pv 2) pa_nil)))))))))), ?_⟩)
  obtain ⟨x, a, y, b, p, L, D, E', t, g, h, rfl, ⟨dx, hx, ha⟩, ⟨dy, hy, hb⟩, hL, hD, dt, nz, ht, rd, dg_, ng, sg, G, q⟩ := h
  obtain ⟨r1, c1⟩ := px.cl.fl
  obtain ⟨r2, c2⟩ := px.cl.fp
  obtain ⟨r3, c3⟩ := px.cl.ft
  have hgn : g ≠ [] := fun z => G.ld.1 (by rw [z, gt_nil])
  refine ⟨_, rfl, _, rfl, x, dx, a, y, dy, b, _, _, L, p, rfl, hx, hy, ?_⟩
  refine ⟨_, rfl, y, _, dy, _, _, _, _, rfl, hy, px.cl.sf, c3, rfl, fun n0 hn0 => ⟨b, n0, g, [], rfl, rfl, sm_new hn0 _ _ hb, upd_same, .inl ⟨fun z => hgn (List.eq_nil_of_length_eq_zero z), _, rfl, ifF rfl ?_⟩⟩⟩
  have s1 : Same H (upd H n0 (.dT [])) := sm_new hn0
  generalize upd H n0 (.dT []) = H1 at *
  have hx1 := slt_same hx s1
  have hy1 := slt_same hy s1
  refine ⟨_, rfl, x, _, dx, _, _, _, _, rfl, hx1, px.cl.sf, c2, rfl, _, rfl, x, _, dx, _, _, _, _, rfl, hx1, px.cl.sf, c3, rfl, _, rfl, y, _, dy, _, _, _, _, rfl, hy1, px.cl.sf, c3, rfl, p, a, b, t, g, h, L, D, E', rfl, s1 _ _ ha, s1 _ _ hb, hL, G, hD, dt, nz, ht, rd, dg_, ng, sg, fun H2 s2 => ⟨fun hd => ?_, fun qt r hd fr hr2 => ?_⟩⟩
  · refine ⟨_, rfl, _, rfl, ifT rfl ?_⟩
    refine ⟨by show 1 ≤ sizeLine; decide, fun tp htp => ⟨_, rfl, fun d hd2 => ?_⟩⟩
    exact (q _ (Same.trans s1 (Same.trans s2 (sm_new htp)))).1 hd tp d upd_same hd2
  · refine ⟨_, rfl, _, rfl, ifF rfl ?_⟩
    have s3 := Same.trans s1 s2
    have hx2 := slt_same hx s3
    obtain ⟨tm, dq, _⟩ := hd.props G (by omega) ht rd qt rfl
    have hE := G.mo.deg
    refine ⟨_, rfl, x, _, dx, _, _, _, _, rfl, hx2, px.cl.sf, c2, rfl, _, rfl, x, _, dx, _, _, _, _, rfl, hx2, px.cl.sf, c1, rfl, _, rfl, p, L, D - E', r, qt, rfl, hr2, hL, by omega, Ht.of dq tm.nz tm.hm, tm.nz, fun H3 z c u s4 fz hz du zu gu => ?_⟩
    have : u = qt := Ds.ext du dq zu tm.nz gu
    subst this
    exact (q H3 (Same.trans s3 s4)).2 _ z c hd hz
end
end Tg
end
section
set_option Elab.async false
set_option autoImplicit false
set_option linter.all false
set_option maxRecDepth 100000
set_option maxHeartbeats 4000000
set_option pp.maxSteps 600
/-! Values of forms in two letters. -/
namespace Tg
open PySem PySem.Spec PyProof.Rows L2 RZ
theorem bo_range : bootBuiltins "range" = some (.type "range") := by decide +kernel
/-- a row of powers -/
def ra (p x : Int) : Nat → Int
  | 0 => 1
  | k + 1 => low p (ra p x k * x)
theorem ra_low (p x : Int) : ∀ k, low p (ra p x k) = low p (x ^ k)
  | 0 => by simp [ra]
  | k + 1 => by
    show low p (low p (ra p x k * x)) = _
    rw [low_low, low_eqm (ra_low p x k), Int.pow_succ]
theorem ra_bd {p x : Int} (P : Pm p) (hx : -100 ≤ x ∧ x ≤ 100) : ∀ k, (p ≠ 0 ∧ 0 ≤ ra p x k ∧ ra p x k < 12) ∨ (p = 0 ∧ (ra p x k).natAbs ≤ 100 ^ k)
  | 0 => by
    by_cases h : p = 0
    · exact .inr ⟨h, by simp [ra]⟩
    · exact .inl ⟨h, by simp [ra], by simp [ra]⟩
  | k + 1 => by
    by_cases h : p = 0
    · refine .inr ⟨h, ?_⟩
      show (low p (ra p x k * x)).natAbs ≤ _
      rw [h, low0, Int.natAbs_mul, Nat.pow_succ]
      rcases ra_bd P hx k with z | ⟨_, z⟩
      · exact absurd h z.1
      · rw [h] at z; exact Nat.mul_le_mul z (by omega)
    · have h1 := low_bd P h (ra p x k * x)
      have h2 := P.le
      exact .inl ⟨h, h1.1, by show low p (ra p x k * x) < 12; omega⟩
theorem ra_ok {p x : Int} (P : Pm p) (hx : -100 ≤ x ∧ x ≤ 100) {k : Nat} (hk : k ≤ 6) : -(2 ^ 64) < ra p x k ∧ ra p x k < 2 ^ 64 := by
  rcases ra_bd P hx k with ⟨_, h1, h2⟩ | ⟨_, h1⟩
  · omega
  · have h2 : 100 ^ k ≤ 100 ^ 6 := Nat.pow_le_pow_right (by decide) hk
    have h3 : (100 : Nat) ^ 6 < 2 ^ 64 := by decide
    omega
/-- the sum over the terms -/
def sv (p x y : Int) (t : T) : Int := (t.map fun e => e.2 * ra p x (e.1.getD 0 0).toNat * ra p y (e.1.getD 1 0).toNat).sum
theorem sv_take {p x y : Int} {t : T} {i : Nat} {e : K × Int} (h : t[i]? = some e) : sv p x y (t.take (i + 1)) = sv p x y (t.take i) + e.2 * ra p x (e.1.getD 0 0).toNat * ra p y (e.1.getD 1 0).toNat := by
  unfold sv
  rw [List.take_add_one, h, List.map_append, List.sum_append]
  simp
theorem sv_sm {n : Nat} (g : K → Int) : ∀ {t : T}, Ht 2 (n : Int) t → (t.map fun e => e.2 * g e.1).sum = sm (n + 1) fun i => gt t (bi n i) * g (bi n i)
  | [], _ => by
    rw [sm_zero]
    · rfl
    · intro i _; rw [gt_nil, Int.zero_mul]
  | e :: t, h => by
    have h1 : Ht 2 (n : Int) t := ⟨by have := h.nd; unfold Nd at this ⊢; rw [List.map_cons, List.nodup_cons] at this; exact this.2, fun x hx => h.mo x (List.mem_cons_of_mem _ hx)⟩
    obtain ⟨j, hj, ej⟩ := mo_two (h.mo e List.mem_cons_self)
    have hout : gt t e.1 = 0 := gt_out (by have := h.nd; unfold Nd at this; rw [List.map_cons, List.nodup_cons] at this; exact this.1)
    rw [List.map_cons, List.sum_cons, sv_sm g h1]
    have e1 : (sm (n + 1) fun i => gt (e :: t) (bi n i) * g (bi n i)) = sm (n + 1) fun i => (if e.1 = bi n i then e.2 * g (bi n i) else 0) + gt t (bi n i) * g (bi n i) := by
      apply sm_congr
      intro i _
      rw [gt_cons]
      by_cases hc : e.1 = bi n i
      · rw [if_pos hc, if_pos hc, ← hc, hout]; omega
      · rw [if_neg hc, if_neg hc, Int.zero_add]
    have e2 : (sm (n + 1) fun i => if e.1 = bi n i then e.2 * g (bi n i) else 0) = e.2 * g e.1 := by
      rw [sm_one (j := j) (by omega)]
      · rw [if_pos ej, ej]
      · intro i _ hij
        rw [if_neg]
        intro z
        rw [ej] at z
        have := List.cons.inj z
        omega
    rw [e1, sm_add, e2]
theorem sv_ev {p x y : Int} {n : Nat} {t : T} (h : Ht 2 (n : Int) t) : low p (sv p x y t) = low p (ev (gt t) n x y) := by
  have e1 : sv p x y t = (t.map fun e => e.2 * ((fun k : K => ra p x (k.getD 0 0).toNat * ra p y (k.getD 1 0).toNat) e.1)).sum := by
    unfold sv
    congr 1
    apply List.map_congr_left
    intro e _
    rw [Int.mul_assoc]
  rw [e1.trans (sv_sm (fun k : K => ra p x (k.getD 0 0).toNat * ra p y (k.getD 1 0).toNat) h)]
  unfold ev
  apply sm_low
  intro i hi
  have h1 : ((bi n i).getD 0 0).toNat = i := by simp [bi]
  have h2 : ((bi n i).getD 1 0).toNat = n - i := by simp [bi]
  show low p (gt t (bi n i) * (ra p x ((bi n i).getD 0 0).toNat * ra p y ((bi n i).getD 1 0).toNat)) = _
  rw [h1, h2, ← low_mul' p (gt t (bi n i)) (ra p x i * ra p y (n - i)), ← low_mul' p (gt t (bi n i)) (x ^ i * y ^ (n - i))]
  congr 2
  rw [← low_mul, ra_low, low_mul, ← low_mul', ra_low, low_mul']
theorem or0 {K : PySem.W.Frag} {σ : L2.St} {H : Hp} {Q : VK} {n : Nat} (h : Q (.int n) H) : ∃ k, TruV K (.int n) H k ∧ if k = true then Q (.int n) H else tC (.int 0) σ H Q := by
  refine ⟨((n : Int) != 0), rfl, ?_⟩
  by_cases h0 : n = 0
  · subst h0; exact ifF rfl h
  · exact ifT (by simp [h0]) h
section
variable {P : Program} {w : World} {K : PySem.W.Frag} {mg : Str → Option Value} {base : Heap}
def sp_value_at (K : PySem.W.Frag) : Sp := fun vs H Q _ => ∃ (x a nt : Addr) (p : Int) (n : Nat) (t : T) (u v : Int), vs = [.ref x, .ref nt] ∧ Fo K H x 2 p a t ∧ Tp H nt [u, v] ∧ Pm p ∧ n ≤ 6 ∧ Ht 2 (n : Int) t ∧ t ≠ [] ∧ (-100 ≤ u ∧ u ≤ 100) ∧ (-100 ≤ v ∧ v ≤ 100) ∧
  ∀ H', Same H H' → Q (.int (low p (ev (gt t) n u v))) H'
theorem sc_value_at : FnScope ["form", "numbers", "powers", "found", "one", "row", "turn", "exponents", "number", "term", "exponent"] ["form", "numbers"] (defScope s_value_at) := ⟨rfl, rfl, rfl, by decide +kernel, rfl, by decide +kernel, by decide +kernel⟩
/- form 0 numbers 1 powers 2 found 3 one 4 row 5 turn 6 exponents 7 number 8 term 9 exponent 10 -/
theorem w_value_at (px : Px K mg) : FnR P w K mg base CX0 2 (d_value_at.at_ K) (sp_value_at K) ∧ PySem.W.keepIn K (.ref (d_value_at.at_ K)) = true := by
  refine px.R 35 rfl rfl rfl sc_value_at (fun vs H Q E ⟨_, _, _, _, _, _, _, _, e, _⟩ => by rw [e]; rfl) (fun _ _ _ _ _ _ us hl => match us, hl with | [_, _], _ => rfl) (fun cdv A outer s H vs Q E hr h => ⟨_, (pss_cons (ps_par (i := 2) (j := 3) rfl sc_value_at.nd rfl rfl (by decide) rfl rfl (pa_cons (pe_lst pa_nil) (pa_cons pe_int pa_nil)) (by rfl)) (pss_cons (ps_for PassesOwn.leaving rfl (pi_tup (pv 1)) (pg_name (i := 4) sc_value_at.nd rfl (Or.inl rfl)) (pss_cons (ps_set (i := 5) sc_value_at.nd rfl (Or.inl rfl) (pe_lst (pa_cons pe_int pa_nil))) (pss_cons (ps_for PassesOwn.leaving rfl (pi_range1 rfl (px.f "range" (by simp [freeL])) (pa_cons (pe_orT (SlX.pe_sl (pv 0)) (pe_one pe_int)) pa_nil)) (pg_name (i := 6) sc_value_at.nd rfl (Or.inl rfl)) (pss_one (ps_expr (pe_bm PySem.F.plainAttrs_list PySem.F.slot_list_append PySem.F.type_list_append mt_append (pv 5) (pa_cons (pe_cR (w_lowered_by px) (hr.mono (by decide)) (px.g "lowered_by" (by simp [gloL])) pass0 (pa_cons (SlX.pe_sl (pv 0)) (pa_cons (pe_op op_mul (pe_ix ix_list (pv 5) (pe_un un_neg pe_int) (fun _ _ => rfl)) (pv 4)) pa_nil))) pa_nil))))) (pss_one (ps_expr (pe_bm PySem.F.plainAttrs_list PySem.F.slot_list_append PySem.F.type_list_append mt_append (pv 2) (pa_cons (pv 5) pa_nil))))))) (pss_cons (ps_lock (ps_for PassesOwn.leaving rfl (pi_itemsT (SlX.pe_sl (pv 0))) (pg_tup rfl (pgs_cons (pg_name (i := 7) sc_value_at.nd rfl (Or.inl rfl)) (pgs_cons (pg_name (i := 8) sc_value_at.nd rfl (Or.inl rfl)) pgs_nil))) (pss_cons (ps_set (i := 9) sc_value_at.nd rfl (Or.inl rfl) (pv 8)) (pss_cons (ps_for PassesOwn.leaving rfl (pi_zipLT rfl (px.f "zip" (by simp [freeL])) (pa_cons (pv 2) (pa_cons (pv 7) pa_nil))) (pg_tup rfl (pgs_cons (pg_name (i := 5) sc_value_at.nd rfl (Or.inl rfl)) (pgs_cons (pg_name (i := 10) sc_value_at.nd rfl (Or.inl rfl)) pgs_nil))) (pss_one (ps_set (i := 9) sc_value_at.nd rfl (Or.inl rfl) (pe_op op_mul (pv 9) (pe_ix ix_list (pv 5) (pv 10) (fun _ _ => rfl)))))) (pss_one (ps_set (i := 3) sc_value_at.nd rfl (Or.inl rfl) (pe_op op_add (pv 3) (pv 9)))))))) (pss_one (ps_ret (pe_cR (w_lowered_by px) (hr.mono (by decide)) (px.g "lowered_by" (by simp [gloL])) pass0 (pa_cons (SlX.pe_sl (pv 0)) (pa_cons (pv 3) pa_nil)))))))), ?_⟩)
  obtain ⟨x, a, nt, p, n, t, u, v, rfl, ⟨dx, hx, ha⟩, hnt, hp, hn, ht, tne, hu, hv, q⟩ := h
  have sz : (64 : Nat) < sizeLine := by decide
  obtain ⟨r0, c0⟩ := px.cl.fd
  obtain ⟨r2, c2⟩ := px.cl.fp
  obtain ⟨r3, c3⟩ := px.cl.ft
  obtain ⟨e0, t', rfl⟩ : ∃ e0 t', t = e0 :: t' := by
    cases t with
    | nil => exact absurd rfl tne
    | cons e0 t' => exact ⟨_, _, rfl⟩
  have hdg : dg (e0 :: t') = .int n := by show V.int e0.1.sum = _; rw [(ht.mo e0 List.mem_cons_self).sum]
  rw [hdg] at hx
  generalize e0 :: t' = t at *
  have ht2 := ht.len (.inl rfl) (by omega)
  let ns : List Int := [u, v]
  have hnb : ∀ z ∈ ns, -100 ≤ z ∧ z ≤ 100 := by
    intro z hz
    rcases List.mem_cons.mp hz with rfl | hz
    · exact hu
    · rw [List.mem_singleton.mp hz]; exact hv
  let rw_ : Int → List V := fun z => (List.range (n + 1)).map fun k => V.int (ra p z k)
  refine ⟨by show 0 ≤ sizeLine; omega, fun pa hpa => ⟨_, _, rfl, ?_⟩⟩
  refine ⟨_, rfl, nt, rfl, ⟨_, SqT.of (sm_new hpa _ _ hnt)⟩, ?_⟩
  refine for_tup (xs := ns.map V.int) (fun i σ' H' => ∃ (rs : List Addr) (x4 x5 x6 : Option V), σ' = [some (.ref x), some (.ref nt), some (.ref pa), some (.int 0), x4, x5, x6, none, none, none, none] ∧ Same H H' ∧ H' pa = some (.lst (rs.map V.ref)) ∧ rs.length = i ∧ ∀ (j : Nat) (r : Addr) (z : Int), rs[j]? = some r → ns[j]? = some z → H' r = some (.lst (rw_ z))) ?_ ?_ ?_ ?_
  · exact ⟨[], none, none, none, rfl, sm_new hpa, upd_same, rfl, fun j r z h => by simp at h⟩
  · rintro i σ' H' _ ⟨rs, x4, x5, x6, rfl, sm, _⟩
    exact SqT.of (sm _ _ hnt)
  · rintro i xi σ' H1 hxi ⟨rs, x4, x5, x6, rfl, sm, hpl, hrl, hrows⟩
    rw [List.getElem?_map] at hxi
    obtain ⟨z, hz, rfl⟩ := Option.map_eq_some_iff.mp hxi
    have hzb := hnb z (List.mem_of_getElem? hz)
    refine ⟨by show 1 ≤ sizeLine; omega, fun rr hrr => ?_⟩
    have prr : pa ≠ rr := ne_of_none hpl hrr
    have hx2 := slt_same hx (Same.trans sm (sm_new (o := .lst [V.int 1]) hrr))
    refine ⟨_, rfl, x, _, dx, _, _, _, _, rfl, hx2, px.cl.sf, c0, rfl, or0 ?_⟩
    refine ⟨n, rfl, by omega, by omega, ?_⟩
    rw [Int.toNat_natCast]
    refine for_range (n := n) (fun j σ' H' => ∃ x6, σ' = [some (.ref x), some (.ref nt), some (.ref pa), some (.int 0), some (.int z), some (.ref rr), x6, none, none, none, none] ∧ Same H1 H' ∧ H' rr = some (.lst ((List.range (j + 1)).map fun k => V.int (ra p z k)))) ?_ ?_ ?_
    · exact ⟨x6, rfl, sm_new hrr, upd_same⟩
    · rintro j σ' H' hj ⟨x6, rfl, sm1, hr⟩
      have hat : atI ((List.range (j + 1)).map fun k => V.int (ra p z k)) (-1) = some (.int (ra p z j)) := by
        rw [List.range_succ, List.map_append]; exact atI_last _ _
      have hx3 := slt_same hx (Same.trans sm sm1)
      refine ⟨_, rfl, .inl ⟨rfl, _, SqL.of hr⟩, _, rfl, x, _, dx, _, _, _, _, rfl, hx3, px.cl.sf, c2, rfl, _, rfl, _, rfl, rr, _, -1, _, rfl, rfl, SqL.of hr, hat, _, rfl, _, _, rfl, rfl, .inr ⟨by omega, by omega⟩, p, _, rfl, hp, rr, _, _, rfl, rfl, hr, by simp; omega, _, rfl, sm_upd hrr sm1, ?_⟩
      rw [upd_same, List.range_succ (n := j + 1), List.map_append]
      rfl
    · rintro σ' H' ⟨x6, rfl, sm1, hr⟩
      have hpl2 := sm1 _ _ hpl
      refine ⟨_, rfl, .inl ⟨rfl, _, SqL.of hpl2⟩, _, rfl, pa, _, _, rfl, rfl, hpl2, by simp [hrl]; have := (List.getElem?_eq_some_iff.mp hz).1; simp [ns] at this; omega, rs ++ [rr], _, _, _, rfl, ?_, by rw [upd_same, List.map_append]; rfl, by simp [hrl], ?_⟩
      · exact sm_upd hpa (Same.trans sm sm1)
      · intro j r z2 hj hz2
        by_cases hjl : j < rs.length
        · rw [List.getElem?_append_left hjl] at hj
          have h1 := hrows j r z2 hj hz2
          rw [upd_ne (ne_of h1 hpl (fun e => by
            have e1 : rw_ z2 = rs.map V.ref := HO.lst.inj e
            have e2 : (rw_ z2)[0]? = (rs.map V.ref)[0]? := by rw [e1]
            simp only [rw_, List.getElem?_map] at e2
            rw [List.getElem?_range (by omega)] at e2
            cases hrs : rs[0]? with
            | none => rw [hrs] at e2; cases e2
            | some q0 => rw [hrs] at e2; cases e2))]
          exact sm1 _ _ h1
        · rw [List.getElem?_append_right (by omega)] at hj
          have hj0 : j - rs.length = 0 := by
            have := (List.getElem?_eq_some_iff.mp hj).1
            simp at this; omega
          rw [hj0] at hj
          simp at hj
          subst hj
          have hji : j = i := by omega
          rw [hji, hz] at hz2
          obtain rfl := Option.some.inj hz2
          rw [upd_ne prr.symm]
          exact hr
  · rintro σ' H1 ⟨rs, x4, x5, x6, rfl, sm, hpl, hrl, hrows⟩
    have hrl2 : rs.length = 2 := by rw [hrl]; rfl
    obtain ⟨r1, r2, rfl⟩ : ∃ r1 r2, rs = [r1, r2] := by
      match rs, hrl2 with
      | [r1, r2], _ => exact ⟨r1, r2, rfl⟩
    have hr1 := hrows 0 r1 u rfl rfl
    have hr2 := hrows 1 r2 v rfl rfl
    have ha1 := sm _ _ ha
    have hx1 := slt_same hx sm
    refine ⟨a, _, ha1, trivial, fun od => ?_⟩
    have hx2 : SlX.Slt (upd H1 a (.frz od (.dT (et t)))) x (He.ga K "Form") dx (fm (.int n) (.int ((2 : Nat) : Int)) (.int p) a) := by
      rcases hx1 with ⟨e, e2⟩ | ⟨e, e2⟩
      · exact nomatch e2
      · exact .inr ⟨lk_get ha1 e (fun z => nomatch z), lk_get ha1 e2 (fun z => nomatch z)⟩
    have hpl2 : (upd H1 a (.frz od (.dT (et t)))) pa = some (.lst ([r1, r2].map V.ref)) := lk_get ha1 hpl (fun z => nomatch z)
    have hr12 : (upd H1 a (.frz od (.dT (et t)))) r1 = some (.lst (rw_ u)) := lk_get ha1 hr1 (fun z => nomatch z)
    have hr22 : (upd H1 a (.frz od (.dT (et t)))) r2 = some (.lst (rw_ v)) := lk_get ha1 hr2 (fun z => nomatch z)
    have hfz : (upd H1 a (.frz od (.dT (et t)))) a = some (.frz od (.dT (et t))) := upd_same
    refine ⟨_, rfl, x, _, dx, _, _, _, _, rfl, hx2, px.cl.sf, c3, rfl, a, od, _, rfl, upd_same, ?_⟩
    refine for_it walk_itemsT (fun i σ' H' => ∃ (x4 x5 x6 x7 x8 x9 x10 : Option V), σ' = [some (.ref x), some (.ref nt), some (.ref pa), some (.int (sv p u v (t.take i))), x4, x5, x6, x7, x8, x9, x10] ∧ Same (upd H1 a (.frz od (.dT (et t)))) H') ⟨x4, x5, x6, none, none, none, none, rfl, Same.refl _⟩ (fun i σ' H' _ ⟨_, _, _, _, _, _, _, _, s⟩ => s _ _ hfz) ?_ ?_
    · rintro i xi σ' H2 H3 hi ⟨x4, x5, x6, x7, x8, x9, x10, rfl, sm2⟩ ⟨T, qa, k, v', ee, rfl, hT, hqa, rfl⟩
      obtain ⟨z, hz, rfl, rfl⟩ := et_get ee
      rw [ek_kV] at hqa
      obtain ⟨j0, hj0, ez⟩ := mo_two (ht.mo z (List.mem_of_getElem? hz))
      have sT : Same H2 (upd H2 T (.tup [V.ref qa, V.int z.2])) := sm_new hT
      have hq3 := sT _ _ hqa
      have sm3 := Same.trans sm2 sT
      refine ⟨T, _, rfl, SqT.of upd_same, rfl, _, _, rfl, _, _, rfl, rfl, ?_⟩
      generalize upd H2 T (.tup [V.ref qa, V.int z.2]) = H3 at *
      have hpl3 := sm3 _ _ hpl2
      refine ⟨_, rfl, _, rfl, _, rfl, pa, qa, _, _, rfl, SqL.of hpl3, SqT.of hq3, ?_⟩
      let vals : List Int := [z.2, z.2 * ra p u j0, z.2 * ra p u j0 * ra p v (n - j0)]
      have hzl : (z.1.map V.int) = [V.int (j0 : Int), V.int ((n - j0 : Nat) : Int)] := by rw [ez]; rfl
      refine for_it (walk_zipLT (K := K) (a := pa) (b := qa) (xs := [r1, r2].map V.ref) (ys := z.1.map V.int) (n := 2) (by rw [hzl]; rfl)) (fun m σ' H' => ∃ (x5 x10 : Option V), σ' = [some (.ref x), some (.ref nt), some (.ref pa), some (.int (sv p u v (t.take i))), x4, x5, x6, some (.ref qa), some (.int z.2), some (.int (vals.getD m 0)), x10] ∧ Same H3 H') ⟨x5, x10, rfl, Same.refl _⟩ (fun m σ' H' _ ⟨_, _, _, s⟩ => ⟨SqL.of (s _ _ hpl3), SqT.of (s _ _ hq3)⟩) ?_ ?_
      · rintro m xm σ' H4 H5 hm ⟨x5, x10, rfl, sm4⟩ ⟨T2, xx, yy, rfl, hT2, rfl, hxx, hyy⟩
        rw [hzl] at hyy
        have sT2 : Same H4 (upd H4 T2 (.tup [xx, yy])) := sm_new hT2
        have sm6 := Same.trans sm3 (Same.trans sm4 sT2)
        have hrow : ∀ (w : Int) (k : Nat), k ≤ n → (rw_ w)[k]? = some (.int (ra p w k)) := fun w k hk => by
          simp only [rw_, List.getElem?_map]
          rw [List.getElem?_range (by omega)]
          rfl
        refine ⟨T2, _, rfl, SqT.of upd_same, rfl, _, _, rfl, _, _, rfl, rfl, ?_⟩
        match m, hm, hxx, hyy with
        | 0, _, hxx, hyy =>
          obtain rfl := Option.some.inj hxx
          obtain rfl := Option.some.inj hyy
          exact ⟨_, rfl, _, rfl, _, rfl, r1, _, _, _, rfl, rfl, SqL.of (sm6 _ _ hr12), atI_nat (hrow u j0 hj0), _, _, rfl, rfl, .inr (ra_ok hp hu (by omega)), _, _, rfl, Same.trans sm4 sT2⟩
        | 1, _, hxx, hyy =>
          obtain rfl := Option.some.inj hxx
          obtain rfl := Option.some.inj hyy
          exact ⟨_, rfl, _, rfl, _, rfl, r2, _, _, _, rfl, rfl, SqL.of (sm6 _ _ hr22), atI_nat (hrow v (n - j0) (by omega)), _, _, rfl, rfl, .inr (ra_ok hp hv (by omega)), _, _, rfl, Same.trans sm4 sT2⟩
      · rintro σ' H4 ⟨x5, x10, rfl, sm4⟩
        refine ⟨_, rfl, _, rfl, _, _, rfl, rfl, x4, x5, x6, some (.ref qa), some (.int z.2), some (.int (vals.getD 2 0)), x10, ?_, Same.trans sm3 sm4⟩
        have e1 : sv p u v (t.take (i + 1)) = sv p u v (t.take i) + z.2 * ra p u j0 * ra p v (n - j0) := by
          rw [sv_take hz, ez]; simp [bi]
        rw [e1]
        rfl
    · rintro σ' H2 ⟨x4, x5, x6, x7, x8, x9, x10, rfl, sm2⟩
      rw [et_length, List.take_length]
      have s3 := Same.trans sm (lk_back ha1 sm2)
      refine ⟨sm2 _ _ hfz, _, rfl, x, _, dx, _, _, _, _, rfl, slt_same hx s3, px.cl.sf, c2, rfl, _, rfl, p, _, rfl, hp, ?_⟩
      rw [sv_ev ht]
      exact q _ s3
def sp_Form_at (K : PySem.W.Frag) : Sp := fun vs H Q _ => ∃ (x a nt : Addr) (p : Int) (n : Nat) (t : T) (u v : Int), vs = [.ref x, .ref nt] ∧ Fo K H x 2 p a t ∧ Tp H nt [u, v] ∧ Pm p ∧ n ≤ 6 ∧ Ht 2 (n : Int) t ∧ t ≠ [] ∧ (-100 ≤ u ∧ u ≤ 100) ∧ (-100 ≤ v ∧ v ≤ 100) ∧ (p ≠ 0 → (0 ≤ u ∧ u < p) ∧ (0 ≤ v ∧ v < p)) ∧
  ∀ H', Same H H' → Q (.int (low p (ev (gt t) n u v))) H'
theorem sc_Form_at : FnScope ["self", "numbers", "one"] ["self", "numbers"] (defScope m_Form_at) := ⟨rfl, rfl, rfl, by decide +kernel, rfl, by decide +kernel, by decide +kernel⟩
/- self 0 numbers 1 one 2 -/
theorem w_Form_at (px : Px K mg) : FnR P w K mg base CX0 3 (d_Form_at.at_ K) (sp_Form_at K) ∧ PySem.W.keepIn K (.ref (d_Form_at.at_ K)) = true := by
  refine px.R 26 rfl rfl rfl sc_Form_at (fun vs H Q E ⟨_, _, _, _, _, _, _, _, e, _⟩ => by rw [e]; rfl) (fun _ _ _ _ _ _ us hl => match us, hl with | [_, _], _ => rfl) (fun cdv A outer s H vs Q E hr h => ⟨_, (pss_cons (ps_if (PW.pt (pw_or (pt_not (pt_val (pe_callB call_isi rfl (px.f "isinstance" (by simp [freeL])) bo_isi (pa_cons (pv 1) (pa_cons (pe_bltn (v := .ty "tuple") rfl (px.f "tuple" (by simp [freeL])) bo_tuple rfl) pa_nil))))) (pw_or1 (pt_cmpR op_ne (pe_callB call_len_seq rfl (px.f "len" (by simp [freeL])) bo_len (pa_cons (pv 1) pa_nil)) (SlX.pe_sl (pv 0)) (nomark _))))) pss_never pss_nil) (pss_cons (ps_if (pt_not (pt_val (pe_callB (cr_all rfl) rfl (px.f "all" (by simp [freeL])) bo_all (pa_cons (pe_lc (own := [("one", 2)]) (te := tCR sp_is_number_of2 E0 (tCons (SlX.tSl K (tVar 0) "own_prime") (tCons (tVar 2) tNil))) rfl sc_Form_at.nd (pi_tup (pv 1)) (blkOk_by (own := [("one", 2)]) (N := ["self", "numbers", "one"]) (sc := (defScope m_Form_at)) (by decide +kernel)) (fun _ _ _ _ _ => (pg_name (i := 2) sc_Form_at.nd rfl (Or.inl rfl))) (fun _ _ _ _ _ => pts_nil) (fun _ _ _ _ _ => (pe_cR (w_is_number_of2 px) (hr.mono (by decide)) (px.g "is_number_of" (by simp [gloL])) pass0 (pa_cons (SlX.pe_sl (pv 0)) (pa_cons (pv 2) pa_nil))))) pa_nil)))) pss_never pss_nil) (pss_one (ps_ret (pe_cR (w_value_at px) (hr.mono (by decide)) (px.g "value_at" (by simp [gloL])) pass0 (pa_cons (pv 0) (pa_cons (pv 1) pa_nil))))))), ?_⟩)
  obtain ⟨x, a, nt, p, n, t, u, v, rfl, ⟨dx, hx, ha⟩, hnt, hp, hn, ht, tne, hu, hv, hin, q⟩ := h
  obtain ⟨r1, c1⟩ := px.cl.fl
  obtain ⟨r2, c2⟩ := px.cl.fp
  refine ⟨_, rfl, _, _, _, _, true, rfl, .ty _, .base (.tup hnt), by first | rfl | (with_unfolding_all rfl) | decide +kernel, true, rfl, ifF rfl ?_⟩
  refine ⟨_, rfl, nt, _, rfl, .inr (SqT.of hnt), _, rfl, x, _, dx, _, _, _, _, rfl, hx, px.cl.sf, c1, rfl, rfl, _, rfl, ifF (by simp [eqV]) ?_⟩
  refine ⟨_, rfl, nt, rfl, ⟨_, SqT.of hnt⟩, fun D hD => ?_⟩
  refine lcS (walk_tup (K := K) (a := nt) (xs := [u, v].map V.int)) (fun _ => .bl true) (fun _ => true) (by show 2 ≤ sizeLine; decide) hD (fun H' sm => SqT.of (sm _ _ hnt)) ?_ ?_
  · rintro i xi H1 H2 R R0 hi sm ⟨rfl, hxi⟩ kt kf
    rw [List.getElem?_map] at hxi
    obtain ⟨z, hz, rfl⟩ := Option.map_eq_some_iff.mp hxi
    have hzm := List.mem_of_getElem? hz
    have hzb : (p ≠ 0 → 0 ≤ z ∧ z < p) ∧ (-100 ≤ z ∧ z ≤ 100) := by
      rcases List.mem_cons.mp hzm with rfl | hzm
      · exact ⟨fun h => (hin h).1, hu⟩
      · rw [List.mem_singleton.mp hzm]; exact ⟨fun h => (hin h).2, hv⟩
    exact ⟨rfl, yesT ⟨_, rfl, x, _, dx, _, _, _, _, rfl, slt_same hx sm, px.cl.sf, c2, rfl, _, rfl, p, z, 10 ^ 60, rfl, hzb.1, fun _ => ⟨by omega, by omega⟩, kt rfl _ _ rfl (Same.refl _)⟩⟩
  · intro H1 sm hD1
    refine ⟨D, [true, true], rfl, SqL.of hD1, _, rfl, ifF rfl ?_⟩
    exact ⟨_, rfl, _, rfl, x, a, nt, p, n, t, u, v, rfl, fo_same ⟨dx, hx, ha⟩ sm, sm _ _ hnt, hp, hn, ht, tne, hu, hv, fun H' s2 => q H' (Same.trans sm s2)⟩
end
end Tg
end
section
set_option Elab.async false
set_option autoImplicit false
set_option linter.all false
set_option maxRecDepth 100000
set_option maxHeartbeats 4000000
set_option pp.maxSteps 600
/-! The law's draws. -/
namespace Tg
open PySem PySem.Spec PyProof.Rows L2 RZ
/-- a bag -/
def Bg (H : Hp) (g : Addr) : Prop := ∃ a b c : Int, H g = some (.lst [.int a, .int b, .int c])
/-- the bag may change, all else stays -/
structure KB (g : Addr) (H H' : Hp) : Prop where
  b : Bg H g
  b' : Bg H' g
  k : But g H H'
theorem KB.refl {g : Addr} {H : Hp} (h : Bg H g) : KB g H H := ⟨h, h, But.refl _ _⟩
theorem KB.trans {g : Addr} {H H1 H2 : Hp} (a : KB g H H1) (b : KB g H1 H2) : KB g H H2 := ⟨a.b, b.b', a.k.trans b.k⟩
theorem KB.of {g : Addr} {H H' : Hp} (s : Same H H') (h : Bg H g) : KB g H H' := ⟨h, by obtain ⟨a, b, c, e⟩ := h; exact ⟨a, b, c, s _ _ e⟩, fun b o _ e => s b o e⟩
theorem KB.set {g : Addr} {H : Hp} (h : Bg H g) (a b c : Int) : KB g H (upd H g (.lst [.int a, .int b, .int c])) := ⟨h, ⟨a, b, c, upd_same⟩, But.upd⟩
/-- what is no list stays -/
theorem KB.get {g : Addr} {H H' : Hp} (s : KB g H H') {a : Addr} {o : HO} (h : H a = some o) (n : ∀ xs, o ≠ .lst xs) : H' a = some o := by
  obtain ⟨x, y, z, e⟩ := s.b
  exact s.k a o (ne_of h e (n _)) h
theorem KB.tb {g : Addr} {H H' : Hp} (s : KB g H H') {a : Addr} {t : T} (h : Tb H a t) : Tb H' a t := s.get h (fun _ z => nomatch z)
theorem KB.tp {g : Addr} {H H' : Hp} (s : KB g H H') {a : Addr} {k : K} (h : Tp H a k) : Tp H' a k := s.get h (fun _ z => nomatch z)
theorem KB.slt {g : Addr} {H H' : Hp} (s : KB g H H') {a C dx : Addr} {vs : List (Option V)} (h : SlX.Slt H a C dx vs) : SlX.Slt H' a C dx vs :=
  h.elim (fun z => .inl ⟨s.get z.1 (fun _ z => nomatch z), z.2⟩) fun z => .inr ⟨s.get z.1 (fun _ z => by unfold SlX.SlO at z; cases z), s.get z.2 (fun _ z => nomatch z)⟩
theorem KB.fo {K : PySem.W.Frag} {g : Addr} {H H' : Hp} (s : KB g H H') {x a : Addr} {L : Nat} {p : Int} {t : T} (h : Fo K H x L p a t) : Fo K H' x L p a t := by
  obtain ⟨dx, h1, h2⟩ := h
  exact ⟨dx, s.slt h1, s.tb h2⟩
section
variable {P : Program} {w : World} {K : PySem.W.Frag} {mg : Str → Option Value} {base : Heap}
def sp_law_grab : Sp := fun vs H Q _ => ∃ (g : Addr) (n : Int), vs = [.ref g, .int n] ∧ 0 < n ∧ n < 2 ^ 62 ∧ Bg H g ∧ ∀ H' r, KB g H H' → 0 ≤ r → r < n → Q (.int r) H'
theorem sc_law_grab : FnScope ["_law_bag_here", "_law_total", "_law_found", "_law_one", "_law_two"] ["_law_bag_here", "_law_total"] (defScope s_law_grab) := ⟨rfl, rfl, rfl, by decide +kernel, rfl, by decide +kernel, by decide +kernel⟩
/- _law_bag_here 0 _law_total 1 _law_found 2 _law_one 3 _law_two 4 -/
theorem w_law_grab (px : Px K mg) : FnR P w K mg base CX0 1 (d_law_grab.at_ K) sp_law_grab ∧ PySem.W.keepIn K (.ref (d_law_grab.at_ K)) = true := by
  refine px.R 37 rfl rfl rfl sc_law_grab (fun vs H Q E ⟨_, _, e, _⟩ => by rw [e]; rfl) (fun _ _ _ _ _ _ us hl => match us, hl with | [_, _], _ => rfl) (fun cdv A outer s H vs Q E hr h => ⟨_, (pss_cons (ps_if (pt_cmpR op_gt (pe_ix ix_list (pv 0) pe_int (fun _ _ => rfl)) pe_int (nomark _)) (pss_cons (ps_set (i := 2) sc_law_grab.nd rfl (Or.inl rfl) (pe_op op_modN (pe_callTy call_int1 rfl (px.f "int" (by simp [freeL])) bo_int (pa_cons (pe_ix ix_list (pv 0) pe_int (fun _ _ => rfl)) pa_nil)) (pv 1))) (pss_cons (ps_asg (pe_op op_fdivL (pe_ix ix_list (pv 0) pe_int (fun _ _ => rfl)) (pv 1)) (pg_sub (pv 0) pe_int set_list)) (pss_one (ps_ret (pv 2))))) pss_nil) (pss_cons (ps_asg (pe_op op_add (pe_ix ix_list (pv 0) pe_int (fun _ _ => rfl)) pe_int) (pg_sub (pv 0) pe_int set_list)) (pss_cons (ps_set (i := 3) sc_law_grab.nd rfl (Or.inl rfl) (pe_op op_modN (pe_callTy call_int1 rfl (px.f "int" (by simp [freeL])) bo_int (pa_cons (pe_op op_add (pe_ix ix_list (pv 0) pe_int (fun _ _ => rfl)) (pe_op op_mul pe_int (pe_ix ix_list (pv 0) pe_int (fun _ _ => rfl)))) pa_nil)) pe_int)) (pss_cons (ps_set (i := 4) sc_law_grab.nd rfl (Or.inl rfl) (pe_op op_add (pe_op op_mul (pe_op op_modN (pe_callTy call_int1 rfl (px.f "int" (by simp [freeL])) bo_int (pa_cons (pe_op op_mul (pv 3) (pv 3)) pa_nil)) pe_int) (pv 3)) (pe_op op_mul pe_int (pe_ix ix_list (pv 0) pe_int (fun _ _ => rfl))))) (pss_one (ps_ret (pe_op op_modN (pe_callTy call_int1 rfl (px.f "int" (by simp [freeL])) bo_int (pa_cons (pe_op op_fdivL (pe_op op_modN (pe_callTy call_int1 rfl (px.f "int" (by simp [freeL])) bo_int (pa_cons (pv 4) pa_nil)) pe_int) pe_int) pa_nil)) (pv 1)))))))), ?_⟩)
  obtain ⟨g, n, rfl, h0, h1, ⟨a, b, c, hg⟩, q⟩ := h
  refine ⟨_, rfl, g, _, 0, _, rfl, rfl, SqL.of hg, rfl, _, _, rfl, rfl, _, rfl, ?_⟩
  by_cases ha : 0 < a
  · refine ifT (decide_eq_true ha) ?_
    refine ⟨_, rfl, g, _, 0, _, rfl, rfl, SqL.of hg, rfl, .inl ⟨_, rfl, _, rfl, _, _, rfl, rfl, by omega, ?_⟩⟩
    refine ⟨_, rfl, g, _, 0, _, rfl, rfl, SqL.of hg, rfl, _, rfl, _, _, rfl, rfl, ⟨by omega, by omega⟩, _, rfl, g, _, 0, 0, rfl, rfl, hg, rfl, _, rfl, ?_⟩
    refine toQ (by show V.int (a.fmod n) = _; rw [fmod_pos h0]) (q _ (a % n) (KB.set ⟨a, b, c, hg⟩ (a.fdiv n) b c) (Int.emod_nonneg _ (by omega)) (Int.emod_lt_of_pos _ h0))
  · refine ifF (decide_eq_false ha) ?_
    refine ⟨_, rfl, g, _, 2, _, rfl, rfl, SqL.of hg, rfl, _, _, rfl, rfl, _, rfl, g, _, 2, 2, rfl, rfl, hg, rfl, ?_⟩
    have hg2 : upd H g (.lst [.int a, .int b, .int (c + 1)]) g = some (.lst [.int a, .int b, .int (c + 1)]) := upd_same
    have kb : KB g H (upd H g (.lst [.int a, .int b, .int (c + 1)])) := KB.set ⟨a, b, c, hg⟩ a b (c + 1)
    have ho : ∀ z : Int, -(2 ^ 64) < z.fmod 2305843009213693951 ∧ z.fmod 2305843009213693951 < 2 ^ 64 := fun z => by
      rw [fmod_pos (by decide)]
      have h3 := Int.emod_nonneg z (b := 2305843009213693951) (by decide)
      have h4 := Int.emod_lt_of_pos z (b := 2305843009213693951) (by decide)
      omega
    have m1 : CMul 1048627 (c + 1) := .inl ⟨by decide, by decide⟩
    have m2 : CMul 8147 (c + 1) := .inl ⟨by decide, by decide⟩
    have nz1 : (2305843009213693951 : Int) ≠ 0 := by decide
    have nz2 : (2305843009213693723 : Int) ≠ 0 := by decide
    have nz3 : (2305843009213693921 : Int) ≠ 0 := by decide
    have nz4 : (16384 : Int) ≠ 0 ∧ (16384 : Int).natAbs < 2 ^ 80 := by decide
    refine ⟨_, rfl, g, _, 1, _, rfl, rfl, SqL.of hg2, rfl, _, rfl, g, _, 2, _, rfl, rfl, SqL.of hg2, rfl, _, _, rfl, rfl, m1, _, _, rfl, rfl, .inl ⟨_, rfl, _, _, rfl, rfl, nz1, ?_⟩⟩
    refine ⟨_, rfl, _, rfl, _, _, rfl, rfl, .inl (ho _), .inl ⟨_, rfl, _, _, rfl, rfl, nz2, _, rfl, _, _, rfl, rfl, .inr (ho _), _, rfl, g, _, 2, _, rfl, rfl, SqL.of hg2, rfl, _, _, rfl, rfl, m2, _, _, rfl, rfl, ?_⟩⟩
    refine ⟨_, rfl, .inl ⟨_, rfl, _, _, rfl, rfl, nz3, _, _, rfl, rfl, nz4, .inl ⟨_, rfl, _, rfl, _, _, rfl, rfl, by omega, ?_⟩⟩⟩
    refine toQ (b := .int (_ % n)) (by show V.int (Int.fmod _ n) = _; rw [fmod_pos h0]) (q _ _ kb (Int.emod_nonneg _ (by omega)) (Int.emod_lt_of_pos _ h0))
def sp_law_one_of (K : PySem.W.Frag) : Sp := fun vs H Q _ => ∃ (g l : Addr) (xs : List V), vs = [.ref g, .ref l] ∧ H l = some (.lst xs) ∧ l ≠ g ∧ xs ≠ [] ∧ xs.length < sizeLine ∧ Bg H g ∧ ∀ H' y, KB g H H' → y ∈ xs → Q y H'
theorem sc_law_one_of : FnScope ["_law_bag_here", "_law_items"] ["_law_bag_here", "_law_items"] (defScope s_law_one_of) := ⟨rfl, rfl, rfl, by decide +kernel, rfl, by decide +kernel, by decide +kernel⟩
theorem w_law_one_of (px : Px K mg) : FnR P w K mg base CX0 2 (d_law_one_of.at_ K) (sp_law_one_of K) ∧ PySem.W.keepIn K (.ref (d_law_one_of.at_ K)) = true := by
  refine px.R 38 rfl rfl rfl sc_law_one_of (fun vs H Q E ⟨_, _, _, e, _⟩ => by rw [e]; rfl) (fun _ _ _ _ _ _ us hl => match us, hl with | [_, _], _ => rfl) (fun cdv A outer s H vs Q E hr h => ⟨_, (pss_one (ps_ret (pe_ix ix_list (pv 1) (pe_cR (w_law_grab px) (hr.mono (by decide)) (px.g "_law_grab" (by simp [gloL])) pass0 (pa_cons (pv 0) (pa_cons (pe_callB call_len_seq rfl (px.f "len" (by simp [freeL])) bo_len (pa_cons (pv 1) pa_nil)) pa_nil))) (fun _ _ => rfl)))), ?_⟩)
  obtain ⟨g, l, xs, rfl, hl, hne, hx, hz, hb, q⟩ := h
  have sz : sizeLine < 2 ^ 62 := by rw [sizeLine_eq]; decide
  have hpos : 0 < xs.length := List.length_pos_iff.mpr hx
  refine ⟨_, rfl, _, rfl, _, rfl, l, xs, rfl, .inl (SqL.of hl), g, xs.length, rfl, by omega, by omega, hb, fun H' r kb h0 h1 => ?_⟩
  obtain ⟨j, rfl⟩ := Int.eq_ofNat_of_zero_le h0
  have hj : j < xs.length := by omega
  exact ⟨l, xs, _, xs[j], rfl, rfl, SqL.of (kb.k _ _ hne hl), atI_nat (List.getElem?_eq_getElem hj), q H' _ kb (List.getElem_mem hj)⟩
def sp_law_prime : Sp := fun vs H Q _ => ∃ (g : Addr), vs = [.ref g] ∧ Bg H g ∧ ∀ H' p, KB g H H' → Pm p → Q (.int p) H'
theorem sc_law_prime : FnScope ["_law_bag_here"] ["_law_bag_here"] (defScope s_law_prime) := ⟨rfl, rfl, rfl, by decide +kernel, rfl, by decide +kernel, by decide +kernel⟩
theorem w_law_prime (px : Px K mg) : FnR P w K mg base CX0 3 (d_law_prime.at_ K) sp_law_prime ∧ PySem.W.keepIn K (.ref (d_law_prime.at_ K)) = true := by
  refine px.R 39 rfl rfl rfl sc_law_prime (fun vs H Q E ⟨_, e, _⟩ => by rw [e]; rfl) (fun _ _ _ _ _ _ us hl => match us, hl with | [_], _ => rfl) (fun cdv A outer s H vs Q E hr h => ⟨_, (pss_one (ps_ret (pe_cR (w_law_one_of px) (hr.mono (by decide)) (px.g "_law_one_of" (by simp [gloL])) pass0 (pa_cons (pv 0) (pa_cons (pe_lst (pa_cons pe_int (pa_cons pe_int (pa_cons pe_int (pa_cons pe_int (pa_cons pe_int (pa_cons pe_int (pa_cons pe_int (pa_cons pe_int (pa_cons pe_int (pa_cons pe_int pa_nil))))))))))) pa_nil))))), ?_⟩)
  obtain ⟨g, rfl, hb, q⟩ := h
  refine ⟨_, rfl, by show 10 ≤ sizeLine; decide, fun l hl => ?_⟩
  have hne : l ≠ g := fun z => by
    obtain ⟨a, b, c, e⟩ := hb
    rw [z, e] at hl; cases hl
  have kb0 := KB.of (sm_new (o := .lst [.int 0, .int 0, .int 0, .int 2, .int 3, .int 5, .int 7, .int 0, .int 11, .int 0]) hl) hb
  refine ⟨g, l, _, rfl, upd_same, hne, by simp, by show 10 < sizeLine; decide, kb0.b', fun H' y kb hy => ?_⟩
  have hp : ∃ p, y = .int p ∧ Pm p := by
    simp only [List.mem_cons, List.not_mem_nil, or_false] at hy
    unfold Pm
    rcases hy with rfl | rfl | rfl | rfl | rfl | rfl | rfl | rfl | rfl | rfl <;> exact ⟨_, rfl, by decide⟩
  obtain ⟨p, rfl, hp⟩ := hp
  exact q H' p (kb0.trans kb) hp
def sp_law_low : Sp := fun vs H Q _ => ∃ p n : Int, vs = [.int p, .int n] ∧ Pm p ∧ Q (.int (low p n)) H
theorem sc_law_low : FnScope ["_law_prime_here", "_law_number"] ["_law_prime_here", "_law_number"] (defScope s_law_low) := ⟨rfl, rfl, rfl, by decide +kernel, rfl, by decide +kernel, by decide +kernel⟩
theorem w_law_low (px : Px K mg) : FnR P w K mg base CX0 1 (d_law_low.at_ K) sp_law_low ∧ PySem.W.keepIn K (.ref (d_law_low.at_ K)) = true := by
  refine px.R 40 rfl rfl rfl sc_law_low (fun vs H Q E ⟨_, _, e, _⟩ => by rw [e]; rfl) (fun _ _ _ _ _ _ us hl => match us, hl with | [_, _], _ => rfl) (fun cdv A outer s H vs Q E hr h => ⟨_, (pss_one (ps_ret (pe_ifExp (pt_cmpR op_eq (pv 0) pe_int (nomark _)) (pe_callTy call_int1 rfl (px.f "int" (by simp [freeL])) bo_int (pa_cons (pv 1) pa_nil)) (pe_op op_modN (pe_callTy call_int1 rfl (px.f "int" (by simp [freeL])) bo_int (pa_cons (pv 1) pa_nil)) (pv 0))))), ?_⟩)
  obtain ⟨p, n, rfl, hp, q⟩ := h
  refine ⟨_, rfl, rfl, _, rfl, ?_⟩
  by_cases h0 : p = 0
  · refine ifT (by simp [h0]) ⟨_, rfl, .inl ⟨_, rfl, ?_⟩⟩
    rw [h0, low0] at q; exact q
  · refine ifF (by simp [h0]) ⟨_, rfl, .inl ⟨_, rfl, _, rfl, _, _, rfl, rfl, h0, ?_⟩⟩
    have := hp.nn
    exact toQ (by show V.int (n.fmod p) = _; rw [fmod_pos (by omega), lowp h0]) q
theorem if_int {c : Bool} {ta tb : TE} {σ : L2.St} {H : Hp} {Q : VK} (ha : c = true → ∀ Q' : VK, (∀ n H1, Same H H1 → Q' (.int n) H1) → ta σ H Q') (hb : c = false → ∀ Q' : VK, (∀ n H1, Same H H1 → Q' (.int n) H1) → tb σ H Q')
    (hq : ∀ n H1, Same H H1 → Q (.int n) H1) : if c = true then ta σ H Q else tb σ H Q := by
  cases c with
  | true => exact ifT rfl (ha rfl Q hq)
  | false => exact ifF rfl (hb rfl Q hq)
theorem pow_a : (0 : Int) ≤ 45 ∧ (Builtin.Int.intBits 10 : Int) * 45 ≤ 2 ^ 27 := by decide +kernel
theorem pow_b : (0 : Int) ≤ 13 ∧ (Builtin.Int.intBits ((10 : Int) ^ (45 : Int).toNat) : Int) * 13 ≤ 2 ^ 27 := by decide +kernel
theorem pow_c : (0 : Int) ≤ 18 ∧ (Builtin.Int.intBits 10 : Int) * 18 ≤ 2 ^ 27 := by decide +kernel
theorem pow_d : ((10 : Int) ^ (45 : Int).toNat) ^ (13 : Int).toNat ≠ 0 := by decide +kernel
def sp_law_bag (K : PySem.W.Frag) : Sp := fun vs H Q _ => ∃ (l : Addr) (ns : List Int) (i : Nat), vs = [.ref l, .int i] ∧ SqL K H l (ns.map V.int) ∧ i < 3 ∧ ∀ H' g, Same H H' → H g = none → Bg H' g → Q (.ref g) H'
theorem sc_law_bag : FnScope ["_law_script", "_law_spot", "_law_cell", "_law_great", "_law_mixed"] ["_law_script", "_law_spot"] (defScope s_law_bag) := ⟨rfl, rfl, rfl, by decide +kernel, rfl, by decide +kernel, by decide +kernel⟩
/- _law_script 0 _law_spot 1 _law_cell 2 _law_great 3 _law_mixed 4 -/
theorem w_law_bag (px : Px K mg) : FnR P w K mg base CX0 1 (d_law_bag.at_ K) (sp_law_bag K) ∧ PySem.W.keepIn K (.ref (d_law_bag.at_ K)) = true := by
  refine px.R 36 rfl rfl rfl sc_law_bag (fun vs H Q E ⟨_, _, _, e, _⟩ => by rw [e]; rfl) (fun _ _ _ _ _ _ us hl => match us, hl with | [_, _], _ => rfl) (fun cdv A outer s H vs Q E hr h => ⟨_, (pss_cons (ps_set (i := 2) sc_law_bag.nd rfl (Or.inl rfl) (pe_ifExp (pt_cmpR op_lt (pv 1) (pe_callB call_len_seq rfl (px.f "len" (by simp [freeL])) bo_len (pa_cons (pv 0) pa_nil)) (nomark _)) (pe_ix ix_list (pv 0) (pv 1) (fun _ _ => rfl)) (pe_op op_add (pe_op op_add (pe_callB (cr_sum rfl) rfl (px.f "sum" (by simp [freeL])) bo_sum (pa_cons (pe_slice sl_list (pv 0) po_none (po_some pe_int)) pa_nil)) (pe_op op_mul pe_int (pv 1))) pe_int))) (pss_cons (ps_set (i := 3) sc_law_bag.nd rfl (Or.inl rfl) (pe_op op_modN (pe_callTy call_int1 rfl (px.f "int" (by simp [freeL])) bo_int (pa_cons (pe_callB call_abs rfl (px.f "abs" (by simp [freeL])) bo_abs (pa_cons (pv 2) pa_nil)) pa_nil)) (pe_op op_powL (pe_op op_powL pe_int pe_int) pe_int))) (pss_cons (ps_set (i := 4) sc_law_bag.nd rfl (Or.inl rfl) (pe_op op_add (pe_op op_add (pe_op op_add (pe_op op_mul (pe_op op_modN (pe_callTy call_int1 rfl (px.f "int" (by simp [freeL])) bo_int (pa_cons (pv 3) pa_nil)) pe_int) pe_int) (pe_op op_mul pe_int (pv 1))) (pe_op op_mul pe_int (pe_callTy call_int1 rfl (px.f "int" (by simp [freeL])) bo_int (pa_cons (pe_cmpR op_lt (pv 2) pe_int (nomark _)) pa_nil)))) pe_int)) (pss_one (ps_ret (pe_lst (pa_cons (pe_callB (call_max2 rfl) rfl (px.f "max" (by simp [freeL])) bo_max (pa_cons pe_int (pa_cons (pe_op op_sub (pv 3) (pe_op op_powL pe_int pe_int)) pa_nil))) (pa_cons (pe_op op_modN (pe_callTy call_int1 rfl (px.f "int" (by simp [freeL])) bo_int (pa_cons (pv 4) pa_nil)) pe_int) (pa_cons pe_int pa_nil))))))))), ?_⟩)
  obtain ⟨l, ns, i, rfl, hl, hi, q⟩ := h
  refine ⟨_, rfl, _, rfl, l, _, rfl, .inl hl, _, _, rfl, rfl, _, rfl, if_int (fun hc Q' h => ?_) (fun hc Q' h => ?_) fun cell H1 s1 => ?_⟩
  · have hi2 : i < ns.length := by
      have := of_decide_eq_true hc
      rw [List.length_map] at this; omega
    exact ⟨_, rfl, _, rfl, l, _, _, .int ns[i], rfl, rfl, hl, atI_nat (by simp [hi2]), h _ _ (Same.refl _)⟩
  · refine ⟨_, rfl, 1, rfl, l, _, rfl, hl, fun p hp => ⟨p, ns.take 1, rfl, SqL.of ?_, _, rfl, _, _, rfl, rfl, .inl ⟨by decide, by decide⟩, _, _, rfl, rfl, _, _, rfl, rfl, h _ _ (sm_new hp)⟩⟩
    rw [upd_same]
    congr 2
    cases ns with
    | nil => rfl
    | cons z zs => simp [cutV, HT.sIx]
  · have nz2 : (2305843009213693723 : Int) ≠ 0 := by decide
    have nz1 : (2305843009213693951 : Int) ≠ 0 := by decide
    refine ⟨_, rfl, _, rfl, .inl ⟨_, rfl, _, _, rfl, rfl, pow_a, _, _, rfl, rfl, pow_b, _, _, rfl, rfl, pow_d, ?_⟩⟩
    refine ⟨_, rfl, .inl ⟨_, rfl, _, _, rfl, rfl, nz2, _, _, rfl, rfl, .inr ⟨by decide, by decide⟩, _, rfl, _, _, rfl, rfl, .inl ⟨by decide, by decide⟩, _, _, rfl, rfl, _, rfl, _, _, rfl, rfl, .inr ⟨_, rfl, _, _, rfl, rfl, .inl ⟨by decide, by decide⟩, _, _, rfl, rfl, _, _, rfl, rfl, ?_⟩⟩⟩
    refine ⟨_, rfl, _, _, rfl, rfl, pow_c, _, _, rfl, rfl, _, _, rfl, _, rfl, .inl ⟨_, rfl, _, _, rfl, rfl, nz1, by show 3 ≤ sizeLine; decide, fun g hg => ?_⟩⟩
    exact q _ g (Same.trans s1 (sm_new hg)) (Same.free s1 hg) ⟨_, _, _, upd_same⟩
end
end Tg
end
section
set_option Elab.async false
set_option autoImplicit false
set_option linter.all false
set_option maxRecDepth 100000
set_option maxHeartbeats 4000000
set_option pp.maxSteps 600
/-! The law's numbers. -/
namespace Tg
open PySem PySem.Spec PyProof.Rows L2 RZ
theorem gcd_step {f o : Int} (hf : 0 ≤ f) (ho : 0 ≤ o) : Int.gcd o (f % o) = Int.gcd f o := by
  obtain ⟨a, rfl⟩ := Int.eq_ofNat_of_zero_le hf
  obtain ⟨b, rfl⟩ := Int.eq_ofNat_of_zero_le ho
  have : ((a : Int) % (b : Int)) = ((a % b : Nat) : Int) := by simp
  rw [this]
  show Nat.gcd b (a % b) = Nat.gcd a b
  rw [Nat.gcd_comm a b, Nat.gcd_rec b a, Nat.gcd_comm]
section
variable {P : Program} {w : World} {K : PySem.W.Frag} {mg : Str → Option Value} {base : Heap}
def sp_law_common : Sp := fun vs H Q _ => ∃ (l : Addr) (ns : List Int), vs = [.ref l] ∧ H l = some (.lst (ns.map V.int)) ∧ Q (.int (gl ns)) H
theorem sc_law_common : FnScope ["_law_numbers", "_law_found", "_law_number", "_law_other"] ["_law_numbers"] (defScope s_law_common) := ⟨rfl, rfl, rfl, by decide +kernel, rfl, by decide +kernel, by decide +kernel⟩
/- _law_numbers 0 _law_found 1 _law_number 2 _law_other 3 -/
theorem w_law_common (px : Px K mg) : FnR P w K mg base CX0 1 (d_law_common.at_ K) sp_law_common ∧ PySem.W.keepIn K (.ref (d_law_common.at_ K)) = true := by
  refine px.R 41 rfl rfl rfl sc_law_common (fun vs H Q E ⟨_, _, e, _⟩ => by rw [e]; rfl) (fun _ _ _ _ _ _ us hl => match us, hl with | [_], _ => rfl) (fun cdv A outer s H vs Q E hr h => ⟨_, (pss_cons (ps_set (i := 1) sc_law_common.nd rfl (Or.inl rfl) pe_int) (pss_cons (ps_for PassesOwn.leaving rfl (pi_list (pv 0)) (pg_name (i := 2) sc_law_common.nd rfl (Or.inl rfl)) (pss_cons (ps_set (i := 3) sc_law_common.nd rfl (Or.inl rfl) (pe_callB call_abs rfl (px.f "abs" (by simp [freeL])) bo_abs (pa_cons (pv 2) pa_nil))) (pss_one (ps_while PassesOwn.leaving (pt_cmpR op_gt (pv 3) pe_int (nomark _)) (pss_one (ps_par (i := 1) (j := 3) rfl sc_law_common.nd rfl rfl (by decide) rfl rfl (pa_cons (pv 3) (pa_cons (pe_op op_modN (pv 1) (pv 3)) pa_nil)) (by rfl))))))) (pss_one (ps_ret (pv 1))))), ?_⟩)
  obtain ⟨l, ns, rfl, hl, q⟩ := h
  refine ⟨_, rfl, _, rfl, ⟨_, SqL.of hl⟩, for_list (xs := ns.map V.int) (fun i σ' H' => H' = H ∧ ∃ m m2, σ' = [some (.ref l), some (.int (gl (ns.take i))), m, m2]) ⟨rfl, _, _, rfl⟩ (fun i σ' H' _ p => by rw [p.1]; exact SqL.of hl) ?_ ?_⟩
  · rintro i x σ' H' hx ⟨rfl, m, m2, rfl⟩
    rw [List.getElem?_map] at hx
    obtain ⟨n, hn, rfl⟩ := Option.map_eq_some_iff.mp hx
    have e : gl (ns.take (i + 1)) = ((Int.gcd (gl (ns.take i)) n : Nat) : Int) := by
      rw [List.take_add_one, hn]
      simp only [gl, List.foldl_append, Option.toList, List.foldl_cons, List.foldl_nil]
    refine ⟨_, rfl, n, rfl, ?_⟩
    refine while_by (fun σ' H'' => H'' = H' ∧ ∃ f o : Int, σ' = [some (.ref l), some (.int f), some (.int n), some (.int o)] ∧ 0 ≤ f ∧ 0 ≤ o ∧ Int.gcd f o = Int.gcd (gl (ns.take i)) n) (fun (σ' : L2.St) _ => match σ'[3]? with | some (some (V.int o)) => o.toNat | _ => 0) ⟨rfl, _, _, rfl, gl_nn _, by split <;> omega, by split <;> simp⟩ ?_ ?_
    · rintro σ' H'' ⟨rfl, f, o, rfl, h1, h2, h3⟩
      refine ⟨_, rfl, _, _, rfl, rfl, _, rfl, ?_⟩
      by_cases ho : 0 < o
      · refine ifT (decide_eq_true ho) ⟨_, rfl, _, rfl, _, rfl, _, _, rfl, rfl, by omega, _, _, rfl, ⟨rfl, o, _, rfl, h2, ?_, ?_⟩, ?_⟩
        · show 0 ≤ f.fmod o
          rw [fmod_pos ho]; exact Int.emod_nonneg _ (by omega)
        · show Int.gcd o (f.fmod o) = _
          rw [fmod_pos ho, gcd_step h1 h2, h3]
        · show (f.fmod o).toNat < o.toNat
          rw [fmod_pos ho]
          have := Int.emod_lt_of_pos f ho
          have := Int.emod_nonneg f (b := o) (by omega)
          omega
      · refine ifF (decide_eq_false ho) ⟨rfl, some (.int n), some (.int o), ?_⟩
        have h0 : o = 0 := by omega
        rw [h0, Int.gcd_zero_right] at h3
        have h4 : f = gl (ns.take (i + 1)) := by rw [e, ← h3]; omega
        rw [h4]
    · rintro σ' H' Q1 Q2 hQ ⟨v, e, i, j, e1, e2, c, e3, h⟩
      exact ⟨v, e, i, j, e1, e2, c, e3, hQ _ _ h⟩
  · rintro σ' H' ⟨rfl, m, m2, rfl⟩
    rw [List.length_map, List.take_length]
    exact ⟨_, rfl, q⟩
def sp_law_back : Sp := fun vs H Q _ => ∃ (p n : Int), vs = [.int p, .int n] ∧ Pm p ∧ p ≠ 0 ∧ low p n ≠ 0 ∧ ∀ H' i, Same H H' → IsInv p n i → Q (.int i) H'
theorem sc_law_back : FnScope ["_law_prime_here", "_law_number", "_law_one"] ["_law_prime_here", "_law_number"] (defScope s_law_back) := ⟨rfl, rfl, rfl, by decide +kernel, rfl, by decide +kernel, by decide +kernel⟩
/- _law_prime_here 0 _law_number 1 _law_one 2 -/
theorem w_law_back (px : Px K mg) : FnR P w K mg base CX0 1 (d_law_back.at_ K) sp_law_back ∧ PySem.W.keepIn K (.ref (d_law_back.at_ K)) = true := by
  refine px.R 42 rfl rfl rfl sc_law_back (fun vs H Q E ⟨_, _, e, _⟩ => by rw [e]; rfl) (fun _ _ _ _ _ _ us hl => match us, hl with | [_, _], _ => rfl) (fun cdv A outer s H vs Q E hr h => ⟨_, (pss_one (ps_ret (pe_ix ix_list (pe_lc (own := [("_law_one", 2)]) rfl sc_law_back.nd (pi_range2 rfl (px.f "range" (by simp [freeL])) (pa_cons pe_int (pa_cons (pv 0) pa_nil))) (blkOk_by (own := [("_law_one", 2)]) (N := ["_law_prime_here", "_law_number", "_law_one"]) (sc := (defScope s_law_back)) (by decide +kernel)) (fun _ _ _ _ _ => (pg_name (i := 2) sc_law_back.nd rfl (Or.inl rfl))) (fun _ _ _ _ _ => (pts_one (pt_cmpR op_eq (pe_op op_modN (pe_callTy call_int1 rfl (px.f "int" (by simp [freeL])) bo_int (pa_cons (pe_op op_mul (pv 2) (pv 1)) pa_nil)) (pv 0)) pe_int (nomark _)))) (fun _ _ _ _ _ => (pv 2))) pe_int (fun _ _ => rfl)))), ?_⟩)
  obtain ⟨p, n, rfl, hp, h0, hn, q⟩ := h
  have hp1 : 0 < p := by have := hp.nn; omega
  have hp2 := hp.le
  have sz : (64 : Nat) < sizeLine := by decide
  refine ⟨_, rfl, 1, p, rfl, ⟨by omega, by omega, by omega, by omega⟩, fun D hD => ?_⟩
  refine lcS (walk_range (lo := 1) (n := (p - 1).toNat)) (fun k => .int (1 + k)) (fun k => decide ((1 + (k : Int)) * n % p = 1)) (by omega) hD (fun _ _ => trivial) ?_ ?_
  · rintro k x H1 H2 R R0 hk sm ⟨rfl, rfl⟩ kt kf
    refine ⟨rfl, _, rfl, _, rfl, _, _, rfl, rfl, .inl ⟨by omega, by omega⟩, .inl ⟨_, rfl, _, rfl, _, _, rfl, rfl, h0, rfl, _, rfl, ?_⟩⟩
    have em : (((1 + (k : Int)) * n).fmod p) = (1 + (k : Int)) * n % p := fmod_pos hp1
    by_cases hc : (1 + (k : Int)) * n % p = 1
    · refine ifT ?_ ⟨_, rfl, kt (by simp [hc]) _ _ rfl (Same.refl _)⟩
      show decide (V.int (((1 + (k : Int)) * n).fmod p) = V.int 1) = true
      rw [em, hc]; rfl
    · refine ifF ?_ (kf (by simp [hc]) _ (Same.refl _))
      show decide (V.int (((1 + (k : Int)) * n).fmod p) = V.int 1) = false
      rw [em]; simp [hc]
  · intro H1 sm hD1
    obtain ⟨i, hi, hi0⟩ := inv_ex hp h0 hn
    have hmem : (i - 1).toNat ∈ (List.range (p - 1).toNat).filter fun (k : Nat) => decide ((1 + (k : Int)) * n % p = 1) := by
      rw [List.mem_filter, List.mem_range]
      have h1 := hi.2.1
      refine ⟨by omega, ?_⟩
      have : (1 + ((i - 1).toNat : Int)) = i := by omega
      simp only [this, decide_eq_true_eq]
      exact hi.2.2
    cases hf : (List.range (p - 1).toNat).filter fun (k : Nat) => decide ((1 + (k : Int)) * n % p = 1) with
    | nil => rw [hf] at hmem; cases hmem
    | cons k ks =>
      rw [hf] at hD1
      have hk : k ∈ (List.range (p - 1).toNat).filter fun (k : Nat) => decide ((1 + (k : Int)) * n % p = 1) := by rw [hf]; exact List.mem_cons_self
      rw [List.mem_filter, List.mem_range] at hk
      refine ⟨D, _, 0, .int (1 + k), rfl, rfl, SqL.of hD1, atI_nat (j := 0) rfl, q _ _ sm ⟨by omega, by omega, ?_⟩⟩
      simpa using hk.2
end
end Tg
end
section
set_option Elab.async false
set_option autoImplicit false
set_option linter.all false
set_option maxRecDepth 100000
set_option maxHeartbeats 4000000
set_option pp.maxSteps 600
/-! The law's numbers, terms. -/
namespace Tg
open PySem PySem.Spec PyProof.Rows L2 RZ
theorem ints_lay : ∀ ns : List Int, PyData.canLayAll0 (ns.map PyData.int) = true
  | [] => rfl
  | n :: ns => by
    show (PyData.canLay0 (.int n) && PyData.canLayAll0 (ns.map PyData.int)) = true
    rw [ints_lay ns]; rfl
theorem ints_depth : ∀ ns : List Int, PyData.depthAll (ns.map PyData.int) ≤ 1
  | [] => by decide
  | n :: ns => by
    show max (PyData.depth (.int n)) (PyData.depthAll (ns.map PyData.int)) ≤ 1
    exact Nat.max_le.mpr ⟨by simp [PyData.depth], ints_depth ns⟩
theorem ints_shaped (ns : List Int) : SeqAt.shaped (.list (ns.map PyData.int)) = true := by
  unfold SeqAt.shaped
  rw [Bool.and_eq_true_iff]
  refine ⟨?_, ?_⟩
  · show PyData.canLayAll0 (ns.map PyData.int) = true
    exact ints_lay ns
  · have := ints_depth ns
    refine decide_eq_true ?_
    show PyData.depthAll (ns.map PyData.int) + 1 ≤ 64
    omega
theorem dp_ints {K : PySem.W.Frag} {H : Hp} : ∀ ns : List Int, DpAll K H (ns.map V.int) (ns.map PyData.int)
  | [] => .nil
  | n :: ns => .cons (.int n) (dp_ints ns)
section
variable {P : Program} {w : World} {K : PySem.W.Frag} {mg : Str → Option Value} {base : Heap}
def sp_law_normal (K : PySem.W.Frag) : Sp := fun vs H Q _ => ∃ (p : Int) (l : Addr) (ns : List Int), vs = [.int p, .ref l] ∧ Pm p ∧ H l = some (.lst (ns.map V.int)) ∧ Rn p ns ∧ (∀ n ∈ ns, n.natAbs < 2 ^ 80) ∧ ns.length < sizeLine ∧ ∀ r H' ms, Same H H' → H' r = some (.tup (ms.map V.int)) → Nr p ns ms → Q (.ref r) H'
theorem sc_law_normal : FnScope ["_law_prime_here", "_law_row", "_law_told_here", "_law_number", "_law_first", "_law_factor", "_law_common_here"] ["_law_prime_here", "_law_row"] (defScope s_law_normal) := ⟨rfl, rfl, rfl, by decide +kernel, rfl, by decide +kernel, by decide +kernel⟩
/- _law_prime_here 0 _law_row 1 _law_told_here 2 _law_number 3 _law_first 4 _law_factor 5 _law_common_here 6 -/
theorem w_law_normal (px : Px K mg) : FnR P w K mg base CX0 2 (d_law_normal.at_ K) (sp_law_normal K) ∧ PySem.W.keepIn K (.ref (d_law_normal.at_ K)) = true := by
  refine px.R 43 rfl rfl rfl sc_law_normal (fun vs H Q E ⟨_, _, _, e, _⟩ => by rw [e]; rfl) (fun _ _ _ _ _ _ us hl => match us, hl with | [_, _], _ => rfl) (fun cdv A outer s H vs Q E hr h => ⟨_, (pss_cons (ps_setLc (i := 2) (own := [("_law_number", 3)]) rfl sc_law_normal.nd rfl rfl (sw_true rfl rfl rfl (by decide +kernel)) (pi_list (pv 1)) (blkOk_by (own := [("_law_number", 3)]) (N := ["_law_prime_here", "_law_row", "_law_told_here", "_law_number", "_law_first", "_law_factor", "_law_common_here"]) (sc := (defScope s_law_normal)) (by decide +kernel)) (fun _ _ _ _ _ => (pg_name (i := 3) sc_law_normal.nd rfl (Or.inl rfl))) (fun _ _ _ _ _ => pts_nil) (fun _ _ _ _ _ => (pe_cR (w_law_low px) (hr.mono (by decide)) (px.g "_law_low" (by simp [gloL])) pass0 (pa_cons (pv 0) (pa_cons (pv 3) pa_nil))))) (pss_cons (ps_setLc (i := 4) (own := [("_law_number", 3)]) rfl sc_law_normal.nd rfl rfl (sw_true rfl rfl rfl (by decide +kernel)) (pi_list (pv 2)) (blkOk_by (own := [("_law_number", 3)]) (N := ["_law_prime_here", "_law_row", "_law_told_here", "_law_number", "_law_first", "_law_factor", "_law_common_here"]) (sc := (defScope s_law_normal)) (by decide +kernel)) (fun _ _ _ _ _ => (pg_name (i := 3) sc_law_normal.nd rfl (Or.inl rfl))) (fun _ _ _ _ _ => (pts_one (pt_cmpR op_ne (pv 3) pe_int (nomark _)))) (fun _ _ _ _ _ => (pv 3))) (pss_cons (ps_if (pt_cmpR (op_eqD hr.units) (pv 4) (pe_lst pa_nil) (nomark _)) (pss_one (ps_ret (pe_tupleOf rfl (px.f "tuple" (by simp [freeL])) (pv 2)))) pss_nil) (pss_cons (ps_if (pt_cmpR op_ne (pv 0) pe_int (nomark _)) (pss_cons (ps_set (i := 5) sc_law_normal.nd rfl (Or.inr rfl) (pe_cR (w_law_back px) (hr.mono (by decide)) (px.g "_law_back" (by simp [gloL])) pass0 (pa_cons (pv 0) (pa_cons (pe_ix ix_list (pv 4) pe_int (fun _ _ => rfl)) pa_nil)))) (pss_one (ps_ret (pe_tupleOf rfl (px.f "tuple" (by simp [freeL])) (pe_lc (own := [("_law_number", 3)]) rfl sc_law_normal.nd (pi_list (pv 2)) (blkOk_by (own := [("_law_number", 3)]) (N := ["_law_prime_here", "_law_row", "_law_told_here", "_law_number", "_law_first", "_law_factor", "_law_common_here"]) (sc := (defScope s_law_normal)) (by decide +kernel)) (fun _ _ _ _ _ => (pg_name (i := 3) sc_law_normal.nd rfl (Or.inl rfl))) (fun _ _ _ _ _ => pts_nil) (fun _ _ _ _ _ => (pe_op op_modN (pe_callTy call_int1 rfl (px.f "int" (by simp [freeL])) bo_int (pa_cons (pe_op op_mul (pv 3) (pv 5)) pa_nil)) (pv 0)))))))) pss_nil) (pss_cons (ps_set (i := 6) sc_law_normal.nd rfl (Or.inr rfl) (pe_cR (w_law_common px) (hr.mono (by decide)) (px.g "_law_common" (by simp [gloL])) pass0 (pa_cons (pv 2) pa_nil))) (pss_cons (ps_set (i := 6) sc_law_normal.nd rfl (Or.inr rfl) (pe_ifExp (pt_cmpR op_gt (pe_ix ix_list (pv 4) pe_int (fun _ _ => rfl)) pe_int (nomark _)) (pv 6) (pe_un un_neg (pv 6)))) (pss_one (ps_ret (pe_tupleOf rfl (px.f "tuple" (by simp [freeL])) (pe_lc (own := [("_law_number", 3)]) rfl sc_law_normal.nd (pi_list (pv 2)) (blkOk_by (own := [("_law_number", 3)]) (N := ["_law_prime_here", "_law_row", "_law_told_here", "_law_number", "_law_first", "_law_factor", "_law_common_here"]) (sc := (defScope s_law_normal)) (by decide +kernel)) (fun _ _ _ _ _ => (pg_name (i := 3) sc_law_normal.nd rfl (Or.inl rfl))) (fun _ _ _ _ _ => pts_nil) (fun _ _ _ _ _ => (pe_op op_fdivL (pv 3) (pv 6))))))))))))), ?_⟩)
  obtain ⟨p, l, ns, rfl, hp, hl, rn, hb, hz, q⟩ := h
  refine ⟨_, rfl, _, rfl, ⟨_, SqL.of hl⟩, fun D hD => ?_⟩
  refine lcS (walk_list (K := K) (a := l) (xs := ns.map V.int)) (fun i => .int (ns.getD i 0)) (fun _ => true) (by rw [List.length_map]; omega) hD (fun H' sm => SqL.of (sm _ _ hl)) ?_ ?_
  · rintro i x H1 H2 R R0 hi sm ⟨rfl, hx⟩ kt kf
    rw [List.getElem?_map] at hx
    obtain ⟨n, hn, rfl⟩ := Option.map_eq_some_iff.mp hx
    exact ⟨rfl, yesT ⟨_, rfl, _, rfl, _, _, rfl, hp, kt rfl _ _ (by rw [get_D hn, (rn n (List.mem_of_getElem? hn)).1]) (Same.refl _)⟩⟩
  intro H1 sm1 hD1
  rw [List.length_map, filt_true, map_get ns 0 V.int] at hD1
  refine ⟨_, rfl, _, rfl, ⟨_, SqL.of hD1⟩, fun D2 hD2 => ?_⟩
  refine lcS (walk_list (K := K) (a := D) (xs := ns.map V.int)) (fun i => .int (ns.getD i 0)) (fun _ => true) (by rw [List.length_map]; omega) hD2 (fun H' sm => SqL.of (sm _ _ hD1)) ?_ ?_
  · rintro i x H2 H3 R R0 hi sm ⟨rfl, hx⟩ kt kf
    rw [List.getElem?_map] at hx
    obtain ⟨n, hn, rfl⟩ := Option.map_eq_some_iff.mp hx
    have hn0 : n ≠ 0 := (rn n (List.mem_of_getElem? hn)).2
    exact ⟨rfl, _, rfl, rfl, _, rfl, ifT (by simp [eqV, hn0]) ⟨_, rfl, kt rfl _ _ (by rw [get_D hn]) (Same.refl _)⟩⟩
  intro H2 sm2 hF
  rw [List.length_map, filt_true, map_get ns 0 V.int] at hF
  have hD3 := sm2 _ _ hD1
  have sm3 := Same.trans sm1 sm2
  refine ⟨_, rfl, by show 0 ≤ sizeLine; omega, fun e he => ?_⟩
  have hF2 : upd H2 e (.lst []) D2 = some (.lst (ns.map V.int)) := sm_new he _ _ hF
  have hD4 : upd H2 e (.lst []) D = some (.lst (ns.map V.int)) := sm_new he _ _ hD3
  have sm4 : Same H (upd H2 e (.lst [])) := Same.trans sm3 (sm_new he)
  have he2 : upd H2 e (.lst []) e = some (.lst []) := upd_same
  generalize upd H2 e (.lst []) = H3 at *
  refine ⟨.list (ns.map PyData.int), .list [], .lst (SqL.of hF2) (dp_ints ns), .lst (SqL.of he2) .nil, ints_shaped ns, rfl, _, rfl, ?_⟩
  cases ns with
  | nil =>
    refine ifT rfl ⟨_, rfl, .inl ⟨_, _, rfl, SqL.of hD4, fun r hr2 => ?_⟩⟩
    exact q r _ [] (Same.trans sm4 (sm_new hr2)) upd_same rfl
  | cons n0 t =>
    have hn0 : n0 ≠ 0 := (rn n0 List.mem_cons_self).2
    have hlow : low p n0 = n0 := (rn n0 List.mem_cons_self).1
    refine ifF rfl ⟨_, rfl, rfl, _, rfl, ?_⟩
    by_cases h0 : p = 0
    · refine ifF (by simp [eqV, h0]) ?_
      have hgd : (gd n0 t).natAbs < 2 ^ 80 := (pow_le_kept hb).elim (fun z => nomatch z) fun z => z n0 t rfl hn0
      have hgn := gd_ne (ns := t) hn0
      refine ⟨_, rfl, D, n0 :: t, rfl, hD4, _, rfl, D2, _, 0, .int n0, rfl, rfl, SqL.of hF2, atI_nat (j := 0) rfl, _, _, rfl, rfl, _, rfl, ?_⟩
      have fin : ∀ (D5 : Addr) (σ' : L2.St), H3 D5 = none → σ'.length = 7 → σ'[6]? = some (some (.int (gd n0 t))) → 
          ∃ W : Nat → Nat → Hp → Prop, (∃ m, W 0 m (upd H3 D5 (.lst []))) ∧ ∀ i m H, W i m H →
            ((Itl K D).stop i H ∧ kTup K (.ref D5) H Q) ∨ ((Itl K D).go i H ∧ ∃ Nx : Hp → Prop, (∀ H', Nx H' → ∃ m', m' < m ∧ W (i + 1) m' H') ∧ ∀ x H', (Itl K D).yld i H x H' → gName 3 x (wipe σ' [3]) H' fun σ2 H2 => wipe σ2 [3] = wipe σ' [3] ∧ tYes σ2 H2 fun b H3 =>
              if b = true then tOp (rI (fun x j => j ≠ 0 ∧ j.natAbs < 2 ^ 80) fun i j => V.int (i.fdiv j)) (tVar 3) (tVar 6) σ2 H3 fun y H4 => ∃ acc, H4 D5 = some (.lst acc) ∧ acc.length < sizeLine ∧ Nx (upd H4 D5 (.lst (acc ++ [y]))) else Nx H3) := by
        intro D5 σ' hD5 hl5 e5
        refine lcS (walk_list (K := K) (a := D) (xs := (n0 :: t).map V.int)) (fun j => .int ((n0 :: t).getD j 0 / gd n0 t)) (fun _ => true) (by rw [List.length_map]; omega) hD5 (fun H' sm => SqL.of (sm _ _ hD4)) ?_ ?_
        · rintro j x H4 H5 R R0 hj sm5 ⟨rfl, hx⟩ kt kf
          rw [List.getElem?_map] at hx
          obtain ⟨n, hn, rfl⟩ := Option.map_eq_some_iff.mp hx
          match σ', hl5, e5 with
          | [x0, x1, x2, x3, x4, x5, x6], _, e5 =>
            have e5' : x6 = some (.int (gd n0 t)) := by simpa using e5
            subst e5'
            refine ⟨rfl, yesT ⟨_, rfl, _, rfl, _, _, rfl, rfl, ⟨hgn, hgd⟩, ?_⟩⟩
            refine kt rfl _ _ ?_ (Same.refl _)
            rw [get_D hn]
            show V.int (n.fdiv (gd n0 t)) = _
            rw [Int.fdiv_eq_ediv_of_dvd (gd_dvd (List.mem_of_getElem? hn))]
        · intro H4 sm5 hD6
          rw [List.length_map, filt_true, map_get (n0 :: t) 0 (fun n => V.int (n / gd n0 t))] at hD6
          refine .inl ⟨_, _, rfl, SqL.of hD6, fun r hr => ?_⟩
          refine q r _ ((n0 :: t).map fun n => n / gd n0 t) (Same.trans sm4 (Same.trans sm5 (sm_new hr))) ?_ (.inr ⟨h0, rfl⟩)
          rw [upd_same, List.map_map]
          rfl
      by_cases hpos : 0 < n0
      · refine ifT (decide_eq_true hpos) ⟨_, rfl, _, rfl, _, rfl, ⟨_, SqL.of hD4⟩, fun D5 hD5 => fin D5 _ hD5 rfl ?_⟩
        unfold gd; rw [if_pos hpos]; rfl
      · refine ifF (decide_eq_false hpos) ⟨_, rfl, _, rfl, _, rfl, _, rfl, ⟨_, SqL.of hD4⟩, fun D5 hD5 => fin D5 _ hD5 rfl ?_⟩
        unfold gd; rw [if_neg hpos]; rfl
    · refine ifT (by simp [eqV, h0]) ⟨_, rfl, _, rfl, D2, _, 0, .int n0, rfl, rfl, SqL.of hF2, atI_nat (j := 0) rfl, p, n0, rfl, hp, h0, by rw [hlow]; exact hn0, fun H4 i s4 hi => ?_⟩
      have hD5 := s4 _ _ hD4
      refine ⟨_, rfl, _, rfl, ⟨_, SqL.of hD5⟩, fun D5 hD6 => ?_⟩
      refine lcS (walk_list (K := K) (a := D) (xs := (n0 :: t).map V.int)) (fun j => .int ((n0 :: t).getD j 0 * i % p)) (fun _ => true) (by rw [List.length_map]; omega) hD6 (fun H' sm => SqL.of (sm _ _ hD5)) ?_ ?_
      · rintro j x H5 H6 R R0 hj sm5 ⟨rfl, hx⟩ kt kf
        rw [List.getElem?_map] at hx
        obtain ⟨n, hn, rfl⟩ := Option.map_eq_some_iff.mp hx
        have hp1 := hp.nn
        have hp2 := hp.le
        have := hi.1
        have := hi.2.1
        refine ⟨rfl, yesT ⟨_, rfl, _, rfl, _, _, rfl, rfl, .inr ⟨by omega, by omega⟩, .inl ⟨_, rfl, _, rfl, _, _, rfl, rfl, h0, ?_⟩⟩⟩
        refine kt rfl _ _ ?_ (Same.refl _)
        rw [get_D hn]
        show V.int ((n * i).fmod p) = _
        rw [fmod_pos (by omega)]
      · intro H5 sm5 hD7
        rw [List.length_map, filt_true, map_get (n0 :: t) 0 (fun n => V.int (n * i % p))] at hD7
        refine .inl ⟨_, _, rfl, SqL.of hD7, fun r hr => ?_⟩
        refine q r _ ((n0 :: t).map fun n => n * i % p) (Same.trans (Same.trans sm4 s4) (Same.trans sm5 (sm_new hr))) ?_ (.inl ⟨h0, i, hi, rfl⟩)
        rw [upd_same, List.map_map]
        rfl
end
end Tg
end
section
set_option Elab.async false
set_option autoImplicit false
set_option linter.all false
set_option maxRecDepth 100000
set_option maxHeartbeats 4000000
set_option pp.maxSteps 600
/-! The law's drawn terms. -/
namespace Tg
open PySem PySem.Spec PyProof.Rows L2 RZ
/-- the terms of a degree, by address -/
structure Mn (L : Nat) (D : Int) (ps : List (Addr × K)) : Prop where
  nd : (ps.map (·.2)).Nodup
  mo : ∀ z ∈ ps, Mo L D z.2
theorem Mn.len {L : Nat} {D : Int} {ps : List (Addr × K)} (h : Mn L D ps) (hL : Lt L) (hD : D ≤ 6) : ps.length ≤ 28 := by
  have : Ht L D (ps.map fun z => (z.2, 1)) := ⟨by unfold Nd; rw [List.map_map]; exact h.nd, fun e he => by
    obtain ⟨z, hz, rfl⟩ := List.mem_map.mp he
    exact h.mo z hz⟩
  have := this.len hL hD
  simpa using this
theorem Mn.sub {L : Nat} {D : Int} {ps qs : List (Addr × K)} (h : Mn L D ps) (s : qs.Sublist ps) : Mn L D qs := ⟨(s.map _).nodup h.nd, fun z hz => h.mo z (s.subset hz)⟩
theorem ka_same {H H' : Hp} {ps : List (Addr × K)} (h : KeysAt H ps) (s : Same H H') : KeysAt H' ps := fun z hz => s _ _ (h z hz)
theorem ka_kb {g : Addr} {H H' : Hp} {ps : List (Addr × K)} (h : KeysAt H ps) (s : KB g H H') : KeysAt H' ps := fun z hz => s.tp (h z hz)
section
variable {P : Program} {w : World} {K : PySem.W.Frag} {mg : Str → Option Value} {base : Heap}
def sp_law_monos : Sp := fun vs H Q _ => ∃ (L D : Nat), vs = [.int L, .int D] ∧ Lt L ∧ D ≤ 6 ∧ ∀ H' l ps, Same H H' → H l = none → H' l = some (.lst (ps.map fun z => V.ref z.1)) → KeysAt H' ps → Mn L (D : Int) ps → ps ≠ [] → Q (.ref l) H'
theorem sc_law_monos : FnScope ["_law_letters", "_law_degree", "_law_found", "_law_one", "_law_other"] ["_law_letters", "_law_degree"] (defScope s_law_monos) := ⟨rfl, rfl, rfl, by decide +kernel, rfl, by decide +kernel, by decide +kernel⟩
/- _law_letters 0 _law_degree 1 _law_found 2 _law_one 3 _law_other 4 -/
theorem w_law_monos (px : Px K mg) : FnR P w K mg base CX0 1 (d_law_monos.at_ K) sp_law_monos ∧ PySem.W.keepIn K (.ref (d_law_monos.at_ K)) = true := by
  refine px.R 44 rfl rfl rfl sc_law_monos (fun vs H Q E ⟨_, _, e, _⟩ => by rw [e]; rfl) (fun _ _ _ _ _ _ us hl => match us, hl with | [_, _], _ => rfl) (fun cdv A outer s H vs Q E hr h => ⟨_, (pss_cons (ps_set (i := 2) sc_law_monos.nd rfl (Or.inl rfl) (pe_lst pa_nil)) (pss_cons (ps_for PassesOwn.leaving rfl (pi_range3 rfl (px.f "range" (by simp [freeL])) (pa_cons (pv 1) (pa_cons (pe_un un_neg pe_int) (pa_cons (pe_un un_neg pe_int) pa_nil)))) (pg_name (i := 3) sc_law_monos.nd rfl (Or.inr rfl)) (pss_one (ps_if (pt_cmpR op_eq (pv 0) pe_int (nomark _)) (pss_one (ps_expr (pe_bm PySem.F.plainAttrs_list PySem.F.slot_list_append PySem.F.type_list_append mt_append (pv 2) (pa_cons (pe_tup (pa_cons (pv 3) (pa_cons (pe_op op_sub (pv 1) (pv 3)) pa_nil))) pa_nil)))) (pss_one (ps_set (i := 2) sc_law_monos.nd rfl (Or.inl rfl) (pe_op op_cat (pv 2) (pe_lc (own := [("_law_other", 4)]) rfl sc_law_monos.nd (pi_range3 rfl (px.f "range" (by simp [freeL])) (pa_cons (pe_op op_sub (pv 1) (pv 3)) (pa_cons (pe_un un_neg pe_int) (pa_cons (pe_un un_neg pe_int) pa_nil)))) (blkOk_by (own := [("_law_other", 4)]) (N := ["_law_letters", "_law_degree", "_law_found", "_law_one", "_law_other"]) (sc := (defScope s_law_monos)) (by decide +kernel)) (fun _ _ _ _ _ => (pg_name (i := 4) sc_law_monos.nd rfl (Or.inl rfl))) (fun _ _ _ _ _ => pts_nil) (fun _ _ _ _ _ => (pe_tup (pa_cons (pv 3) (pa_cons (pv 4) (pa_cons (pe_op op_sub (pe_op op_sub (pv 1) (pv 3)) (pv 4)) pa_nil)))))))))))) (pss_one (ps_ret (pv 2))))), ?_⟩)
  obtain ⟨L, D, rfl, hL, hD, q⟩ := h
  have sz : (64 : Nat) < sizeLine := by decide
  refine ⟨by show 0 ≤ sizeLine; omega, fun la hla => ?_⟩
  refine ⟨_, rfl, _, rfl, _, rfl, (D : Int), -1, -1, _, rfl, RgC.neg (by omega) (by omega) (by omega) (by omega), ?_⟩
  rw [show ((D : Int) - -1).toNat = D + 1 by omega]
  refine for_rangeC (n := D + 1) (fun i σ' H' => ∃ (la : Addr) (ps : List (Addr × Tg.K)) (x3 x4 : Option V), σ' = [some (.int L), some (.int D), some (.ref la), x3, x4] ∧ Same H H' ∧ H la = none ∧ H' la = some (.lst (ps.map fun z => V.ref z.1)) ∧ KeysAt H' ps ∧ Mn L (D : Int) ps ∧ (∀ z ∈ ps, (D : Int) - i < z.2.getD 0 0) ∧ (0 < i → ps ≠ [])) ?_ ?_ ?_
  · exact ⟨la, [], none, none, rfl, sm_new hla, hla, upd_same, (fun z h => nomatch h), ⟨List.nodup_nil, (fun z h => nomatch h)⟩, (fun z h => nomatch h), fun h => absurd h (Nat.lt_irrefl _)⟩
  · rintro i σ' H1 hi ⟨la, ps, x3, x4, rfl, sm, hla, hl, ka, mn, hlow, _⟩
    have hln := mn.len hL (by omega)
    have hone : (D : Int) + (i : Int) * -1 = ((D - i : Nat) : Int) := by omega
    rw [hone]
    refine ⟨_, rfl, rfl, _, rfl, ?_⟩
    rcases hL with rfl | rfl
    · refine ifT rfl ⟨_, rfl, .inl ⟨rfl, _, SqL.of hl⟩, _, rfl, _, rfl, _, rfl, _, _, rfl, rfl, by show 2 ≤ sizeLine; omega, fun tp htp => ?_⟩
      have hne : la ≠ tp := ne_of_none hl htp
      have hl2 : upd H1 tp (.tup [.int ((D - i : Nat) : Int), .int ((D : Int) - ((D - i : Nat) : Int))]) la = some (.lst (ps.map fun z => V.ref z.1)) := by rw [upd_ne hne]; exact hl
      refine ⟨la, _, _, rfl, rfl, hl2, by rw [List.length_map]; omega, la, ps ++ [(tp, [((D - i : Nat) : Int), (D : Int) - ((D - i : Nat) : Int)])], _, x4, rfl, sm_upd hla (Same.trans sm (sm_new htp)), hla, ?_, ?_, ⟨?_, ?_⟩, ?_, fun _ => by simp⟩
      · rw [upd_same, List.map_append]; rfl
      · intro z hz
        rcases List.mem_append.mp hz with h | h
        · have h1 := sm_new (o := .tup [.int ((D - i : Nat) : Int), .int ((D : Int) - ((D - i : Nat) : Int))]) htp _ _ (ka z h)
          rw [upd_ne (ne_of h1 hl2 (fun z => nomatch z))]; exact h1
        · rw [List.mem_singleton.mp h, upd_ne hne.symm, upd_same]; rfl
      · rw [List.map_append, List.nodup_append]
        refine ⟨mn.nd, by simp, fun a ha b hb e => ?_⟩
        obtain ⟨z, hz, rfl⟩ := List.mem_map.mp ha
        have h1 := hlow z hz
        rw [e, List.mem_singleton.mp hb] at h1
        simp at h1
        omega
      · intro z hz
        rcases List.mem_append.mp hz with h | h
        · exact mn.mo z h
        · rw [List.mem_singleton.mp h]
          exact ⟨rfl, fun x hx => by
            rcases List.mem_cons.mp hx with rfl | hx
            · omega
            · rw [List.mem_singleton.mp hx]; omega, by simp; omega⟩
      · intro z hz
        rcases List.mem_append.mp hz with h | h
        · have := hlow z h; omega
        · rw [List.mem_singleton.mp h]; simp; omega
    · refine ifF rfl ⟨_, rfl, _, rfl, _, rfl, _, _, rfl, rfl, _, rfl, _, rfl, (D : Int) - ((D - i : Nat) : Int), -1, -1, _, rfl, RgC.neg (by omega) (by omega) (by omega) (by omega), fun lb hlb => ?_⟩
      have he : (D : Int) - ((D - i : Nat) : Int) = (i : Int) := by omega
      rw [he, show ((i : Int) - -1).toNat = i + 1 by omega]
      refine lc_it (walk_rangeC (lo := (i : Int)) (c := -1) (n := i + 1)) (fun j H' => Same H1 H' ∧ ∃ qs : List (Addr × Tg.K), H' lb = some (.lst (qs.map fun z => V.ref z.1)) ∧ KeysAt H' qs ∧ qs.map (·.2) = (List.range j).map fun (k : Nat) => [((D - i : Nat) : Int), (i : Int) - (k : Int), (k : Int)]) ⟨sm_new hlb, [], upd_same, (fun z h => nomatch h), rfl⟩ (fun _ _ _ _ => trivial) ?_ ?_
      · rintro j x H2 H3 hj ⟨sm2, qs, hq, kq, eq⟩ ⟨rfl, rfl⟩
        have hql : qs.length = j := by have := congrArg List.length eq; simpa using this
        refine ⟨rfl, yesT ⟨_, rfl, _, rfl, _, rfl, _, rfl, _, _, rfl, rfl, _, rfl, _, _, rfl, rfl, by show 3 ≤ sizeLine; omega, fun tp htp => ?_⟩⟩
        have s3 := sm_new (o := .tup [.int ((D - i : Nat) : Int), .int ((i : Int) + (j : Int) * -1), .int ((D : Int) - ((D - i : Nat) : Int) - ((i : Int) + (j : Int) * -1))]) htp
        have hq3 := s3 _ _ hq
        refine ⟨_, hq3, by rw [List.length_map]; omega, sm_upd hlb (Same.trans sm2 s3), qs ++ [(tp, [((D - i : Nat) : Int), (i : Int) - (j : Int), (j : Int)])], ?_, ?_, ?_⟩
        · rw [upd_same, List.map_append]; rfl
        · intro z hz
          rcases List.mem_append.mp hz with h | h
          · have h1 := s3 _ _ (kq z h)
            rw [upd_ne (ne_of h1 hq3 (fun z => nomatch z))]; exact h1
          · rw [List.mem_singleton.mp h, upd_ne (ne_of (u := .lst (qs.map fun z => V.ref z.1)) upd_same hq3 (fun z => nomatch z)), upd_same]
            have e1 : (i : Int) + (j : Int) * -1 = (i : Int) - (j : Int) := by omega
            have e2 : (D : Int) - ((D - i : Nat) : Int) - ((i : Int) - (j : Int)) = (j : Int) := by omega
            show some (HO.tup [V.int ((D - i : Nat) : Int), V.int ((i : Int) + (j : Int) * -1), V.int ((D : Int) - ((D - i : Nat) : Int) - ((i : Int) + (j : Int) * -1))]) = _
            rw [e1, e2]; rfl
        · rw [List.map_append, eq, List.range_succ, List.map_append]; rfl
      · rintro H2 ⟨sm2, qs, hq, kq, eq⟩
        have hql : qs.length = i + 1 := by have := congrArg List.length eq; simpa using this
        have hl2 := sm2 _ _ hl
        have hmem : ∀ z ∈ qs, ∃ k : Nat, k ≤ i ∧ z.2 = [((D - i : Nat) : Int), (i : Int) - (k : Int), (k : Int)] := fun z hz => by
          have h1 : z.2 ∈ qs.map (·.2) := List.mem_map_of_mem hz
          rw [eq] at h1
          obtain ⟨k, hk, e⟩ := List.mem_map.mp h1
          exact ⟨k, by have := List.mem_range.mp hk; omega, e.symm⟩
        refine ⟨la, lb, _, _, rfl, rfl, hl2, hq, by rw [List.length_map, List.length_map]; omega, fun lc hlc => ?_⟩
        have s4 := sm_new (o := .lst ((ps.map fun z => V.ref z.1) ++ (qs.map fun z => V.ref z.1))) hlc
        refine ⟨lc, ps ++ qs, _, x4, rfl, Same.trans sm (Same.trans sm2 s4), Same.free (Same.trans sm sm2) hlc, ?_, ?_, ⟨?_, ?_⟩, ?_, fun _ => ?_⟩
        · rw [upd_same, List.map_append]
        · intro z hz
          rcases List.mem_append.mp hz with h | h
          · exact s4 _ _ (sm2 _ _ (ka z h))
          · exact s4 _ _ (kq z h)
        · rw [List.map_append, List.nodup_append]
          refine ⟨mn.nd, ?_, fun a ha b hb e => ?_⟩
          · rw [eq]
            refine List.pairwise_map.mpr (List.nodup_range.imp fun {a b} hab e => hab ?_)
            have := (List.cons.inj (List.cons.inj (List.cons.inj e).2).2).1
            omega
          · obtain ⟨z, hz, rfl⟩ := List.mem_map.mp ha
            obtain ⟨y, hy, rfl⟩ := List.mem_map.mp hb
            have h1 := hlow z hz
            obtain ⟨k, _, ek⟩ := hmem y hy
            rw [e, ek] at h1
            simp at h1
            omega
        · intro z hz
          rcases List.mem_append.mp hz with h | h
          · exact mn.mo z h
          · obtain ⟨k, hk, ek⟩ := hmem z h
            rw [ek]
            exact ⟨rfl, fun x hx => by
              rcases List.mem_cons.mp hx with rfl | hx
              · omega
              · rcases List.mem_cons.mp hx with rfl | hx
                · omega
                · rw [List.mem_singleton.mp hx]; omega, by simp; omega⟩
        · intro z hz
          rcases List.mem_append.mp hz with h | h
          · have := hlow z h; omega
          · obtain ⟨k, hk, ek⟩ := hmem z h
            rw [ek]; simp; omega
        · intro hn
          have h2 := (List.append_eq_nil_iff.mp hn).2
          rw [h2] at hql; simp at hql
  · rintro σ' H1 ⟨la, ps, x3, x4, rfl, sm, hla, hl, ka, mn, _, hne⟩
    exact ⟨_, rfl, q H1 la ps sm hla hl ka mn (hne (by omega))⟩
def sp_law_entry : Sp := fun vs H Q _ => ∃ (g : Addr) (p S : Int), vs = [.ref g, .int p, .int S] ∧ Pm p ∧ 0 < S ∧ S ≤ 2 ^ 40 ∧ Bg H g ∧ ∀ H' v, KB g H H' → low p v = v → v ≠ 0 → (v.natAbs : Int) ≤ S + 10 → Q (.int v) H'
theorem sc_law_entry : FnScope ["_law_bag_here", "_law_prime_here", "_law_spread"] ["_law_bag_here", "_law_prime_here", "_law_spread"] (defScope s_law_entry) := ⟨rfl, rfl, rfl, by decide +kernel, rfl, by decide +kernel, by decide +kernel⟩
theorem w_law_entry (px : Px K mg) : FnR P w K mg base CX0 3 (d_law_entry.at_ K) sp_law_entry ∧ PySem.W.keepIn K (.ref (d_law_entry.at_ K)) = true := by
  refine px.R 45 rfl rfl rfl sc_law_entry (fun vs H Q E ⟨_, _, _, e, _⟩ => by rw [e]; rfl) (fun _ _ _ _ _ _ us hl => match us, hl with | [_, _, _], _ => rfl) (fun cdv A outer s H vs Q E hr h => ⟨_, (pss_cons (ps_if (pt_cmpR op_ne (pv 1) pe_int (nomark _)) (pss_one (ps_ret (pe_op op_add pe_int (pe_cR (w_law_grab px) (hr.mono (by decide)) (px.g "_law_grab" (by simp [gloL])) pass0 (pa_cons (pv 0) (pa_cons (pe_op op_sub (pv 1) pe_int) pa_nil)))))) pss_nil) (pss_one (ps_ret (pe_op op_mul (pe_op op_add pe_int (pe_cR (w_law_grab px) (hr.mono (by decide)) (px.g "_law_grab" (by simp [gloL])) pass0 (pa_cons (pv 0) (pa_cons (pv 2) pa_nil)))) (pe_cR (w_law_one_of px) (hr.mono (by decide)) (px.g "_law_one_of" (by simp [gloL])) pass0 (pa_cons (pv 0) (pa_cons (pe_lst (pa_cons pe_int (pa_cons pe_int (pa_cons (pe_un un_neg pe_int) pa_nil)))) pa_nil))))))), ?_⟩)
  obtain ⟨g, p, S, rfl, hp, hS, hS2, hb, q⟩ := h
  have hp1 := hp.nn
  have hp2 := hp.le
  refine ⟨_, rfl, rfl, _, rfl, ?_⟩
  by_cases h0 : p = 0
  · refine ifF (by simp [eqV, h0]) ⟨_, rfl, _, rfl, g, S, rfl, hS, by omega, hb, fun H1 r kb1 r0 r1 => ⟨_, _, rfl, rfl, _, rfl, _, rfl, by show 3 ≤ sizeLine; decide, fun l hl => ?_⟩⟩
    have hne : l ≠ g := fun z => by
      obtain ⟨a, b, c, e⟩ := kb1.b'
      rw [z, e] at hl; cases hl
    have kb2 := KB.of (sm_new (o := .lst [.int 1, .int 1, .int (-1)]) hl) kb1.b'
    refine ⟨g, l, _, rfl, upd_same, hne, by simp, by show 3 < sizeLine; decide, kb2.b', fun H3 y kb3 hy => ?_⟩
    have hp : ∃ m : Int, y = .int m ∧ (m = 1 ∨ m = -1) := by
      simp only [List.mem_cons, List.not_mem_nil, or_false] at hy
      rcases hy with rfl | rfl | rfl <;> exact ⟨_, rfl, by decide⟩
    obtain ⟨m, rfl, hm⟩ := hp
    refine ⟨_, _, rfl, rfl, .inr ⟨by omega, by omega⟩, q H3 _ (kb1.trans (kb2.trans kb3)) ?_ ?_ ?_⟩
    · rw [h0, low0]
    · rcases hm with rfl | rfl
      · show (1 + r) * 1 ≠ 0; omega
      · show (1 + r) * -1 ≠ 0; omega
    · rcases hm with rfl | rfl
      · show (((1 + r) * 1).natAbs : Int) ≤ _; omega
      · show (((1 + r) * -1).natAbs : Int) ≤ _; omega
  · have hp3 : 2 ≤ p := by rcases hp with rfl | rfl | rfl | rfl | rfl | rfl <;> omega
    refine ifT (by simp [eqV, h0]) ⟨_, rfl, _, rfl, _, _, rfl, rfl, g, p - 1, rfl, by omega, by omega, hb, fun H1 r kb1 r0 r1 => ⟨_, _, rfl, rfl, q H1 _ kb1 ?_ ?_ ?_⟩⟩
    · exact low_self h0 (by omega) (by omega)
    · show 1 + r ≠ 0; omega
    · show ((1 + r).natAbs : Int) ≤ _; omega
end
end Tg
end
section
set_option Elab.async false
set_option autoImplicit false
set_option linter.all false
set_option maxRecDepth 100000
set_option maxHeartbeats 4000000
set_option pp.maxSteps 600
/-! The law's drawn tables. -/
namespace Tg
open PySem PySem.Spec PyProof.Rows L2 RZ
/-- drawn values -/
abbrev Vs (p S : Int) (t : T) : Prop := ∀ e ∈ t, low p e.2 = e.2 ∧ e.2 ≠ 0 ∧ (e.2.natAbs : Int) ≤ S + 10
theorem nd_ek {t : T} (h : Nd t) : ((et t).map (·.1)).Nodup := by
  have e : (et t).map (·.1) = (t.map (·.1)).map ek := by unfold et; rw [List.map_map, List.map_map]; rfl
  rw [e]
  exact List.pairwise_map.mpr (h.imp fun {a b} hab e => hab (ek_inj e))
theorem paired_append {α β : Type} {R : α → β → Prop} : ∀ {xs ys : List α} {us ws : List β}, Paired R xs us → Paired R ys ws → Paired R (xs ++ ys) (us ++ ws)
  | [], _, [], _, .nil, h => h
  | _ :: _, _, _ :: _, _, .cons a b, h => .cons a (paired_append b h)
theorem prs_snoc {H : Hp} {t : T} {ts : List Addr} {T q : Addr} {k : K} {v : Int} (h : Prs H (et t) ts) (h1 : H T = some (.tup [.ref q, .int v])) (h2 : Tp H q k) : Prs H (et (t ++ [(k, v)])) (ts ++ [T]) := by
  rw [et_append]
  exact paired_append h (.cons ⟨q, h1, by show H q = some (.tup ((ek k).map kV)); rw [ek_kV]; exact h2⟩ .nil)
section
variable {P : Program} {w : World} {K : PySem.W.Frag} {mg : Str → Option Value} {base : Heap}
def sp_law_terms : Sp := fun vs H Q _ => ∃ (g : Addr) (p S : Int) (L D : Nat), vs = [.ref g, .int p, .int L, .int D, .int S] ∧ Pm p ∧ 0 < S ∧ S ≤ 2 ^ 40 ∧ Lt L ∧ D ≤ 6 ∧ Bg H g ∧ ∀ H' r t, KB g H H' → H r = none → Tb H' r t → Ht L (D : Int) t → Vs p S t → Q (.ref r) H'
theorem sc_law_terms : FnScope ["_law_bag_here", "_law_prime_here", "_law_letters", "_law_degree", "_law_spread", "_law_told_here", "_law_exponents"] ["_law_bag_here", "_law_prime_here", "_law_letters", "_law_degree", "_law_spread"] (defScope s_law_terms) := ⟨rfl, rfl, rfl, by decide +kernel, rfl, by decide +kernel, by decide +kernel⟩
/- _law_bag_here 0 _law_prime_here 1 _law_letters 2 _law_degree 3 _law_spread 4 _law_told_here 5 _law_exponents 6 -/
theorem w_law_terms (px : Px K mg) : FnR P w K mg base CX0 4 (d_law_terms.at_ K) sp_law_terms ∧ PySem.W.keepIn K (.ref (d_law_terms.at_ K)) = true := by
  refine px.R 46 rfl rfl rfl sc_law_terms (fun vs H Q E ⟨_, _, _, _, _, e, _⟩ => by rw [e]; rfl) (fun _ _ _ _ _ _ us hl => match us, hl with | [_, _, _, _, _], _ => rfl) (fun cdv A outer s H vs Q E hr h => ⟨_, (pss_cons (ps_setLc (i := 5) (own := [("_law_exponents", 6)]) rfl sc_law_terms.nd rfl rfl (sw_true rfl rfl rfl (by decide +kernel)) (pi_list (pe_cR (w_law_monos px) (hr.mono (by decide)) (px.g "_law_monos" (by simp [gloL])) pass0 (pa_cons (pv 2) (pa_cons (pv 3) pa_nil)))) (blkOk_by (own := [("_law_exponents", 6)]) (N := ["_law_bag_here", "_law_prime_here", "_law_letters", "_law_degree", "_law_spread", "_law_told_here", "_law_exponents"]) (sc := (defScope s_law_terms)) (by decide +kernel)) (fun _ _ _ _ _ => (pg_name (i := 6) sc_law_terms.nd rfl (Or.inl rfl))) (fun _ _ _ _ _ => (pts_one (pt_cmpR op_eq (pe_cR (w_law_grab px) (hr.mono (by decide)) (px.g "_law_grab" (by simp [gloL])) pass0 (pa_cons (pv 0) (pa_cons pe_int pa_nil))) pe_int (nomark _)))) (fun _ _ _ _ _ => (pv 6))) (pss_one (ps_ret (pe_callTy (cr_dictPs rfl (un2 hr)) rfl (px.f "dict" (by simp [freeL])) bo_dict (pa_cons (pe_lc (own := [("_law_exponents", 6)]) rfl sc_law_terms.nd (pi_list (pv 5)) (blkOk_by (own := [("_law_exponents", 6)]) (N := ["_law_bag_here", "_law_prime_here", "_law_letters", "_law_degree", "_law_spread", "_law_told_here", "_law_exponents"]) (sc := (defScope s_law_terms)) (by decide +kernel)) (fun _ _ _ _ _ => (pg_name (i := 6) sc_law_terms.nd rfl (Or.inl rfl))) (fun _ _ _ _ _ => pts_nil) (fun _ _ _ _ _ => (pe_tup (pa_cons (pv 6) (pa_cons (pe_cR (w_law_entry px) (hr.mono (by decide)) (px.g "_law_entry" (by simp [gloL])) pass0 (pa_cons (pv 0) (pa_cons (pv 1) (pa_cons (pv 4) pa_nil)))) pa_nil))))) pa_nil))))), ?_⟩)
  obtain ⟨g, p, S, L, D, rfl, hp, hS, hS2, hL, hD, hb, q⟩ := h
  have sz : (64 : Nat) < sizeLine := by decide
  have bgne : ∀ {H1 : Hp} {l : Addr}, Bg H1 g → H1 l = none → l ≠ g := fun hb hl z => by
    obtain ⟨a, b, c, e⟩ := hb
    rw [z, e] at hl; cases hl
  refine ⟨_, rfl, _, rfl, L, D, rfl, hL, hD, fun H1 l ps s1 hl0 hl ka mn _ => ⟨l, rfl, ⟨_, SqL.of hl⟩, fun D1 hD1 => ?_⟩⟩
  have hpl := mn.len hL (by omega)
  have hlg : l ≠ g := bgne hb hl0
  have kb1 := KB.of s1 hb
  refine lc_it (walk_list (K := K) (a := l) (xs := ps.map fun z => V.ref z.1)) (fun i H' => KB g H1 H' ∧ ∃ qs : List (Addr × Tg.K), qs.Sublist (ps.take i) ∧ H' D1 = some (.lst (qs.map fun z => V.ref z.1))) ⟨KB.of (sm_new hD1) kb1.b', [], List.nil_sublist _, upd_same⟩ (fun i H' _ p => SqL.of (p.1.k _ _ hlg hl)) ?_ ?_
  · rintro i x H2 H3 hi ⟨kb2, qs, hqs, hD2⟩ ⟨rfl, hx⟩
    rw [List.getElem?_map] at hx
    obtain ⟨z, hz, rfl⟩ := Option.map_eq_some_iff.mp hx
    have hsub : (qs ++ [z]).Sublist (ps.take (i + 1)) := by
      rw [List.take_add_one, hz]
      exact hqs.append (List.Sublist.refl _)
    have hql : qs.length ≤ 28 := by have := hqs.length_le; rw [List.length_take] at this; omega
    have hdg : D1 ≠ g := bgne kb1.b' hD1
    refine ⟨rfl, _, rfl, g, 2, rfl, by decide, by decide, kb2.b', fun H4 r kb3 r0 r1 => ⟨rfl, _, rfl, ?_⟩⟩
    have hD4 := kb3.k _ _ hdg hD2
    by_cases hr0 : r = 0
    · refine ifT (by simp [hr0]) ⟨_, rfl, _, hD4, by rw [List.length_map]; omega, ?_, qs ++ [z], hsub, ?_⟩
      · have kb4 := kb2.trans kb3
        refine ⟨kb4.b, ?_, fun b o hb e => ?_⟩
        · obtain ⟨a, b, c, e⟩ := kb4.b'
          exact ⟨a, b, c, by rw [upd_ne hdg.symm]; exact e⟩
        · have h1 : b ≠ D1 := fun z => by rw [z, hD1] at e; cases e
          rw [upd_ne h1]; exact kb4.k b o hb e
      · rw [upd_same, List.map_append]; rfl
    · refine ifF (by simp [hr0]) ⟨kb2.trans kb3, qs, ?_, hD4⟩
      exact hqs.trans (by rw [List.take_add_one]; exact List.sublist_append_left _ _)
  rintro H2 ⟨kb2, qs, hqs, hD2⟩
  have hsubq : qs.Sublist ps := hqs.trans (List.take_sublist _ _)
  have mq := mn.sub hsubq
  have hql := mq.len hL (by omega)
  have kq : KeysAt H2 qs := fun z hz => kb2.tp (ka z (hsubq.subset hz))
  have hdg : D1 ≠ g := bgne kb1.b' hD1
  refine ⟨_, rfl, _, rfl, ⟨_, SqL.of hD2⟩, fun D3 hD3 => ?_⟩
  have hd3 : D3 ≠ g := bgne kb2.b' hD3
  refine lc_it (walk_list (K := K) (a := D1) (xs := qs.map fun z => V.ref z.1)) (fun i H' => KB g H2 H' ∧ ∃ (ts : List Addr) (t : Tg.T), t.map (·.1) = (qs.take i).map (·.2) ∧ Vs p S t ∧ H' D3 = some (.lst (ts.map V.ref)) ∧ Prs H' (et t) ts) ⟨KB.of (sm_new hD3) kb2.b', [], [], rfl, (fun _ h => nomatch h), upd_same, .nil⟩ (fun i H' _ p => SqL.of (p.1.k _ _ hdg hD2)) ?_ ?_
  · rintro i x H3 H4 hi ⟨kb3, ts, t, htk, hv, hl3, hprs⟩ ⟨rfl, hx⟩
    rw [List.getElem?_map] at hx
    obtain ⟨z, hz, rfl⟩ := Option.map_eq_some_iff.mp hx
    refine ⟨rfl, yesT ⟨_, rfl, _, rfl, _, rfl, _, rfl, g, p, S, rfl, hp, hS, hS2, kb3.b', fun H5 v kb4 v1 v2 v3 => ⟨by show 2 ≤ sizeLine; omega, fun T hT => ?_⟩⟩⟩
    have kb5 := kb3.trans kb4
    have hl5 := kb4.k _ _ hd3 hl3
    have sT := sm_new (o := .tup [.ref z.1, .int v]) hT
    have hl6 := sT _ _ hl5
    have hlen : ts.length = t.length := by have := hprs.length; rw [et_length] at this; exact this.symm
    have htl : t.length ≤ 28 := by
      have := congrArg List.length htk
      simp at this
      omega
    have mono2 : ∀ b xs, H4 b = some (.tup xs) → upd (upd H5 T (.tup [.ref z.1, .int v])) D3 (.lst (ts.map V.ref ++ [.ref T])) b = some (.tup xs) := fun b xs e => by
      have h1 := sT _ _ (kb4.get e (fun _ z => nomatch z))
      rw [upd_ne (ne_of h1 hl6 (fun z => nomatch z))]; exact h1
    refine ⟨_, hl6, by rw [List.length_map]; omega, ?_, ts ++ [T], t ++ [(z.2, v)], ?_, ?_, ?_, ?_⟩
    · have kb6 := kb5.trans (KB.of sT kb5.b')
      refine ⟨kb6.b, ?_, fun b o hb e => ?_⟩
      · obtain ⟨a, b, c, e⟩ := kb6.b'
        exact ⟨a, b, c, by rw [upd_ne hd3.symm]; exact e⟩
      · have h1 : b ≠ D3 := fun z => by rw [z, hD3] at e; cases e
        rw [upd_ne h1]; exact kb6.k b o hb e
    · rw [List.map_append, htk, List.take_add_one, hz, List.map_append]; rfl
    · intro e he
      rcases List.mem_append.mp he with h | h
      · exact hv e h
      · rw [List.mem_singleton.mp h]; exact ⟨v1, v2, v3⟩
    · rw [upd_same, List.map_append]; rfl
    · refine prs_snoc (hprs.mono mono2) (q := z.1) ?_ ?_
      · rw [upd_ne (ne_of (u := .lst (ts.map V.ref)) upd_same hl6 (fun z => nomatch z)), upd_same]
      · exact mono2 _ _ (kb3.tp (kq z (List.mem_of_getElem? hz)))
  rintro H3 ⟨kb3, ts, t, htk, hv, hl3, hprs⟩
  rw [List.length_map, List.take_length] at htk
  have ht : Ht L (D : Int) t := ⟨by unfold Nd; rw [htk]; exact mq.nd, fun e he => by
    have h1 : e.1 ∈ t.map (·.1) := List.mem_map_of_mem he
    rw [htk] at h1
    obtain ⟨z, hz, e1⟩ := List.mem_map.mp h1
    rw [← e1]; exact mq.mo z hz⟩
  refine ⟨D3, ts, et t, rfl, hl3, hprs, nd_ek ht.nd, fun d hd => ?_⟩
  have kb4 := kb1.trans (kb2.trans kb3)
  have hdn : H d = none := by
    by_cases e : d = g
    · obtain ⟨a, b, c, e2⟩ := kb4.b'
      rw [e, e2] at hd; cases hd
    · cases hH : H d with
      | none => rfl
      | some o => have := kb4.k d o e hH; rw [hd] at this; cases this
  exact q _ d t (kb4.trans (KB.of (sm_new hd) kb4.b')) hdn upd_same ht hv
def sp_law_some_terms : Sp := fun vs H Q _ => ∃ (g : Addr) (p S : Int) (L D : Nat), vs = [.ref g, .int p, .int L, .int D, .int S] ∧ Pm p ∧ 0 < S ∧ S ≤ 2 ^ 40 ∧ Lt L ∧ D ≤ 6 ∧ Bg H g ∧ ∀ H' r t, KB g H H' → H r = none → Tb H' r t → Ht L (D : Int) t → Vs p S t → t ≠ [] → Q (.ref r) H'
theorem sc_law_some_terms : FnScope ["_law_bag_here", "_law_prime_here", "_law_letters", "_law_degree", "_law_spread", "_law_found"] ["_law_bag_here", "_law_prime_here", "_law_letters", "_law_degree", "_law_spread"] (defScope s_law_some_terms) := ⟨rfl, rfl, rfl, by decide +kernel, rfl, by decide +kernel, by decide +kernel⟩
/- _law_bag_here 0 _law_prime_here 1 _law_letters 2 _law_degree 3 _law_spread 4 _law_found 5 -/
theorem w_law_some_terms (px : Px K mg) : FnR P w K mg base CX0 5 (d_law_some_terms.at_ K) sp_law_some_terms ∧ PySem.W.keepIn K (.ref (d_law_some_terms.at_ K)) = true := by
  refine px.R 47 rfl rfl rfl sc_law_some_terms (fun vs H Q E ⟨_, _, _, _, _, e, _⟩ => by rw [e]; rfl) (fun _ _ _ _ _ _ us hl => match us, hl with | [_, _, _, _, _], _ => rfl) (fun cdv A outer s H vs Q E hr h => ⟨_, (pss_cons (ps_set (i := 5) sc_law_some_terms.nd rfl (Or.inl rfl) (pe_cR (w_law_terms px) (hr.mono (by decide)) (px.g "_law_terms" (by simp [gloL])) pass0 (pa_cons (pv 0) (pa_cons (pv 1) (pa_cons (pv 2) (pa_cons (pv 3) (pa_cons (pv 4) pa_nil))))))) (pss_cons (ps_if (pt_cmpR (op_eqT (un1 hr)) (pv 5) pe_dnewT (nomark _)) (pss_one (ps_dput (un1 hr) (pv 5) (pe_cR (w_law_one_of px) (hr.mono (by decide)) (px.g "_law_one_of" (by simp [gloL])) pass0 (pa_cons (pv 0) (pa_cons (pe_cR (w_law_monos px) (hr.mono (by decide)) (px.g "_law_monos" (by simp [gloL])) pass0 (pa_cons (pv 2) (pa_cons (pv 3) pa_nil))) pa_nil))) (pe_cR (w_law_entry px) (hr.mono (by decide)) (px.g "_law_entry" (by simp [gloL])) pass0 (pa_cons (pv 0) (pa_cons (pv 1) (pa_cons (pv 4) pa_nil)))) rfl)) pss_nil) (pss_one (ps_ret (pv 5))))), ?_⟩)
  obtain ⟨g, p, S, L, D, rfl, hp, hS, hS2, hL, hD, hb, q⟩ := h
  have sz : (64 : Nat) < sizeLine := by decide
  refine ⟨_, rfl, _, rfl, _, rfl, _, rfl, _, rfl, g, p, S, L, D, rfl, hp, hS, hS2, hL, hD, hb, fun H1 r t kb1 hr0 hr1 ht hv => ?_⟩
  refine ⟨_, rfl, fun n hn => ⟨r, n, t, [], rfl, rfl, sm_new hn _ _ hr1, upd_same, ?_⟩⟩
  have kb2 : KB g H (upd H1 n (.dT [])) := kb1.trans (KB.of (sm_new hn) kb1.b')
  have hr2 := sm_new (o := .dT []) hn _ _ hr1
  generalize upd H1 n (.dT []) = H2 at *
  cases t with
  | cons e u => exact .inl ⟨by simp, _, rfl, ifF rfl ⟨_, rfl, q _ r _ kb2 hr0 hr2 ht hv (by simp)⟩⟩
  | nil =>
    refine .inr ⟨⟨rfl, fun _ h => nomatch h⟩, _, rfl, ifT rfl ⟨_, rfl, _, rfl, _, rfl, g, p, S, rfl, hp, hS, hS2, kb2.b', fun H3 v kb3 v1 v2 v3 => ?_⟩⟩
    refine ⟨_, rfl, _, rfl, _, rfl, _, rfl, L, D, rfl, hL, hD, fun H4 l ps s4 hl0 hl ka mn hne => ?_⟩
    have kb4 := kb3.trans (KB.of s4 kb3.b')
    have hlg : l ≠ g := fun z => by
      obtain ⟨a, b, c, e⟩ := kb3.b'
      rw [z, e] at hl0; cases hl0
    have hpl := mn.len hL (by omega)
    refine ⟨g, l, _, rfl, hl, hlg, by simpa using hne, by rw [List.length_map]; omega, kb4.b', fun H5 y kb5 hy => ?_⟩
    obtain ⟨z, hz, rfl⟩ := List.mem_map.mp hy
    have hr5 := (kb4.trans kb5).tb hr2
    have hz5 := kb5.tp (ka z hz)
    refine ⟨r, _, rfl, dput_tb hr5 hz5 (by simp; omega), ?_⟩
    have kb6 := kb2.trans (kb4.trans kb5)
    refine ⟨_, rfl, q _ r [(z.2, v)] ⟨kb6.b, ?_, fun b o hb e => ?_⟩ hr0 ?_ ⟨by simp [Nd], fun e he => ?_⟩ ?_ (by simp)⟩
    · obtain ⟨a, b, c, e⟩ := kb6.b'
      exact ⟨a, b, c, by rw [upd_ne (fun z => by rw [z, hr5] at e; cases e)]; exact e⟩
    · have h1 : b ≠ r := fun z => by rw [z, hr0] at e; cases e
      rw [upd_ne h1]; exact kb6.k b o hb e
    · show upd _ r _ r = _
      rw [upd_same]; rfl
    · rw [List.mem_singleton.mp he]; exact mn.mo z hz
    · intro e he
      rw [List.mem_singleton.mp he]; exact ⟨v1, v2, v3⟩
end
end Tg
end
section
set_option Elab.async false
set_option autoImplicit false
set_option linter.all false
set_option maxRecDepth 100000
set_option maxHeartbeats 4000000
set_option pp.maxSteps 600
/-! The law's sums. -/
namespace Tg
open PySem PySem.Spec PyProof.Rows L2 RZ
theorem bo_list : bootBuiltins "list" = some (.type "list") := by decide +kernel
theorem dget_fz {H : Hp} {a q : Addr} {o : Obj} {t : T} {k : K} (h : H a = some (.frz o (.dT (et t)))) (hq : Tp H q k) (hm : k ∈ t.map (·.1)) : DGet H a (.ref q) (some (.int (gt t k))) := by
  refine .inr ⟨et t, ek k, q, .inr ⟨o, h⟩, rfl, by rw [ek_kV]; exact hq, ?_⟩
  rw [valV_mem hm]
/-- the entries that are not 0 -/
def nzs (t : T) : T := t.filter fun e => decide (e.2 ≠ 0)
theorem nzs_nz (t : T) : Nz (nzs t) := fun e he => by simpa using (List.mem_filter.mp he).2
theorem nzs_nd {t : T} (h : Nd t) : Nd (nzs t) := ((List.filter_sublist (l := t)).map _).nodup h
theorem nzs_gt : ∀ {t : T}, Nd t → ∀ k, gt (nzs t) k = gt t k
  | [], _, k => rfl
  | e :: t, h, k => by
    unfold Nd at h
    rw [List.map_cons, List.nodup_cons] at h
    have ih := nzs_gt (t := t) h.2 k
    unfold nzs at ih ⊢
    rw [List.filter_cons]
    by_cases h0 : e.2 = 0
    · rw [if_neg (by simp [h0]), ih, gt_cons]
      by_cases hk : e.1 = k
      · rw [if_pos hk, h0, ← hk]
        exact gt_out h.1
      · rw [if_neg hk]
    · rw [if_pos (by simpa using h0), gt_cons, gt_cons, ih]
theorem nzs_ht {L : Nat} {D : Int} {t : T} (h : Ht L D t) : Ht L D (nzs t) := ⟨nzs_nd h.nd, fun e he => h.mo e (List.mem_filter.mp he).1⟩
theorem prs_same {H H' : Hp} {kvs : List (List Key × V)} {ts : List Addr} (h : Prs H kvs ts) (s : Same H H') : Prs H' kvs ts := h.mono fun b xs e => s _ _ e
section
variable {P : Program} {w : World} {K : PySem.W.Frag} {mg : Str → Option Value} {base : Heap}
/-- dict([(k, d[k]) for k in d if d[k] != 0]) -/
theorem nz_read {X : Cx} {H : Hp} {d : Addr} {t : T} {σ : L2.St} {Q : VK} {kn dn : Nat} (hd : Tb H d t) (hl : t.length < 64) (nd : Nd t) (hkd : kn ≠ dn) (hs : ∀ v : V, ((wipe σ [kn]).set kn (some v))[kn]? = some (some v)) (hsd : ∀ v : V, ((wipe σ [kn]).set kn (some v))[dn]? = some (some (.ref d))) (hw : ∀ v : V, wipe ((wipe σ [kn]).set kn (some v)) [kn] = wipe σ [kn]) (hd0 : σ[dn]? = some (some (.ref d)))
    (q : ∀ H' r, Same H H' → H r = none → Tb H' r (nzs t) → Q (.ref r) H') :
    tCB rDictPs (tCons (tLockE (tLc (iKeys (tVar dn)) (gName kn) (tTest (tOp rNe (tDGet (tVar dn) (tVar kn)) (tC (.int 0)))) (tTup (tCons (tVar kn) (tCons (tDGet (tVar dn) (tVar kn)) tNil))) [kn])) tNil) σ H Q := by
  have sz : (64 : Nat) < sizeLine := by decide
  refine ⟨d, _, hd, trivial, fun od => ⟨_, hd0, d, od, rfl, .inr ⟨_, upd_same, fun D hD => ?_⟩⟩⟩
  obtain ⟨hDn, hDd⟩ := lk_none hd hD
  refine lc_it walk_keysT (fun i H' => Same (upd H d (.frz od (.dT (et t)))) H' ∧ ∃ ts : List Addr, H' D = some (.lst (ts.map V.ref)) ∧ Prs H' (et (nzs (t.take i))) ts) ⟨sm_new hD, [], upd_same, .nil⟩ (fun i H' _ p => p.1 _ _ upd_same) ?_ ?_
  · rintro i x H1 H2 hi ⟨sm, ts, hl1, hp⟩ ⟨rfl, k, v, qk, ee, rfl, hqk⟩
    obtain ⟨z, hz, rfl, rfl⟩ := et_get ee
    rw [ek_kV] at hqk
    have hm : z.1 ∈ t.map (·.1) := List.mem_map_of_mem (List.mem_of_getElem? hz)
    have hg : gt t z.1 = z.2 := gt_mem nd (List.mem_of_getElem? hz)
    have hdz := sm _ _ (show upd H d (.frz od (.dT (et t))) d = _ from upd_same)
    have hget : DGet H2 d (.ref qk) (some (.int z.2)) := by have := dget_fz hdz hqk hm; rw [hg] at this; exact this
    refine ⟨hw _, _, hsd _, _, hs _, d, _, rfl, hget, rfl, _, rfl, ?_⟩
    have e1 : nzs (t.take (i + 1)) = nzs (t.take i) ++ nzs [z] := by unfold nzs; rw [List.take_add_one, hz, List.filter_append]; rfl
    by_cases h0 : z.2 = 0
    · refine ifF (by simp [eqV, h0]) ⟨sm, ts, hl1, ?_⟩
      rw [e1]
      have : nzs [z] = [] := by unfold nzs; simp [h0]
      rw [this, List.append_nil]; exact hp
    · refine ifT (by simp [eqV, h0]) ⟨_, hs _, _, hsd _, _, hs _, d, _, rfl, hget, by show 2 ≤ sizeLine; omega, fun T hT => ?_⟩
      have sT := sm_new (o := .tup [.ref qk, .int z.2]) hT
      have hl2 := sT _ _ hl1
      have hlen : ts.length ≤ t.length := by
        have h1 := hp.length
        rw [et_length] at h1
        have h2 : (nzs (t.take i)).length ≤ (t.take i).length := List.length_filter_le _ _
        rw [List.length_take] at h2
        omega
      refine ⟨_, hl2, by rw [List.length_map]; omega, sm_upd hD (Same.trans sm sT), ts ++ [T], ?_, ?_⟩
      · rw [upd_same, List.map_append]; rfl
      · rw [e1]
        have : nzs [z] = [(z.1, z.2)] := by unfold nzs; simp [h0]
        rw [this]
        have mono2 : ∀ b xs, H2 b = some (.tup xs) → upd (upd H2 T (.tup [.ref qk, .int z.2])) D (.lst (ts.map V.ref ++ [.ref T])) b = some (.tup xs) := fun b xs e => by
          have h1 := sT _ _ e
          rw [upd_ne (ne_of h1 hl2 (fun z => nomatch z))]; exact h1
        refine prs_snoc (hp.mono mono2) (q := qk) ?_ (mono2 _ _ hqk)
        rw [upd_ne (ne_of (u := .lst (ts.map V.ref)) upd_same hl2 (fun z => nomatch z)), upd_same]
  · rintro H1 ⟨sm, ts, hl1, hp⟩
    rw [et_length, List.take_length] at hp
    have hdz := sm _ _ (show upd H d (.frz od (.dT (et t))) d = _ from upd_same)
    refine ⟨hdz, D, ts, et (nzs t), rfl, ?_, hp.mono fun b xs e => ?_, nd_ek (nzs_nd nd), fun r hr => ?_⟩
    · rw [upd_ne hDd]; exact hl1
    · rw [upd_ne (ne_of e hdz (fun z => nomatch z))]; exact e
    · have s2 := lk_back hd sm
      exact q _ r (Same.trans s2 (sm_new hr)) (Same.free s2 hr) upd_same
def sp_law_fsum : Sp := fun vs H Q _ => ∃ (p : Int) (a b : Addr) (c : Int) (t u : T) (L : Nat) (D : Int), vs = [.int p, .ref a, .ref b, .int c] ∧ Pm p ∧ Tb H a t ∧ Tb H b u ∧ Lt L ∧ D ≤ 6 ∧ Ht L D t ∧ Ht L D u ∧ Rdc p (gt t) ∧ (-(2 ^ 64) < c ∧ c < 2 ^ 64) ∧
  ∀ r H' v, Same H H' → H r = none → Tb H' r v → Ht L D v → Nz v → (∀ k, gt v k = low p (gt t k + c * gt u k)) → Q (.ref r) H'
theorem sc_law_fsum : FnScope ["_law_prime_here", "_law_one", "_law_other", "_law_factor", "_law_found", "_law_exponents"] ["_law_prime_here", "_law_one", "_law_other", "_law_factor"] (defScope s_law_fsum) := ⟨rfl, rfl, rfl, by decide +kernel, rfl, by decide +kernel, by decide +kernel⟩
/- _law_prime_here 0 _law_one 1 _law_other 2 _law_factor 3 _law_found 4 _law_exponents 5 -/
theorem w_law_fsum (px : Px K mg) : FnR P w K mg base CX0 2 (d_law_fsum.at_ K) sp_law_fsum ∧ PySem.W.keepIn K (.ref (d_law_fsum.at_ K)) = true := by
  refine px.R 48 rfl rfl rfl sc_law_fsum (fun vs H Q E ⟨_, _, _, _, _, _, _, _, e, _⟩ => by rw [e]; rfl) (fun _ _ _ _ _ _ us hl => match us, hl with | [_, _, _, _], _ => rfl) (fun cdv A outer s H vs Q E hr h => ⟨_, (pss_cons (ps_set (i := 4) sc_law_fsum.nd rfl (Or.inr rfl) (pe_callTy (cr_dictPs rfl (un2 hr)) rfl (px.f "dict" (by simp [freeL])) bo_dict (pa_cons (pe_callTy (cr_listIt rfl) rfl (px.f "list" (by simp [freeL])) bo_list (pa_cons (pe_bm0 PySem.F.plainAttrs_dict PySem.F.slot_dict_items PySem.F.type_dict_items DX.mt_itemsT (pv 1)) pa_nil)) pa_nil))) (pss_cons (ps_lock (ps_for PassesOwn.leaving rfl (pi_keys (pv 2)) (pg_name (i := 5) sc_law_fsum.nd rfl (Or.inl rfl)) (pss_one (ps_dput (un1 hr) (pv 4) (pv 5) (pe_cR (w_law_low px) (hr.mono (by decide)) (px.g "_law_low" (by simp [gloL])) pass0 (pa_cons (pv 0) (pa_cons (pe_op op_add (pe_dget2 (un1 hr) (pv 4) (pv 5) pe_int ⟨by rfl, by rfl, by rfl, by rfl⟩) (pe_op op_mul (pv 3) (pe_dget (un1 hr) (pv 2) (pv 5) (fun _ _ => rfl)))) pa_nil))) rfl)))) (pss_one (ps_ret (pe_callTy (cr_dictPs rfl (un2 hr)) rfl (px.f "dict" (by simp [freeL])) bo_dict (pa_cons (pe_lock (pe_lc (own := [("_law_exponents", 5)]) rfl sc_law_fsum.nd (pi_keys (pv 4)) (blkOk_by (own := [("_law_exponents", 5)]) (N := ["_law_prime_here", "_law_one", "_law_other", "_law_factor", "_law_found", "_law_exponents"]) (sc := (defScope s_law_fsum)) (by decide +kernel)) (fun _ _ _ _ _ => (pg_name (i := 5) sc_law_fsum.nd rfl (Or.inl rfl))) (fun _ _ _ _ _ => (pts_one (pt_cmpR op_ne (pe_dget (un1 hr) (pv 4) (pv 5) (fun _ _ => rfl)) pe_int (nomark _)))) (fun _ _ _ _ _ => (pe_tup (pa_cons (pv 5) (pa_cons (pe_dget (un1 hr) (pv 4) (pv 5) (fun _ _ => rfl)) pa_nil)))))) pa_nil)))))), ?_⟩)
  obtain ⟨p, a, b, c, t, u, L, D, rfl, hp, ha, hb, hL, hD, ht, hu, rt, hc, q⟩ := h
  have sz : (64 : Nat) < sizeLine := by decide
  have l1 := ht.len hL hD
  refine ⟨_, rfl, .inr (.inr (.inl ⟨rfl, .inr ⟨_, ha⟩⟩)), a, _, rfl, rfl, ha, fun vw hvw => ⟨vw, a, _, rfl, upd_same, sm_new hvw _ _ ha, fun H1 l ts s1 fl hl hp1 => ⟨l, ts, _, rfl, hl, hp1, nd_ek ht.nd, fun d hd => ?_⟩⟩⟩
  have s2 : Same H H1 := Same.trans (sm_new hvw) s1
  have s3 : Same H (upd H1 d (.dT (et t))) := Same.trans s2 (sm_new hd)
  have hb1 := s3 _ _ hb
  have hd1 : Tb (upd H1 d (.dT (et t))) d t := upd_same
  have hdn : H d = none := Same.free s2 hd
  have hdb : d ≠ b := fun z => by rw [z, hb] at hdn; cases hdn
  generalize upd H1 d (.dT (et t)) = H2 at *
  refine ⟨b, _, hb1, trivial, fun od => ⟨_, rfl, b, od, rfl, .inr ⟨_, upd_same, ?_⟩⟩⟩
  have Bd : upd H b (.frz od (.dT (et u))) d = none := by rw [upd_ne hdb]; exact hdn
  have Bb : upd H b (.frz od (.dT (et u))) b = some (.frz od (.dT (et u))) := upd_same
  refine for_it walk_keysT (fun i σ' H' => ∃ (x5 : Option V) (f : Tg.T), σ' = [some (.int p), some (.ref a), some (.ref b), some (.int c), some (.ref d), x5] ∧ Same (upd H b (.frz od (.dT (et u)))) H' ∧ Tb H' d f ∧ Ht L D f ∧ ∀ k, gt f k = low p (gt t k + c * gt (u.take i) k)) ?_ (fun i σ' H' _ ⟨_, _, _, s, _⟩ => s _ _ Bb) ?_ ?_
  · refine ⟨none, t, rfl, ?_, ?_, ht, fun k => by rw [List.take_zero, gt_nil, Int.mul_zero, Int.add_zero, rt]⟩
    · intro x o e
      by_cases hxb : x = b
      · subst hxb; rw [upd_same] at e ⊢; exact e
      · rw [upd_ne hxb] at e ⊢; exact s3 _ _ e
    · show upd _ b _ d = _; rw [upd_ne hdb]; exact hd1
  · rintro i x σ' H3 H4 hi ⟨x5, f, rfl, sm, hf, hf2, hg⟩ ⟨rfl, k, v, qk, ee, rfl, hqk⟩
    obtain ⟨z, hz, rfl, rfl⟩ := et_get ee
    rw [ek_kV] at hqk
    have hmz := hu.mo z (List.mem_of_getElem? hz)
    have hm : z.1 ∈ u.map (·.1) := List.mem_map_of_mem (List.mem_of_getElem? hz)
    have hgz : gt u z.1 = z.2 := gt_mem hu.nd (List.mem_of_getElem? hz)
    have hget : DGet H4 b (.ref qk) (some (.int z.2)) := by have := dget_fz (sm _ _ Bb) hqk hm; rw [hgz] at this; exact this
    have lf := hf2.len hL hD
    refine ⟨_, rfl, _, rfl, d, rfl, .inr ⟨_, .inl hf⟩, _, rfl, _, dget_any hf hqk, _, rfl, _, rfl, _, rfl, b, _, rfl, hget, _, _, rfl, rfl, .inl hc, _, _, valV_getD f z.1, rfl, p, _, rfl, hp, _, rfl, _, rfl, d, _, rfl, dput_tb hf hqk (by omega), _, _, rfl, sm_upd Bd sm, upd_same, hf2.put hmz _, ?_⟩
    intro k
    rw [gt_put, gt_take_succ hu.nd hz]
    by_cases e : k = z.1
    · subst e; rw [if_pos rfl, if_pos rfl, hg, low_add, Int.mul_add, Int.add_assoc]
    · rw [if_neg e, if_neg e, Int.add_zero]; exact hg k
  · rintro σ' H3 ⟨x5, f, rfl, sm, hf, hf2, hg⟩
    rw [et_length, List.take_length] at hg
    have lf := hf2.len hL hD
    have s5 := lk_back hb sm
    have hf3 : Tb (upd H3 b (.dT (et u))) d f := by show upd H3 b _ d = _; rw [upd_ne hdb]; exact hf
    refine ⟨sm _ _ Bb, ?_⟩
    refine nz_read (X := cxOf CX0 P w K mg base [] d_law_fsum.qual d_law_fsum.scope (d_law_fsum.at_ K) cdv A outer s H E) (d := d) (t := f) (kn := 5) (dn := 4) hf3 (by omega) hf2.nd (by decide) (fun _ => rfl) (fun _ => rfl) (fun _ => rfl) rfl fun H' r s6 fr hr1 => ?_
    exact q r H' _ (Same.trans s5 s6) (Same.free s5 fr) hr1 (nzs_ht hf2) (nzs_nz f) fun k => by rw [nzs_gt hf2.nd, hg]
def sp_law_fproduct : Sp := fun vs H Q _ => ∃ (p : Int) (a b : Addr) (t u : T) (L : Nat) (D E : Int), vs = [.int p, .ref a, .ref b] ∧ Pm p ∧ a ≠ b ∧ Tb H a t ∧ Tb H b u ∧ Lt L ∧ D + E ≤ 6 ∧ Ht L D t ∧ Ht L E u ∧ (Sn t ∨ Sn u) ∧
  ∀ r H' v, Same H H' → H r = none → Tb H' r v → Ht L (D + E) v → Nz v → (∀ k, gt v k = low p (ml t (gt u) k)) → Q (.ref r) H'
theorem sc_law_fproduct : FnScope ["_law_prime_here", "_law_one", "_law_other", "_law_found", "_law_left", "_law_right_here", "_law_both", "_law_first", "_law_second", "_law_exponents"] ["_law_prime_here", "_law_one", "_law_other"] (defScope s_law_fproduct) := ⟨rfl, rfl, rfl, by decide +kernel, rfl, by decide +kernel, by decide +kernel⟩
/- _law_prime_here 0 _law_one 1 _law_other 2 _law_found 3 _law_left 4 _law_right_here 5 _law_both 6 _law_first 7 _law_second 8 _law_exponents 9 -/
theorem w_law_fproduct (px : Px K mg) : FnR P w K mg base CX0 2 (d_law_fproduct.at_ K) sp_law_fproduct ∧ PySem.W.keepIn K (.ref (d_law_fproduct.at_ K)) = true := by
  refine px.R 49 rfl rfl rfl sc_law_fproduct (fun vs H Q E ⟨_, _, _, _, _, _, _, _, e, _⟩ => by rw [e]; rfl) (fun _ _ _ _ _ _ us hl => match us, hl with | [_, _, _], _ => rfl) (fun cdv A outer s H vs Q E hr h => ⟨_, (pss_cons (ps_set (i := 3) sc_law_fproduct.nd rfl (Or.inr rfl) pe_dnewT) (pss_cons (ps_lock (ps_for PassesOwn.leaving rfl (pi_keys (pv 1)) (pg_name (i := 4) sc_law_fproduct.nd rfl (Or.inl rfl)) (pss_one (ps_lock (ps_for PassesOwn.leaving rfl (pi_keys (pv 2)) (pg_name (i := 5) sc_law_fproduct.nd rfl (Or.inl rfl)) (pss_cons (ps_set (i := 6) sc_law_fproduct.nd rfl (Or.inl rfl) (pe_tupleOf rfl (px.f "tuple" (by simp [freeL])) (pe_lc (own := [("_law_first", 7), ("_law_second", 8)]) (g := (gTup K 2 (gCons (gName 7) (gCons (gName 8) gNil)))) rfl sc_law_fproduct.nd (pi_zipA rfl (px.f "zip" (by simp [freeL])) (pa_cons (pv 4) (pa_cons (pv 5) pa_nil))) (blkOk_by (own := [("_law_first", 7), ("_law_second", 8)]) (N := ["_law_prime_here", "_law_one", "_law_other", "_law_found", "_law_left", "_law_right_here", "_law_both", "_law_first", "_law_second", "_law_exponents"]) (sc := (defScope s_law_fproduct)) (by decide +kernel)) (fun _ _ _ _ _ => (pg_tup rfl (pgs_cons (pg_name (i := 7) sc_law_fproduct.nd rfl (Or.inl rfl)) (pgs_cons (pg_name (i := 8) sc_law_fproduct.nd rfl (Or.inl rfl)) pgs_nil)))) (fun _ _ _ _ _ => pts_nil) (fun _ _ _ _ _ => (pe_op op_add (pv 7) (pv 8)))))) (pss_one (ps_dput (un1 hr) (pv 3) (pv 6) (pe_cR (w_law_low px) (hr.mono (by decide)) (px.g "_law_low" (by simp [gloL])) pass0 (pa_cons (pv 0) (pa_cons (pe_op op_add (pe_dget2 (un1 hr) (pv 3) (pv 6) pe_int ⟨by rfl, by rfl, by rfl, by rfl⟩) (pe_op op_mul (pe_dget (un1 hr) (pv 1) (pv 4) (fun _ _ => rfl)) (pe_dget (un1 hr) (pv 2) (pv 5) (fun _ _ => rfl)))) pa_nil))) rfl)))))))) (pss_one (ps_ret (pe_callTy (cr_dictPs rfl (un2 hr)) rfl (px.f "dict" (by simp [freeL])) bo_dict (pa_cons (pe_lock (pe_lc (own := [("_law_exponents", 9)]) rfl sc_law_fproduct.nd (pi_keys (pv 3)) (blkOk_by (own := [("_law_exponents", 9)]) (N := ["_law_prime_here", "_law_one", "_law_other", "_law_found", "_law_left", "_law_right_here", "_law_both", "_law_first", "_law_second", "_law_exponents"]) (sc := (defScope s_law_fproduct)) (by decide +kernel)) (fun _ _ _ _ _ => (pg_name (i := 9) sc_law_fproduct.nd rfl (Or.inl rfl))) (fun _ _ _ _ _ => (pts_one (pt_cmpR op_ne (pe_dget (un1 hr) (pv 3) (pv 9) (fun _ _ => rfl)) pe_int (nomark _)))) (fun _ _ _ _ _ => (pe_tup (pa_cons (pv 9) (pa_cons (pe_dget (un1 hr) (pv 3) (pv 9) (fun _ _ => rfl)) pa_nil)))))) pa_nil)))))), ?_⟩)
  obtain ⟨p, a, b, t, u, L, D, E', rfl, hp, hab, ha, hb, hL, hDE, ht, hu, hsn, q⟩ := h
  have sz : (64 : Nat) < sizeLine := by decide
  have hLs : L ≤ sizeLine ∧ L < sizeLine := by rcases hL with rfl | rfl <;> decide
  refine fun d hd => ?_
  have had : a ≠ d := ne_of_none ha hd
  have hbd : b ≠ d := ne_of_none hb hd
  have hdb : d ≠ b := fun z => hbd z.symm
  have ha1 : Tb (upd H d (.dT [])) a t := by show upd H d _ a = _; rw [upd_ne had]; exact ha
  refine ⟨a, _, ha1, trivial, fun od => ⟨_, rfl, a, od, rfl, .inr ⟨_, upd_same, ?_⟩⟩⟩
  have B0d : upd H a (.frz od (.dT (et t))) d = none := by rw [upd_ne had.symm]; exact hd
  have B0b : Tb (upd H a (.frz od (.dT (et t)))) b u := by show upd H a _ b = _; rw [upd_ne hab.symm]; exact hb
  have B0a : upd H a (.frz od (.dT (et t))) a = some (.frz od (.dT (et t))) := upd_same
  refine for_it walk_keysT (fun i σ' H' => ∃ (x4 x5 x6 x7 x8 x9 : Option V) (f : Tg.T), σ' = [some (.int p), some (.ref a), some (.ref b), some (.ref d), x4, x5, x6, x7, x8, x9] ∧ Same (upd H a (.frz od (.dT (et t)))) H' ∧ Tb H' d f ∧ Ht L (D + E') f ∧ ∀ k, gt f k = low p (ml (t.take i) (gt u) k)) ?_ (fun i σ' H' _ ⟨_, _, _, _, _, _, _, _, s, _⟩ => s _ _ B0a) ?_ ?_
  · refine ⟨none, none, none, none, none, none, [], rfl, ?_, ?_, Ht.nil _ _, fun k => by simp [gt_nil, ml_nil, low_zero]⟩
    · intro x o e
      have hx : x ≠ d := fun z => by rw [z, B0d] at e; cases e
      by_cases hxb : x = a
      · subst hxb; rw [upd_same] at e ⊢; exact e
      · rw [upd_ne hxb] at e ⊢; rw [upd_ne hx]; exact e
    · show upd _ a _ d = _; rw [upd_ne had.symm, upd_same]; rfl
  · rintro i x σ' H3 H3' hi ⟨x4, x5, x6, x7, x8, x9, f, rfl, sm1, hf3, hf2, hg⟩ ⟨rfl, k, v, qa, ee, rfl, hqa⟩
    obtain ⟨z, hz, rfl, rfl⟩ := et_get ee
    rw [ek_kV] at hqa
    have hmz := ht.mo z (List.mem_of_getElem? hz)
    have hmz1 : z.1 ∈ t.map (·.1) := List.mem_map_of_mem (List.mem_of_getElem? hz)
    have hgz : gt t z.1 = z.2 := gt_mem ht.nd (List.mem_of_getElem? hz)
    have hb3 : Tb H3' b u := sm1 _ _ B0b
    refine ⟨b, _, hb3, trivial, fun od2 => ⟨_, rfl, b, od2, rfl, .inr ⟨_, upd_same, ?_⟩⟩⟩
    have B1d : upd (upd H a (.frz od (.dT (et t)))) b (.frz od2 (.dT (et u))) d = none := by rw [upd_ne hdb]; exact B0d
    have B1b : upd (upd H a (.frz od (.dT (et t)))) b (.frz od2 (.dT (et u))) b = some (.frz od2 (.dT (et u))) := upd_same
    have B1a : upd (upd H a (.frz od (.dT (et t)))) b (.frz od2 (.dT (et u))) a = some (.frz od (.dT (et t))) := by rw [upd_ne hab]; exact B0a
    refine for_it walk_keysT (fun j σ' H' => ∃ (x5 x6 x7 x8 x9 : Option V) (f : Tg.T), σ' = [some (.int p), some (.ref a), some (.ref b), some (.ref d), some (.ref qa), x5, x6, x7, x8, x9] ∧ Same (upd (upd H a (.frz od (.dT (et t)))) b (.frz od2 (.dT (et u)))) H' ∧ Tb H' d f ∧ Ht L (D + E') f ∧ Tp H' qa z.1 ∧ ∀ k, gt f k = low p (ml (t.take i) (gt u) k + z.2 * sh z.1 (gt (u.take j)) k)) ?_ (fun j σ' H' _ ⟨_, _, _, _, _, _, _, s, _⟩ => s _ _ B1b) ?_ ?_
    · refine ⟨x5, x6, x7, x8, x9, f, rfl, ?_, ?_, hf2, ?_, fun k => ?_⟩
      · intro x o e
        by_cases hxb : x = b
        · subst hxb; rw [upd_same] at e ⊢; exact e
        · rw [upd_ne hxb] at e ⊢; exact sm1 _ _ e
      · show upd _ b _ d = _; rw [upd_ne hdb]; exact hf3
      · exact lk_tup hb3 hqa
      · rw [hg, sh_zero (fun k => by rw [List.take_zero, gt_nil]), Int.mul_zero, Int.add_zero]
    · rintro j x σ' H6 H6' hj ⟨x5, x6, x7, x8, x9, f, rfl, sm6, hf6, hf5, hqa6, hg4⟩ ⟨rfl, k, v, qb, ee2, rfl, hqb⟩
      obtain ⟨y, hy, rfl, rfl⟩ := et_get ee2
      rw [ek_kV] at hqb
      have hmy := hu.mo y (List.mem_of_getElem? hy)
      have hmy1 : y.1 ∈ u.map (·.1) := List.mem_map_of_mem (List.mem_of_getElem? hy)
      have hgy : gt u y.1 = y.2 := gt_mem hu.nd (List.mem_of_getElem? hy)
      have lf := hf5.len hL hDE
      have hzl : (z.1.map V.int).length = L := by rw [List.length_map, hmz.len]
      have hyl : (y.1.map V.int).length = L := by rw [List.length_map, hmy.len]
      refine ⟨_, rfl, _, rfl, qa, qb, _, _, rfl, .inr ⟨SqT.of hqa6, SqT.of hqb, fun Dl hDl => ?_⟩⟩
      refine lcS (walk_zipT (K := K) (a := qa) (b := qb) (xs := z.1.map V.int) (ys := y.1.map V.int) (n := L) (by rw [hzl, hyl]; omega)) (fun i => .int (z.1.getD i 0 + y.1.getD i 0)) (fun _ => true) hLs.1 hDl (fun H' sm => ⟨SqT.of (sm _ _ hqa6), SqT.of (sm _ _ hqb)⟩) ?_ ?_
      · rintro i x H2 H3 R R0 hi sm2 ⟨T, x, y2, rfl, hT, rfl, hx, hy2⟩ kt kf
        rw [List.getElem?_map] at hx hy2
        obtain ⟨n, hn, rfl⟩ := Option.map_eq_some_iff.mp hx
        obtain ⟨m, hm, rfl⟩ := Option.map_eq_some_iff.mp hy2
        refine ⟨T, _, rfl, SqT.of upd_same, rfl, _, _, rfl, _, _, rfl, rfl, rfl, yesT ⟨_, rfl, _, rfl, _, _, rfl, rfl, ?_⟩⟩
        exact kt rfl _ _ (by rw [get_D hn, get_D hm]) (sm_new hT)
      intro H2 sm2 hD2
      rw [filt_true] at hD2
      have hsb : (List.range L).map (fun i => V.int (z.1.getD i 0 + y.1.getD i 0)) = (ad z.1 y.1).map V.int := by
        have l1 := hmz.len
        have l2 := hmy.len
        apply List.ext_getElem
        · simp [ad, l1, l2]
        · intro i h1 h2
          simp at h1
          have h3 : i < z.1.length := by omega
          have h4 : i < y.1.length := by omega
          simp [ad, h3, h4]
      rw [hsb] at hD2
      refine .inl ⟨_, _, rfl, SqL.of hD2, fun qc hqc0 => ?_⟩
      have s7 : Same H6' (upd H2 qc (.tup ((ad z.1 y.1).map V.int))) := Same.trans sm2 (sm_new hqc0)
      have hqc : Tp (upd H2 qc (.tup ((ad z.1 y.1).map V.int))) qc (ad z.1 y.1) := upd_same
      generalize upd H2 qc (.tup ((ad z.1 y.1).map V.int)) = H7 at *
      have hf7 := s7 _ _ hf6
      have sm7 := Same.trans sm6 s7
      have g1 : DGet H7 a (.ref qa) (some (.int z.2)) := by have := dget_fz (sm7 _ _ B1a) (s7 _ _ hqa6) hmz1; rw [hgz] at this; exact this
      have g2 : DGet H7 b (.ref qb) (some (.int y.2)) := by have := dget_fz (sm7 _ _ B1b) (s7 _ _ hqb) hmy1; rw [hgy] at this; exact this
      have hcm : CMul z.2 y.2 := hsn.elim (fun h => .inl (h z (List.mem_of_getElem? hz))) fun h => .inr (h y (List.mem_of_getElem? hy))
      refine ⟨_, rfl, _, rfl, d, rfl, .inr ⟨_, .inl hf7⟩, _, rfl, _, dget_any hf7 hqc, _, rfl, _, rfl, a, _, rfl, g1, _, rfl, _, rfl, b, _, rfl, g2, _, _, rfl, rfl, hcm, _, _, valV_getD f (ad z.1 y.1), rfl, p, _, rfl, hp, _, rfl, _, rfl, d, _, rfl, dput_tb hf7 hqc (by omega), _, _, _, _, _, _, rfl, sm_upd B1d sm7, upd_same, hf5.put (hmz.ad hmy) _, ?_, ?_⟩
      · have hne : qa ≠ d := ne_of (s7 _ _ hqa6) hf7 (fun z => nomatch z)
        show upd H7 d _ qa = _
        rw [upd_ne hne]
        exact s7 _ _ hqa6
      · intro k
        rw [gt_put, hg4, sh_take hu.nd hy (by rw [hmz.len, hmy.len]) (fun e he => by rw [(hu.mo e he).len, hmz.len]), Int.mul_add]
        by_cases e : k = ad z.1 y.1
        · subst e; rw [if_pos rfl, if_pos rfl, low_add, Int.add_assoc]
        · simp [e, hg4]
    · rintro σ' H4 ⟨x5, x6, x7, x8, x9, f, rfl, sm4, hf4, hf5, hq4, hg4⟩
      refine ⟨sm4 _ _ B1b, _, _, _, _, _, _, f, rfl, lk_back B0b sm4, ?_, hf5, fun k => ?_⟩
      · show upd H4 b _ d = _
        rw [upd_ne hdb]; exact hf4
      · rw [hg4, ml_take_succ hz, et_length, List.take_length]
  · rintro σ' H3 ⟨x4, x5, x6, x7, x8, x9, f, rfl, sm, hf, hf2, hg⟩
    rw [et_length, List.take_length] at hg
    have lf := hf2.len hL hDE
    have s5 := lk_back ha sm
    have hf3 : Tb (upd H3 a (.dT (et t))) d f := by show upd H3 a _ d = _; rw [upd_ne had.symm]; exact hf
    refine ⟨sm _ _ B0a, ?_⟩
    refine nz_read (X := cxOf CX0 P w K mg base [] d_law_fproduct.qual d_law_fproduct.scope (d_law_fproduct.at_ K) cdv A outer s H E) (d := d) (t := f) (kn := 9) (dn := 3) hf3 (by omega) hf2.nd (by decide) (fun _ => rfl) (fun _ => rfl) (fun _ => rfl) rfl fun H' r s6 fr hr1 => ?_
    exact q r H' _ (Same.trans s5 s6) (Same.free s5 fr) hr1 (nzs_ht hf2) (nzs_nz f) fun k => by rw [nzs_gt hf2.nd, hg]
end
end Tg
end
section
set_option Elab.async false
set_option autoImplicit false
set_option linter.all false
set_option maxRecDepth 100000
set_option maxHeartbeats 4000000
set_option pp.maxSteps 600
/-! The law's powers, forms, cleared tables. -/
namespace Tg
open PySem PySem.Spec PyProof.Rows L2 RZ
/-- powers -/
inductive Pwr (p : Int) (L : Nat) (g : T) : Nat → T → Prop
  | zero : Pwr p L g 0 [(List.replicate L 0, 1)]
  | succ {m : Nat} {t u : T} : Pwr p L g m t → Ht L ((m + 1 : Nat) : Int) u → Nz u → (∀ k, gt u k = low p (ml t (gt g) k)) → Pwr p L g (m + 1) u
theorem Pwr.ht {p : Int} {L : Nat} {g t : T} {m : Nat} (h : Pwr p L g m t) : Ht L (m : Int) t := by
  cases h with
  | zero => exact ⟨by simp [Nd], fun e he => by
      rw [List.mem_singleton.mp he]
      exact ⟨by simp, fun x hx => by rw [(List.mem_replicate.mp hx).2]; omega, by simp⟩⟩
  | succ _ h _ _ => exact h
section
variable {P : Program} {w : World} {K : PySem.W.Frag} {mg : Str → Option Value} {base : Heap}
def sp_law_fpower : Sp := fun vs H Q _ => ∃ (p : Int) (L : Nat) (b : Addr) (m : Nat) (g : T), vs = [.int p, .int L, .ref b, .int m] ∧ Pm p ∧ Lt L ∧ Tb H b g ∧ Ht L 1 g ∧ Sn g ∧ m ≤ 6 ∧
  ∀ H' r t, Same H H' → H r = none → Tb H' r t → Pwr p L g m t → Q (.ref r) H'
theorem sc_law_fpower : FnScope ["_law_prime_here", "_law_letters", "_law_one", "_law_many", "_law_found", "_law_turn"] ["_law_prime_here", "_law_letters", "_law_one", "_law_many"] (defScope s_law_fpower) := ⟨rfl, rfl, rfl, by decide +kernel, rfl, by decide +kernel, by decide +kernel⟩
/- _law_prime_here 0 _law_letters 1 _law_one 2 _law_many 3 _law_found 4 _law_turn 5 -/
theorem w_law_fpower (px : Px K mg) : FnR P w K mg base CX0 3 (d_law_fpower.at_ K) sp_law_fpower ∧ PySem.W.keepIn K (.ref (d_law_fpower.at_ K)) = true := by
  refine px.R 50 rfl rfl rfl sc_law_fpower (fun vs H Q E ⟨_, _, _, _, _, e, _⟩ => by rw [e]; rfl) (fun _ _ _ _ _ _ us hl => match us, hl with | [_, _, _, _], _ => rfl) (fun cdv A outer s H vs Q E hr h => ⟨_, (pss_cons (ps_set (i := 4) sc_law_fpower.nd rfl (Or.inl rfl) (pe_callTy (cr_dictPs rfl (un2 hr)) rfl (px.f "dict" (by simp [freeL])) bo_dict (pa_cons (pe_lst (pa_cons (pe_tup (pa_cons (pe_op op_repT (pe_tup (pa_cons pe_int pa_nil)) (pv 1)) (pa_cons pe_int pa_nil))) pa_nil)) pa_nil))) (pss_cons (ps_for PassesOwn.leaving rfl (pi_range1 rfl (px.f "range" (by simp [freeL])) (pa_cons (pv 3) pa_nil)) (pg_name (i := 5) sc_law_fpower.nd rfl (Or.inl rfl)) (pss_one (ps_set (i := 4) sc_law_fpower.nd rfl (Or.inl rfl) (pe_cR (w_law_fproduct px) (hr.mono (by decide)) (px.g "_law_fproduct" (by simp [gloL])) pass0 (pa_cons (pv 0) (pa_cons (pv 4) (pa_cons (pv 2) pa_nil))))))) (pss_one (ps_ret (pv 4))))), ?_⟩)
  obtain ⟨p, L, b, m, g, rfl, hp, hL, hb, hg, sg, hm, q⟩ := h
  have sz : (64 : Nat) < sizeLine := by decide
  have hkey : (List.replicate ((L : Nat) : Int).toNat [V.int 0]).flatten = (List.replicate L (0 : Int)).map V.int := by
    rcases hL with rfl | rfl <;> rfl
  refine ⟨by show 1 ≤ sizeLine; omega, fun z1 hz1 => ⟨_, rfl, z1, L, _, rfl, rfl, SqT.of upd_same, by simp, by rcases hL with rfl | rfl <;> decide, by rcases hL with rfl | rfl <;> decide, by simp, ?_⟩⟩
  have s1 : Same H (upd H z1 (.tup [.int 0])) := sm_new hz1
  generalize upd H z1 (.tup [.int 0]) = A1 at *
  rw [hkey]
  intro z2 hz2
  have s2 : Same A1 (upd A1 z2 (.tup ((List.replicate L (0 : Int)).map V.int))) := sm_new hz2
  have k2 : Tp (upd A1 z2 (.tup ((List.replicate L (0 : Int)).map V.int))) z2 (List.replicate L (0 : Int)) := upd_same
  generalize upd A1 z2 (.tup ((List.replicate L (0 : Int)).map V.int)) = A2 at *
  refine ⟨by show 2 ≤ sizeLine; omega, fun z3 hz3 => ?_⟩
  have s3 : Same A2 (upd A2 z3 (.tup [.ref z2, .int 1])) := sm_new hz3
  have k3 : (upd A2 z3 (.tup [.ref z2, .int 1])) z3 = some (.tup [.ref z2, .int 1]) := upd_same
  have k2 := s3 _ _ k2
  generalize upd A2 z3 (.tup [.ref z2, .int 1]) = A3 at *
  refine ⟨by show 1 ≤ sizeLine; omega, fun z4 hz4 => ?_⟩
  have s4 : Same H (upd A3 z4 (.lst [.ref z3])) := Same.trans s1 (Same.trans s2 (Same.trans s3 (sm_new hz4)))
  have k4 : (upd A3 z4 (.lst [.ref z3])) z4 = some (.lst ([z3].map V.ref)) := upd_same
  have k2 := sm_new (o := .lst [.ref z3]) hz4 _ _ k2
  have k3 := sm_new (o := .lst [.ref z3]) hz4 _ _ k3
  generalize upd A3 z4 (.lst [.ref z3]) = A4 at *
  refine ⟨z4, [z3], et [(List.replicate L 0, 1)], rfl, k4, prs_snoc (t := []) .nil k3 k2, nd_ek (by simp [Nd]), fun d hd => ?_⟩
  have s5 := Same.trans s4 (sm_new (o := .dT (et [(List.replicate L 0, 1)])) hd)
  have hdn := Same.free s4 hd
  refine ⟨_, rfl, m, rfl, by omega, by omega, ?_⟩
  rw [Int.toNat_natCast]
  refine for_range (n := m) (fun i σ' H' => ∃ (r : Addr) (t : Tg.T) (x5 : Option V), σ' = [some (.int p), some (.int L), some (.ref b), some (.int m), some (.ref r), x5] ∧ Same H H' ∧ H r = none ∧ Tb H' r t ∧ Pwr p L g i t) ⟨d, _, none, rfl, s5, hdn, upd_same, .zero⟩ ?_ ?_
  · rintro i σ' H1 hi ⟨r, t, x5, rfl, sm, fr, hr1, hpw⟩
    have hrb : r ≠ b := fun z => by rw [z, hb] at fr; cases fr
    refine ⟨_, rfl, _, rfl, _, rfl, p, r, b, t, g, L, (i : Int), 1, rfl, hp, hrb, hr1, sm _ _ hb, hL, by omega, hpw.ht, hg, .inr sg, fun r2 H2 v s2 fr2 hr2 hv nv gv => ?_⟩
    exact ⟨r2, v, _, rfl, Same.trans sm s2, Same.free sm fr2, hr2, .succ hpw (by rw [Int.natCast_add]; exact hv) nv gv⟩
  · rintro σ' H1 ⟨r, t, x5, rfl, sm, fr, hr1, hpw⟩
    exact ⟨_, rfl, q H1 r t sm fr hr1 hpw⟩
def sp_law_form (K : PySem.W.Frag) : Sp := fun vs H Q _ => ∃ (p : Int) (L : Nat) (D : Int) (a : Addr) (t : T), vs = [.int p, .int L, .ref a] ∧ Pm p ∧ Lt L ∧ Tb H a t ∧ Gv p L D t ∧
  ∀ H' x b u, Same H H' → H x = none → Fo K H' x L p b u → Ds u → Nz u → (∀ k, gt u k = gt t k) → Q (.ref x) H'
theorem sc_law_form : FnScope ["_law_prime_here", "_law_letters", "_law_table"] ["_law_prime_here", "_law_letters", "_law_table"] (defScope s_law_form) := ⟨rfl, rfl, rfl, by decide +kernel, rfl, by decide +kernel, by decide +kernel⟩
theorem w_law_form (px : Px K mg) : FnR P w K mg base CX0 8 (d_law_form.at_ K) (sp_law_form K) ∧ PySem.W.keepIn K (.ref (d_law_form.at_ K)) = true := by
  refine px.R 53 rfl rfl rfl sc_law_form (fun vs H Q E ⟨_, _, _, _, _, e, _⟩ => by rw [e]; rfl) (fun _ _ _ _ _ _ us hl => match us, hl with | [_, _, _], _ => rfl) (fun cdv A outer s H vs Q E hr h => ⟨_, (pss_one (ps_ret (StX.pe_makeR px.mkF (w_Form_init4 px) (hr.mono (by decide)) rfl (px.g "Form" (by simp [gloL])) pass0 (pa_cons (pv 0) (pa_cons (pv 1) (pa_cons (pe_callTy (cr_dictPs rfl (un2 hr)) rfl (px.f "dict" (by simp [freeL])) bo_dict (pa_cons (pe_callTy (cr_listIt rfl) rfl (px.f "list" (by simp [freeL])) bo_list (pa_cons (pe_bm0 PySem.F.plainAttrs_dict PySem.F.slot_dict_items PySem.F.type_dict_items DX.mt_itemsT (pv 2)) pa_nil)) pa_nil)) pa_nil)))))), ?_⟩)
  obtain ⟨p, L, D, a, t, rfl, hp, hL, ha, hG, q⟩ := h
  refine ⟨_, rfl, _, rfl, _, rfl, .inr (.inr (.inl ⟨rfl, .inr ⟨_, ha⟩⟩)), a, _, rfl, rfl, ha, fun vw hvw => ⟨vw, a, _, rfl, upd_same, sm_new hvw _ _ ha, fun H1 l ts s1 fl hl hp1 => ⟨l, ts, _, rfl, hl, hp1, nd_ek hG.2.1.nd, fun d hd => ?_⟩⟩⟩
  have s3 : Same H (upd H1 d (.dT (et t))) := Same.trans (sm_new hvw) (Same.trans s1 (sm_new hd))
  have hd1 : Tb (upd H1 d (.dT (et t))) d t := upd_same
  generalize upd H1 d (.dT (et t)) = H2 at *
  intro x dx hx hdx hne
  have sn : Same H2 (upd (upd H2 dx (.own x)) x (.ins (He.ga K "Form") dx [])) := by
    intro c o e
    have h1 : c ≠ x := fun z => by rw [z, hx] at e; cases e
    have h2 : c ≠ dx := fun z => by rw [z, hdx] at e; cases e
    rw [upd_ne h1, upd_ne h2]; exact e
  refine ⟨x, dx, _, _, _, rfl, hne, upd_same, by rw [upd_ne hne, upd_same], .inl ⟨p, L, t, rfl, rfl, hp, hL, .inr ⟨d, D, rfl, sn _ _ hd1, hG⟩, fun H' b u b2 sl hb du zu gu => ⟨rfl, ?_⟩⟩⟩
  exact q H' x b u (Same.trans s3 (but2_same hx hdx b2)) (Same.free s3 hx) ⟨dx, sl, hb⟩ du zu gu
end
end Tg
end
section
set_option Elab.async false
set_option autoImplicit false
set_option linter.all false
set_option maxRecDepth 100000
set_option maxHeartbeats 4000000
set_option pp.maxSteps 600
/-! The law's quotients, cleared tables. -/
namespace Tg
open PySem PySem.Spec PyProof.Rows L2 RZ
/-- the last of the sorted keys -/
theorem last_ld {L : Nat} {D : Int} {t : T} {ps : List (Addr × K)} (pm : (ps.map (·.2)).Perm (t.map (·.1))) (as : Asc ps) (ht : Ht L D t) (nz : Nz t) (hne : t ≠ []) :
    ∃ qs z, ps = qs ++ [z] ∧ Ld (gt t) z.2 ∧ z.2 ∈ t.map (·.1) := by
  have hl : ps ≠ [] := fun e => by
    rw [e] at pm
    have h1 := pm.length_eq
    simp at h1
    exact hne (List.eq_nil_of_length_eq_zero h1.symm)
  have e := List.dropLast_concat_getLast hl
  refine ⟨ps.dropLast, ps.getLast hl, e.symm, ?_, pm.mem_iff.mp (List.mem_map_of_mem (List.getLast_mem hl))⟩
  have hm : (ps.getLast hl).2 ∈ t.map (·.1) := pm.mem_iff.mp (List.mem_map_of_mem (List.getLast_mem hl))
  constructor
  · obtain ⟨y, hy, ey⟩ := List.mem_map.mp hm
    rw [← ey, gt_mem ht.nd hy]
    exact nz y hy
  · intro k hk
    have hk1 : k ∈ ps.map (·.2) := pm.mem_iff.mpr (List.mem_map_of_mem (f := fun e => e.1) (gt_ne hk))
    obtain ⟨y, hy, rfl⟩ := List.mem_map.mp hk1
    rw [← e] at hy
    rcases List.mem_append.mp hy with h | h
    · have h2 : Asc (ps.dropLast ++ [ps.getLast hl]) := by rw [e]; exact as
      exact (List.pairwise_append.mp h2).2.2 y h _ (by simp)
    · rw [List.mem_singleton.mp h]; exact Int.le_refl _
section
variable {P : Program} {w : World} {K : PySem.W.Frag} {mg : Str → Option Value} {base : Heap}
def sp_law_fcleared : Sp := fun vs H Q _ => ∃ (p : Int) (a : Addr) (t : T) (L : Nat) (D : Int), vs = [.int p, .ref a] ∧ Pm p ∧ Lt L ∧ D ≤ 6 ∧ Tb H a t ∧ Ht L D t ∧ Nz t ∧ Rdc p (gt t) ∧ Sn t ∧
  ∀ H' r t' u, Same H H' → H r = none → Ds t' → Nz t' → (∀ k, gt t' k = gt t k) → Clr p t' u → Tb H' r u → Q (.ref r) H'
theorem sc_law_fcleared : FnScope ["_law_prime_here", "_law_table", "_law_order_here", "_law_exponents"] ["_law_prime_here", "_law_table"] (defScope s_law_fcleared) := ⟨rfl, rfl, rfl, by decide +kernel, rfl, by decide +kernel, by decide +kernel⟩
/- _law_prime_here 0 _law_table 1 _law_order_here 2 _law_exponents 3 -/
theorem w_law_fcleared (px : Px K mg) : FnR P w K mg base CX0 3 (d_law_fcleared.at_ K) sp_law_fcleared ∧ PySem.W.keepIn K (.ref (d_law_fcleared.at_ K)) = true := by
  refine px.R 52 rfl rfl rfl sc_law_fcleared (fun vs H Q E ⟨_, _, _, _, _, e, _⟩ => by rw [e]; rfl) (fun _ _ _ _ _ _ us hl => match us, hl with | [_, _], _ => rfl) (fun cdv A outer s H vs Q E hr h => ⟨_, (pss_cons (ps_set (i := 2) sc_law_fcleared.nd rfl (Or.inl rfl) (pe_revL (pe_callB (cr_sortD rfl) rfl (px.f "sorted" (by simp [freeL])) bo_sorted (pa_cons (pv 1) pa_nil)))) (pss_one (ps_ret (pe_callTy (cr_dictPs rfl (un2 hr)) rfl (px.f "dict" (by simp [freeL])) bo_dict (pa_cons (pe_listZip rfl rfl (px.f "list" (by simp [freeL])) rfl (px.f "zip" (by simp [freeL])) (pa_cons (pv 2) (pa_cons (pe_cR (w_law_normal px) (hr.mono (by decide)) (px.g "_law_normal" (by simp [gloL])) pass0 (pa_cons (pv 0) (pa_cons (pe_lc (own := [("_law_exponents", 3)]) rfl sc_law_fcleared.nd (pi_list (pv 2)) (blkOk_by (own := [("_law_exponents", 3)]) (N := ["_law_prime_here", "_law_table", "_law_order_here", "_law_exponents"]) (sc := (defScope s_law_fcleared)) (by decide +kernel)) (fun _ _ _ _ _ => (pg_name (i := 3) sc_law_fcleared.nd rfl (Or.inl rfl))) (fun _ _ _ _ _ => pts_nil) (fun _ _ _ _ _ => (pe_dget (un1 hr) (pv 1) (pv 3) (fun _ _ => rfl)))) pa_nil))) pa_nil))) pa_nil))))), ?_⟩)
  obtain ⟨p, a, t, L, D, rfl, hp, hL, hD, ha, ht, nz, rd, sn, q⟩ := h
  have sz : (64 : Nat) < sizeLine := by decide
  have hl := ht.len hL hD
  refine ⟨_, rfl, a, t, L, rfl, ha, by omega, hL.pos, ht.ks hD, fun ps pa pm as ka hpa => ⟨pa, _, rfl, SqL.of upd_same, fun pb hpb => ?_⟩⟩
  obtain ⟨d1, d2⟩ := desc_pure pm as ht.nd (ht.ks hD)
  have s1 : Same H (upd (upd H pa (.lst (ps.map fun z => V.ref z.1))) pb (.lst (ps.map fun z => V.ref z.1).reverse)) := Same.trans (sm_new hpa) (sm_new hpb)
  have hb : (upd (upd H pa (.lst (ps.map fun z => V.ref z.1))) pb (.lst (ps.map fun z => V.ref z.1).reverse)) pb = some (.lst (ps.reverse.map fun z => V.ref z.1)) := by rw [upd_same, List.map_reverse]
  have hpl : ps.reverse.length = t.length := by have := pm.length_eq; simpa using this
  have kr : KeysAt (upd (upd H pa (.lst (ps.map fun z => V.ref z.1))) pb (.lst (ps.map fun z => V.ref z.1).reverse)) ps.reverse := fun z hz => s1 _ _ (ka z (List.mem_reverse.mp hz))
  generalize upd (upd H pa (.lst (ps.map fun z => V.ref z.1))) pb (.lst (ps.map fun z => V.ref z.1).reverse) = H1 at *
  generalize ps.reverse = rs at *
  have ha1 := s1 _ _ ha
  refine ⟨_, rfl, _, rfl, _, rfl, _, rfl, ⟨_, SqL.of hb⟩, fun D1 hD1 => ?_⟩
  refine lcS (walk_list (K := K) (a := pb) (xs := rs.map fun z => V.ref z.1)) (fun i => .int (gt t (rs.getD i (0, [])).2)) (fun _ => true) (by rw [List.length_map]; omega) hD1 (fun H' sm => SqL.of (sm _ _ hb)) ?_ ?_
  · rintro i x H2 H3 R R0 hi sm ⟨rfl, hx⟩ kt kf
    rw [List.getElem?_map] at hx
    obtain ⟨z, hz, rfl⟩ := Option.map_eq_some_iff.mp hx
    have hzm := List.mem_of_getElem? hz
    exact ⟨rfl, yesT ⟨_, rfl, _, rfl, a, _, rfl, dget_tb (sm _ _ ha1) (sm _ _ (kr z hzm)) ((d2 z.2).mp (List.mem_map_of_mem hzm)), kt rfl _ _ (by rw [get_D hz]) (Same.refl _)⟩⟩
  intro H2 s2 hD2
  rw [List.length_map, filt_true, map_get rs (0, []) (fun z => V.int (gt t z.2))] at hD2
  let t' : Tg.T := rs.map fun z => (z.2, gt t z.2)
  have ht'k : t'.map (·.1) = rs.map (·.2) := by simp only [t', List.map_map]; rfl
  have ht'v : t'.map (·.2) = rs.map fun z => gt t z.2 := by simp only [t', List.map_map]; rfl
  have dt' : Ds t' := by
    unfold Ds
    have : (t'.map (·.1)).Pairwise (fun a b => cd b < cd a) := by rw [ht'k]; exact d1
    exact List.pairwise_map.mp this
  have hu : t' = (rs.map (·.2)).map fun k => (k, gt t k) := by simp only [t', List.map_map]; rfl
  obtain ⟨k1, k2⟩ := keyed_pure d2
  have nz' : Nz t' := by rw [hu]; exact k2 ht.nd nz
  have gt' : ∀ k, gt t' k = gt t k := by rw [hu]; exact k1
  have rd' : Rdc p (gt t') := fun k => by rw [gt']; exact rd k
  have htt : Ht L D t' := Ht.of dt' nz' fun k hk => ht.hm k (by rw [← gt']; exact hk)
  have sn' : Sn t' := fun e he => by
    have h1 := gt_mem dt'.nd he
    rw [gt'] at h1
    have h2 : gt t e.1 ≠ 0 := by rw [h1]; exact nz' e he
    have h3 := sn _ (gt_ne h2)
    simp only at h3
    rw [h1] at h3; exact h3
  have hD3 : H2 D1 = some (.lst ((t'.map (·.2)).map V.int)) := by rw [hD2, ht'v, List.map_map]; rfl
  refine ⟨p, D1, t'.map (·.2), rfl, hp, hD3, rn_of dt'.nd nz' rd', fun n hn => ?_, by rw [ht'v, List.length_map]; omega, fun r H3 ms s3 hr3 hms => ?_⟩
  · obtain ⟨e, he, rfl⟩ := List.mem_map.mp hn
    have := sn' e he
    omega
  have hml : ms.length = t'.length := by
    have := (Nr.f hp (rn_of dt'.nd nz' rd') hms).len
    simpa using this
  have hrl : t'.length = rs.length := by simp only [t', List.length_map]
  refine ⟨pb, r, _, _, rfl, SqL.of (s3 _ _ (s2 _ _ hb)), SqT.of hr3, by rw [List.length_map, List.length_map]; omega, fun H4 l ts s4 fl hl4 hpz => ?_⟩
  obtain ⟨z1, z2⟩ := zip_keys (t := t') (ms := ms) hml
  have hC : Clr p t' ((t'.zip ms).map fun z => (z.1.1, z.2)) := ⟨z1, by rw [z2]; exact hms⟩
  have hprs : Prs H4 (et ((t'.zip ms).map fun z => (z.1.1, z.2))) ts := by
    have kr4 : KeysAt H4 rs := fun z hz => s4 _ _ (s3 _ _ (s2 _ _ (kr z hz)))
    have gen : ∀ (rs : List (Addr × Tg.K)) (ms : List Int) (ts : List Addr), KeysAt H4 rs → rs.length = ms.length → Paired (fun (z : V × V) T => H4 T = some (.tup [z.1, z.2])) ((rs.map fun z => V.ref z.1).zip (ms.map V.int)) ts →
        Prs H4 (et (((rs.map fun z => (z.2, gt t z.2)).zip ms).map fun z => (z.1.1, z.2))) ts := by
      intro rs
      induction rs with
      | nil => intro ms ts _ _ h; cases h; exact .nil
      | cons z rs ih =>
        intro ms ts hk hl h
        cases ms with
        | nil => cases hl
        | cons m ms =>
          cases h with
          | cons h1 h2 =>
            exact .cons ⟨z.1, h1, by show H4 z.1 = some (.tup ((ek z.2).map kV)); rw [ek_kV]; exact hk z List.mem_cons_self⟩ (ih ms _ (fun y hy => hk y (List.mem_cons_of_mem _ hy)) (by simpa using hl) h2)
    exact gen rs ms ts kr4 (by omega) hpz
  refine ⟨l, ts, _, rfl, hl4, hprs, nd_ek (hC.f hp dt' nz' htt rd').ds.nd, fun d hd => ?_⟩
  have s5 := Same.trans s1 (Same.trans s2 (Same.trans s3 s4))
  exact q _ d t' _ (Same.trans s5 (sm_new hd)) (Same.free s5 hd) dt' nz' gt' hC upd_same
end
end Tg
end
section
set_option Elab.async false
set_option autoImplicit false
set_option linter.all false
set_option maxRecDepth 100000
set_option maxHeartbeats 4000000
set_option pp.maxSteps 600
/-! The law's quotients. -/
namespace Tg
open PySem PySem.Spec PyProof.Rows L2 RZ
theorem tand_read {t1 t2 : TT} {σ : L2.St} {H : Hp} {Qf : Bool → Hp → Prop} (c1 c2 : Prop) [Decidable c1] [Decidable c2] (h1 : ∀ Q' : Bool → Hp → Prop, Q' (decide c1) H → t1 σ H Q') (h2 : c1 → ∀ Q' : Bool → Hp → Prop, Q' (decide c2) H → t2 σ H Q') (q : Qf (decide (c1 ∧ c2)) H) : tAnd t1 t2 σ H Qf := by
  refine h1 _ ?_
  by_cases h : c1
  · refine ifT (decide_eq_true h) (h2 h _ ?_)
    have : decide (c1 ∧ c2) = decide c2 := by simp [h]
    rw [← this]; exact q
  · refine ifF (decide_eq_false h) ?_
    have : decide (c1 ∧ c2) = false := by simp [h]
    rw [← this]; exact q
theorem if_intP {c : Bool} {ta tb : TE} {σ : L2.St} {H : Hp} {Q : VK} (R : Int → Prop) (ha : c = true → ∀ Q' : VK, (∀ n H1, R n → Same H H1 → Q' (.int n) H1) → ta σ H Q') (hb : c = false → ∀ Q' : VK, (∀ n H1, R n → Same H H1 → Q' (.int n) H1) → tb σ H Q')
    (hq : ∀ n H1, R n → Same H H1 → Q (.int n) H1) : if c = true then ta σ H Q else tb σ H Q := by
  cases c with
  | true => exact ifT rfl (ha rfl Q hq)
  | false => exact ifF rfl (hb rfl Q hq)
section
variable {P : Program} {w : World} {K : PySem.W.Frag} {mg : Str → Option Value} {base : Heap}
def sp_law_fquotient : Sp := fun vs H Q _ => ∃ (p : Int) (a b : Addr) (t g : T) (h : Tg.K) (L : Nat) (D E : Int), vs = [.int p, .ref a, .ref b] ∧ Tb H a t ∧ Tb H b g ∧ Lt L ∧ Dvr p L E (gt g) h ∧ D ≤ 6 ∧ E ≤ 6 ∧ Ht L D t ∧ Nz t ∧ Rdc p (gt t) ∧ Ht L E g ∧ Nz g ∧ Sn g ∧
  ∀ H', Same H H' → (Dv p (gt g) h (gt t) none → Q .non H') ∧ ∀ q r, Dv p (gt g) h (gt t) (some q) → H r = none → Tb H' r q → Q (.ref r) H'
theorem sc_law_fquotient : FnScope ["_law_prime_here", "_law_one", "_law_other", "_law_left", "_law_found", "_law_top", "_law_first", "_law_rest", "_law_many", "_law_less", "_law_factor"] ["_law_prime_here", "_law_one", "_law_other"] (defScope s_law_fquotient) := ⟨rfl, rfl, rfl, by decide +kernel, rfl, by decide +kernel, by decide +kernel⟩
/- _law_prime_here 0 _law_one 1 _law_other 2 _law_left 3 _law_found 4 _law_top 5 _law_first 6 _law_rest 7 _law_many 8 _law_less 9 _law_factor 10 -/
theorem w_law_fquotient (px : Px K mg) : FnR P w K mg base CX0 3 (d_law_fquotient.at_ K) sp_law_fquotient ∧ PySem.W.keepIn K (.ref (d_law_fquotient.at_ K)) = true := by
  refine px.R 51 rfl rfl rfl sc_law_fquotient (fun vs H Q E ⟨_, _, _, _, _, _, _, _, _, e, _⟩ => by rw [e]; rfl) (fun _ _ _ _ _ _ us hl => match us, hl with | [_, _, _], _ => rfl) (fun cdv A outer s H vs Q E hr h => ⟨_, (pss_cons (ps_par3 (i := 3) (j := 4) (l := 5) rfl sc_law_fquotient.nd rfl rfl rfl (by decide) (by decide) (by decide) rfl rfl rfl (pa_cons (pe_callTy (cr_dictPs rfl (un2 hr)) rfl (px.f "dict" (by simp [freeL])) bo_dict (pa_cons (pe_callTy (cr_listIt rfl) rfl (px.f "list" (by simp [freeL])) bo_list (pa_cons (pe_bm0 PySem.F.plainAttrs_dict PySem.F.slot_dict_items PySem.F.type_dict_items DX.mt_itemsT (pv 1)) pa_nil)) pa_nil)) (pa_cons pe_dnewT (pa_cons (pe_ix ix_list (pe_callB (cr_sortD rfl) rfl (px.f "sorted" (by simp [freeL])) bo_sorted (pa_cons (pv 2) pa_nil)) (pe_un un_neg pe_int) (fun _ _ => rfl)) pa_nil))) (by rfl)) (pss_cons (ps_while PassesOwn.leaving (pt_cmpR (op_neT (un1 hr)) (pv 3) pe_dnewT (nomark _)) (pss_cons (ps_set (i := 6) sc_law_fquotient.nd rfl (Or.inl rfl) (pe_ix ix_list (pe_callB (cr_sortD rfl) rfl (px.f "sorted" (by simp [freeL])) bo_sorted (pa_cons (pv 3) pa_nil)) (pe_un un_neg pe_int) (fun _ _ => rfl))) (pss_cons (ps_set (i := 7) sc_law_fquotient.nd rfl (Or.inl rfl) (pe_tupleOf rfl (px.f "tuple" (by simp [freeL])) (pe_lc (own := [("_law_many", 8), ("_law_less", 9)]) (g := (gTup K 2 (gCons (gName 8) (gCons (gName 9) gNil)))) rfl sc_law_fquotient.nd (pi_zipA rfl (px.f "zip" (by simp [freeL])) (pa_cons (pv 6) (pa_cons (pv 5) pa_nil))) (blkOk_by (own := [("_law_many", 8), ("_law_less", 9)]) (N := ["_law_prime_here", "_law_one", "_law_other", "_law_left", "_law_found", "_law_top", "_law_first", "_law_rest", "_law_many", "_law_less", "_law_factor"]) (sc := (defScope s_law_fquotient)) (by decide +kernel)) (fun _ _ _ _ _ => (pg_tup rfl (pgs_cons (pg_name (i := 8) sc_law_fquotient.nd rfl (Or.inl rfl)) (pgs_cons (pg_name (i := 9) sc_law_fquotient.nd rfl (Or.inl rfl)) pgs_nil)))) (fun _ _ _ _ _ => pts_nil) (fun _ _ _ _ _ => (pe_op op_sub (pv 8) (pv 9)))))) (pss_cons (ps_if (PW.pt (pw_or (pt_cmpR op_lt (pe_callB (cr_minT rfl) rfl (px.f "min" (by simp [freeL])) bo_min (pa_cons (pv 7) pa_nil)) pe_int (nomark _)) (pw_or1 (PW.pt (pw_and (pt_cmpR op_eq (pv 0) pe_int (nomark _)) (pw_and1 (pt_cmpR op_ne (pe_op op_modN (pe_dget (un1 hr) (pv 3) (pv 6) (fun _ _ => rfl)) (pe_dget (un1 hr) (pv 2) (pv 5) (fun _ _ => rfl))) pe_int (nomark _)))))))) (pss_one (ps_ret pe_non)) pss_nil) (pss_cons (ps_set (i := 10) sc_law_fquotient.nd rfl (Or.inl rfl) (pe_ifExp (pt_cmpR op_eq (pv 0) pe_int (nomark _)) (pe_op op_fdivL (pe_dget (un1 hr) (pv 3) (pv 6) (fun _ _ => rfl)) (pe_dget (un1 hr) (pv 2) (pv 5) (fun _ _ => rfl))) (pe_cR (w_law_low px) (hr.mono (by decide)) (px.g "_law_low" (by simp [gloL])) pass0 (pa_cons (pv 0) (pa_cons (pe_op op_mul (pe_dget (un1 hr) (pv 3) (pv 6) (fun _ _ => rfl)) (pe_cR (w_law_back px) (hr.mono (by decide)) (px.g "_law_back" (by simp [gloL])) pass0 (pa_cons (pv 0) (pa_cons (pe_dget (un1 hr) (pv 2) (pv 5) (fun _ _ => rfl)) pa_nil)))) pa_nil))))) (pss_cons (ps_dput (un1 hr) (pv 4) (pv 7) (pv 10) rfl) (pss_one (ps_set (i := 3) sc_law_fquotient.nd rfl (Or.inl rfl) (pe_cR (w_law_fsum px) (hr.mono (by decide)) (px.g "_law_fsum" (by simp [gloL])) pass0 (pa_cons (pv 0) (pa_cons (pv 3) (pa_cons (pe_cR (w_law_fproduct px) (hr.mono (by decide)) (px.g "_law_fproduct" (by simp [gloL])) pass0 (pa_cons (pv 0) (pa_cons (pe_dispT (un0 hr) (pps_cons (pv 7) (pv 10) pps_nil) (by rfl) (by rfl) (by simp) (by decide)) (pa_cons (pv 2) pa_nil)))) (pa_cons (pe_un un_neg pe_int) pa_nil))))))))))))) (pss_one (ps_ret (pv 4))))), ?_⟩)
  obtain ⟨p, a, b, t, g, h, L, D, E', rfl, ha, hb, hL, G, hD, hE6, ht, zt, rt, hgg, zg, sg, q⟩ := h
  have sz : (64 : Nat) < sizeLine := by decide
  have hp := G.pm
  have hgt : gt g h ≠ 0 := G.ld.1
  have hgne : g ≠ [] := fun z => hgt (by rw [z, gt_nil])
  have lg := hgg.len hL hE6
  have lt1 := ht.len hL hD
  have hhk : h ∈ g.map (·.1) := List.mem_map_of_mem (f := fun e => e.1) (gt_ne hgt)
  refine ⟨_, rfl, .inr (.inr (.inl ⟨rfl, .inr ⟨_, ha⟩⟩)), a, _, rfl, rfl, ha, fun vw hvw => ⟨vw, a, _, rfl, upd_same, sm_new hvw _ _ ha, fun H1 l ts s1 fl hl hp1 => ⟨l, ts, _, rfl, hl, hp1, nd_ek ht.nd, fun la hla => ?_⟩⟩⟩
  have s2 : Same H H1 := Same.trans (sm_new hvw) s1
  have s3 : Same H (upd H1 la (.dT (et t))) := Same.trans s2 (sm_new hla)
  have hl1 : Tb (upd H1 la (.dT (et t))) la t := upd_same
  generalize upd H1 la (.dT (et t)) = H2 at *
  intro fa hfa
  have Hfa := Same.free s3 hfa
  have hfl : la ≠ fa := fun z => by
    have h9 : H2 la = some (.dT (et t)) := hl1
    rw [z, hfa] at h9; cases h9
  have s4 : Same H (upd H2 fa (.dT [])) := Same.trans s3 (sm_new hfa)
  have hl2 : Tb (upd H2 fa (.dT [])) la t := sm_new hfa _ _ hl1
  have hf2 : Tb (upd H2 fa (.dT [])) fa [] := upd_same
  generalize upd H2 fa (.dT []) = H3 at *
  refine ⟨_, rfl, b, g, L, rfl, s4 _ _ hb, by omega, hL.pos, hgg.ks hE6, fun ps pa pm as ka hpa => ?_⟩
  obtain ⟨qs, z0, rfl, hld0, _⟩ := last_ld pm as hgg zg hgne
  have hz0 : z0.2 = h := Ld.uniq G.hm G.deg hld0 G.ld
  have s5 : Same H (upd H3 pa (.lst ((qs ++ [z0]).map fun z => V.ref z.1))) := Same.trans s4 (sm_new hpa)
  have hl3 := sm_new (o := .lst ((qs ++ [z0]).map fun z => V.ref z.1)) hpa _ _ hl2
  have hf3 := sm_new (o := .lst ((qs ++ [z0]).map fun z => V.ref z.1)) hpa _ _ hf2
  have hq3 : Tp (upd H3 pa (.lst ((qs ++ [z0]).map fun z => V.ref z.1))) z0.1 h := by rw [← hz0]; exact sm_new hpa _ _ (ka z0 (by simp))
  have hpl : (upd H3 pa (.lst ((qs ++ [z0]).map fun z => V.ref z.1))) pa = some (.lst (qs.map (fun z => V.ref z.1) ++ [V.ref z0.1])) := by rw [upd_same, List.map_append]; rfl
  generalize upd H3 pa (.lst ((qs ++ [z0]).map fun z => V.ref z.1)) = H4 at *
  refine ⟨_, rfl, pa, _, -1, _, rfl, rfl, SqL.of hpl, atI_last _ _, _, _, _, rfl, ?_⟩
  generalize hqh : z0.1 = qh at *
  refine ⟨fun m σ H' => ∃ (la : Addr) (u f : Tg.T) (x6 x7 x8 x9 x10 : Option V), (∀ e ∈ u, cd e.1 < (m : Int)) ∧ σ = [some (.int p), some (.ref a), some (.ref b), some (.ref la), some (.ref fa), some (.ref qh), x6, x7, x8, x9, x10] ∧ Same H H' ∧ Tb H' la u ∧ Tb H' fa f ∧ la ≠ fa ∧ Tp H' qh h ∧
    Ht L D u ∧ Nz u ∧ Rdc p (gt u) ∧ Ht L (D - E') f ∧ (∀ e ∈ f, ∀ y ∈ u, cd y.1 - cd h < cd e.1) ∧ ∀ res, Dv p (gt g) h (gt u) res → Dv p (gt g) h (gt t) (res.map (f ++ ·)), ⟨64 ^ L, la, t, [], none, none, none, none, none, ?_, rfl, s5, hl3, hf3, hfl, hq3, ht, zt, rt, Ht.nil _ _, (fun _ h => nomatch h), fun res d => ?_⟩, ?_⟩
  · intro e he
    have h1 := ht.ks hD e he
    have h2 := (cd_bd h1.2).2
    rw [h1.1] at h2
    simpa using h2
  · cases res with
    | none => exact d
    | some q => exact d
  rintro m σ H' ⟨la, u, f, x6, x7, x8, x9, x10, hm, rfl, sm, hl, hf, hne, hq, huu, zu, ru, hff, hlow, hdv⟩
  have hu := huu.hm
  have lu := huu.len hL hD
  refine ⟨_, rfl, fun pn hpn => ⟨la, pn, u, [], rfl, rfl, sm_new hpn _ _ hl, upd_same, ?_⟩⟩
  have smn := Same.trans sm (sm_new (o := .dT []) hpn)
  have hln := sm_new (o := .dT []) hpn _ _ hl
  have hfn := sm_new (o := .dT []) hpn _ _ hf
  have hqn := sm_new (o := .dT []) hpn _ _ hq
  generalize upd H' pn (.dT []) = H1 at *
  by_cases hu0 : u = []
  · subst hu0
    refine .inr ⟨⟨rfl, fun _ h => nomatch h⟩, _, rfl, ifF rfl ⟨_, rfl, ?_⟩⟩
    have d0 := hdv (some []) (.done fun k => gt_nil k)
    rw [Option.map_some, List.append_nil] at d0
    exact (q H1 smn).2 f fa d0 Hfa hfn
  refine .inl ⟨fun z => hu0 (List.eq_nil_of_length_eq_zero z), _, rfl, ifT rfl ⟨fun σ' H' => ∃ (m' : Nat) (la : Addr) (u f : Tg.T) (x6 x7 x8 x9 x10 : Option V), m' < m ∧ (∀ e ∈ u, cd e.1 < (m' : Int)) ∧ σ' = [some (.int p), some (.ref a), some (.ref b), some (.ref la), some (.ref fa), some (.ref qh), x6, x7, x8, x9, x10] ∧ Same H H' ∧ Tb H' la u ∧ Tb H' fa f ∧ la ≠ fa ∧ Tp H' qh h ∧
      Ht L D u ∧ Nz u ∧ Rdc p (gt u) ∧ Ht L (D - E') f ∧ (∀ e ∈ f, ∀ y ∈ u, cd y.1 - cd h < cd e.1) ∧ ∀ res, Dv p (gt g) h (gt u) res → Dv p (gt g) h (gt t) (res.map (f ++ ·)),
      fun σ' H' ⟨m', la, u, f, x6, x7, x8, x9, x10, hm, r⟩ => ⟨m', hm, la, u, f, x6, x7, x8, x9, x10, r⟩, ?_⟩⟩
  refine ⟨_, rfl, la, u, L, rfl, hln, by omega, hL.pos, huu.ks hD, fun ps2 pb pm2 as2 ka2 hpb => ?_⟩
  obtain ⟨qs2, z, rfl, hld, hzk⟩ := last_ld pm2 as2 huu zu hu0
  have sB : Same H1 (upd H1 pb (.lst ((qs2 ++ [z]).map fun z => V.ref z.1))) := sm_new hpb
  have hB : (upd H1 pb (.lst ((qs2 ++ [z]).map fun z => V.ref z.1))) pb = some (.lst (qs2.map (fun z => V.ref z.1) ++ [V.ref z.1])) := by rw [upd_same, List.map_append]; rfl
  have hz1B : Tp (upd H1 pb (.lst ((qs2 ++ [z]).map fun z => V.ref z.1))) z.1 z.2 := sB _ _ (ka2 z (by simp))
  generalize upd H1 pb (.lst ((qs2 ++ [z]).map fun z => V.ref z.1)) = HB at *
  refine ⟨_, rfl, pb, _, -1, _, rfl, rfl, SqL.of hB, atI_last _ _, ?_⟩
  obtain ⟨ez, hez, eze⟩ := List.mem_map.mp hzk
  have hmz : Mo L D z.2 := by rw [← eze]; exact huu.mo ez hez
  have hmh := G.mo
  have hqB := sB _ _ hqn
  refine ⟨_, rfl, _, rfl, z.1, qh, _, _, rfl, .inr ⟨SqT.of hz1B, SqT.of hqB, fun Dl hDl => ?_⟩⟩
  have hz1 : (z.2.map V.int).length = L := by rw [List.length_map, hmz.len]
  have hz2 : (h.map V.int).length = L := by rw [List.length_map, hmh.len]
  have hLs : L ≤ sizeLine := by rcases hL with rfl | rfl <;> decide
  refine lcS (walk_zipT (K := K) (a := z.1) (b := qh) (xs := z.2.map V.int) (ys := h.map V.int) (n := L) (by rw [hz1, hz2]; omega)) (fun i => .int (z.2.getD i 0 - h.getD i 0)) (fun _ => true) hLs hDl (fun H' sm => ⟨SqT.of (sm _ _ hz1B), SqT.of (sm _ _ hqB)⟩) ?_ ?_
  · rintro i x H2 H3 R R0 hi sm2 ⟨T, x, y, rfl, hT, rfl, hx, hy⟩ kt kf
    rw [List.getElem?_map] at hx hy
    obtain ⟨n, hn, rfl⟩ := Option.map_eq_some_iff.mp hx
    obtain ⟨m, hm, rfl⟩ := Option.map_eq_some_iff.mp hy
    refine ⟨T, _, rfl, SqT.of upd_same, rfl, _, _, rfl, _, _, rfl, rfl, rfl, yesT ⟨_, rfl, _, rfl, _, _, rfl, rfl, ?_⟩⟩
    exact kt rfl _ _ (by rw [get_D hn, get_D hm]) (sm_new hT)
  intro H2' sm2 hD2
  rw [filt_true] at hD2
  have hsb : (List.range L).map (fun i => V.int (z.2.getD i 0 - h.getD i 0)) = (sb z.2 h).map V.int := by
    have l1 := hmz.len
    have l2 := hmh.len
    apply List.ext_getElem
    · simp [sb, l1, l2]
    · intro i h1 h2
      simp at h1
      have h3 : i < z.2.length := by omega
      have h4 : i < h.length := by omega
      simp [sb, h3, h4]
  rw [hsb] at hD2
  refine .inl ⟨_, _, rfl, SqL.of hD2, fun rr hrr => ?_⟩
  have sr : Same H1 (upd H2' rr (.tup ((sb z.2 h).map V.int))) := Same.trans sB (Same.trans sm2 (sm_new hrr))
  have sr2 : Same HB (upd H2' rr (.tup ((sb z.2 h).map V.int))) := Same.trans sm2 (sm_new hrr)
  have hR : Tp (upd H2' rr (.tup ((sb z.2 h).map V.int))) rr (sb z.2 h) := upd_same
  generalize upd H2' rr (.tup ((sb z.2 h).map V.int)) = H4' at *
  have sm4 := Same.trans smn sr
  have hl4 := sr _ _ hln
  have hf4 := sr _ _ hfn
  have hq4 := sr _ _ hqn
  have hz4 := sr2 _ _ hz1B
  have hb4 := sm4 _ _ hb
  have lowd : low p (gt g h) ≠ 0 := by rw [G.rd]; exact hgt
  have sgh := sg _ (gt_ne hgt)
  have hbd : (gt g h).natAbs < 2 ^ 80 := by simp only at sgh; omega
  have gzk : z.2 ∈ u.map (·.1) := hzk
  refine ⟨_, rfl, rr, _, rfl, SqT.of hR, ?_, fun mn hmn hall => ⟨_, _, rfl, rfl, _, rfl, ?_⟩⟩
  · intro hnil
    have l0 := sb_len (k := z.2) (j := h) hmz.len hmh.len
    rw [hnil] at l0
    have := hL.pos
    simp at l0
    omega
  by_cases hneg : mn < 0
  · refine ifT (decide_eq_true hneg) (ifT rfl ?_)
    have d0 := hdv none (.bad hld ⟨mn, hmn, hneg⟩)
    exact (q H4' sm4).1 d0
  refine ifF (decide_eq_false hneg) ?_
  have hnn : ∀ x ∈ sb z.2 h, 0 ≤ x := fun x hx => by have := hall x hx; omega
  have gu1 : DGet H4' la (.ref z.1) (some (.int (gt u z.2))) := dget_tb hl4 hz4 hzk
  have gg1 : DGet H4' b (.ref qh) (some (.int (gt g h))) := dget_tb hb4 hq4 hhk
  refine tand_read (p = 0) (¬ gt g h ∣ gt u z.2) (fun Q' hq => ?_) (fun h0 Q' hq => ?_) ?_
  · refine ⟨_, rfl, rfl, _, rfl, ?_⟩
    have e : decide (V.int p = V.int 0) = decide (p = 0) := by simp
    rw [← e] at hq; exact hq
  · refine ⟨_, rfl, _, rfl, la, _, rfl, gu1, _, rfl, _, rfl, b, _, rfl, gg1, _, _, rfl, rfl, hgt, rfl, _, rfl, ?_⟩
    have e : (!decide (V.int ((gt u z.2).fmod (gt g h)) = V.int 0)) = decide (¬ gt g h ∣ gt u z.2) := by
      by_cases hdv : gt g h ∣ gt u z.2
      · simp [hdv, Int.fmod_eq_zero_of_dvd hdv]
      · have : (gt u z.2).fmod (gt g h) ≠ 0 := fun zz => hdv (Int.dvd_of_fmod_eq_zero zz)
        simp [hdv, this]
    rw [← e] at hq; exact hq
  by_cases hno : p = 0 ∧ ¬ gt g h ∣ gt u z.2
  · refine ifT (decide_eq_true hno) ?_
    have d0 := hdv none (.rest hld (.inr ⟨hno.1, .inr ⟨hno.2, rfl⟩⟩))
    exact (q H4' sm4).1 d0
  refine ifF (decide_eq_false hno) ⟨_, rfl, rfl, _, rfl, if_intP (fun c => Qo p (gt u z.2) (gt g h) (some c)) (fun hc Q' k => ?_) (fun hc Q' k => ?_) fun c H5 hQ s5' => ?_⟩
  · have h0 : p = 0 := by simpa using hc
    have hdv2 : gt g h ∣ gt u z.2 := by
      by_cases hdv : gt g h ∣ gt u z.2
      · exact hdv
      · exact absurd ⟨h0, hdv⟩ hno
    refine ⟨_, rfl, _, rfl, la, _, rfl, gu1, _, rfl, _, rfl, b, _, rfl, gg1, _, _, rfl, rfl, ⟨hgt, hbd⟩, ?_⟩
    have e : (gt u z.2).fdiv (gt g h) = gt u z.2 / gt g h := Int.fdiv_eq_ediv_of_dvd hdv2
    exact toQ (by show V.int ((gt u z.2).fdiv (gt g h)) = _; rw [e]) (k (gt u z.2 / gt g h) H4' (.inr ⟨h0, .inl ⟨hdv2, rfl⟩⟩) (Same.refl _))
  · have h0 : p ≠ 0 := by simpa using hc
    refine ⟨_, rfl, _, rfl, _, rfl, la, _, rfl, gu1, _, rfl, _, rfl, _, rfl, b, _, rfl, gg1, p, _, rfl, hp, h0, lowd, fun H5 i s5' hi => ?_⟩
    have h1 := hi.1
    have h2 := hi.2.1
    have h3 := hp.le
    refine ⟨_, _, rfl, rfl, .inr ⟨by omega, by omega⟩, p, _, rfl, hp, k _ H5 (.inl ⟨h0, i, hi, ?_⟩) s5'⟩
    rw [lowp h0]
  have hmr := hmz.sb hmh hnn
  have sm5a := Same.trans sm4 s5'
  have hf5 := s5' _ _ hf4
  have hl5 := s5' _ _ hl4
  have hR5 := s5' _ _ hR
  have hq5 := s5' _ _ hq4
  have lf := hff.len hL (by have := hmh.deg; omega)
  have hnk : sb z.2 h ∉ f.map (·.1) := fun hc => by
    obtain ⟨e, he, e1⟩ := List.mem_map.mp hc
    have := hlow e he ez hez
    rw [e1, cd_sb (by rw [hmz.len, hmh.len]), eze] at this
    omega
  refine ⟨_, rfl, _, rfl, _, rfl, fa, _, rfl, dput_tb hf5 hR5 (by omega), ?_⟩
  rw [put_new c hnk]
  have sm5 : Same H (upd H5 fa (.dT (et (f ++ [(sb z.2 h, c)])))) := sm_upd Hfa sm5a
  have hf6 : Tb (upd H5 fa (.dT (et (f ++ [(sb z.2 h, c)])))) fa (f ++ [(sb z.2 h, c)]) := upd_same
  have hl6 : Tb (upd H5 fa (.dT (et (f ++ [(sb z.2 h, c)])))) la u := by show upd H5 fa _ la = _; rw [upd_ne hne]; exact hl5
  have hR6 : Tp (upd H5 fa (.dT (et (f ++ [(sb z.2 h, c)])))) rr (sb z.2 h) := by
    show upd H5 fa _ rr = _; rw [upd_ne (ne_of hR5 hf5 (fun z => nomatch z))]; exact hR5
  have hq6 : Tp (upd H5 fa (.dT (et (f ++ [(sb z.2 h, c)])))) qh h := by
    show upd H5 fa _ qh = _; rw [upd_ne (ne_of hq5 hf5 (fun z => nomatch z))]; exact hq5
  generalize upd H5 fa (.dT (et (f ++ [(sb z.2 h, c)]))) = H6 at *
  refine ⟨_, rfl, _, rfl, _, rfl, fun dp hdp => ⟨_, rfl, _, rfl, ?_⟩⟩
  have hR7 : Tp (upd H6 dp (.dT [])) rr (sb z.2 h) := sm_new hdp _ _ hR6
  refine ⟨upd_same, [(rr, sb z.2 h, c)], rfl, ?_, by simp, by simp, ?_⟩
  · intro y hy
    rw [List.mem_singleton.mp hy]
    exact hR7
  rw [upd_upd]
  have s7 : Same H6 (upd H6 dp (.dT (et ([(rr, sb z.2 h, c)].map (·.2))))) := sm_new hdp
  have hdp7 : Tb (upd H6 dp (.dT (et ([(rr, sb z.2 h, c)].map (·.2))))) dp [(sb z.2 h, c)] := upd_same
  generalize upd H6 dp (.dT (et ([(rr, sb z.2 h, c)].map (·.2)))) = H7 at *
  have sm7 := Same.trans sm5 s7
  have hdb : dp ≠ b := fun e => by
    have := sm5 _ _ hb
    rw [← e, hdp] at this; cases this
  refine ⟨_, rfl, p, dp, b, [(sb z.2 h, c)], g, L, D - E', E', rfl, hp, hdb, hdp7, sm7 _ _ hb, hL, by omega, ⟨by simp [Nd], fun e he => by rw [List.mem_singleton.mp he]; exact hmr⟩, hgg, .inr sg, fun r8 H8 v s8 fr8 hv hv2 nv gv => ?_⟩
  have gv2 : ∀ k, gt v k = low p (c * sh (sb z.2 h) (gt g) k) := fun k => by rw [gv, ml_cons, ml_nil]; simp
  rw [show D - E' + E' = D by omega] at hv2
  refine ⟨_, rfl, p, la, r8, -1, u, v, L, D, rfl, hp, s8 _ _ (s7 _ _ hl6), hv, hL, hD, huu, hv2, ru, ⟨by decide, by decide⟩, fun r9 H9 w9 s9 fr9 hw hw2 nw gw => ?_⟩
  have gfun : gt w9 = stp p (gt g) (gt u) (sb z.2 h) c := by
    funext k
    rw [gw, gv2]
    unfold stp
    rw [show gt u k + -1 * low p (c * sh (sb z.2 h) (gt g) k) = gt u k - low p (c * sh (sb z.2 h) (gt g) k) by omega, low_sub']
  have s69 := Same.trans s7 (Same.trans s8 s9)
  have hcdlt : ∀ y ∈ w9, cd y.1 < cd z.2 := fun y hy => by
    have h1 : gt w9 y.1 ≠ 0 := by rw [gt_mem hw2.nd hy]; exact nw y hy
    rw [gfun] at h1
    exact stp_ld G hu hld (by omega) hnn hQ y.1 h1
  have hcz : cd z.2 < (m : Int) := by rw [← eze]; exact hm ez hez
  have hcz0 : 0 ≤ cd z.2 := (cd_bd (hmz.sm (by omega))).1
  refine ⟨(cd z.2).toNat, r9, w9, f ++ [(sb z.2 h, c)], _, _, _, _, _, by omega, fun e he => by have := hcdlt e he; omega, rfl, Same.trans sm5 s69, hw, s69 _ _ hf6, ?_, s69 _ _ hq6, hw2, nw, ?_, ?_, ?_, ?_⟩
  · exact fun e => by
      have h1 := (Same.trans s7 s8) _ _ hf6
      rw [← e, fr9] at h1; cases h1
  · rw [gfun]; exact stp_rd
  · exact ⟨by
      have := hff.nd
      unfold Nd at this ⊢
      rw [List.map_append, List.nodup_append]
      exact ⟨this, by simp, fun x hx y hy e => hnk (by have h9 := List.mem_singleton.mp hy; rw [e, h9] at hx; exact hx)⟩, fun e he => (List.mem_append.mp he).elim (hff.mo e) fun h => by rw [List.mem_singleton.mp h]; exact hmr⟩
  · intro e he y hy
    have h1 := hcdlt y hy
    rcases List.mem_append.mp he with h2 | h2
    · have := hlow e h2 ez hez
      rw [eze] at this
      omega
    · rw [List.mem_singleton.mp h2]
      show cd y.1 - cd h < cd (sb z.2 h)
      rw [cd_sb (by rw [hmz.len, hmh.len])]
      omega
  · intro res d
    rw [gfun] at d
    have d1 := hdv _ (.step hld hnn hQ d)
    cases res with
    | none => exact d1
    | some q =>
      rw [Option.map_some, Option.map_some] at d1
      rw [Option.map_some, List.append_assoc]
      exact d1
end
end Tg
end
section
set_option Elab.async false
set_option autoImplicit false
set_option linter.all false
set_option maxRecDepth 100000
set_option maxHeartbeats 4000000
set_option pp.maxSteps 600
/-! What the law is told. -/
namespace Tg
open PySem PySem.Spec PyProof.Rows L2 RZ
theorem tk0 {X : Cx} : Takes X (fun _ _ _ _ => False) := fun _ _ x => by
  obtain ⟨_, _, _, _, _, _, _, _, _, _, _, _, _, _, _, _, z⟩ := x
  exact z.elim
section
variable {X : Cx} {o e : Expr} {es : List Expr} {m : Str} {pos apos : Pos} {ta : TE} {t : TA}
/-- o.m(e, ..), o with slots, in a try -/
def tMethSlS (C : Addr) (sp : Sp) (E : L2.St → XK) (ta : TE) (t : TA) : TE := fun σ H Q => ta σ H fun x H1 => ∃ a dx vs, x = .ref a ∧ SlX.Slt H1 a C dx vs ∧ t σ H1 fun ws H2 => sp (x :: ws) H2 Q (E σ)
theorem run_fnRS {pins : List (Addr × Obj)} {σ : L2.St} {H : Hp} {s : Shared} {CX : CXT} {k : Nat} {f : Addr} {sp : Sp} {E : XK} {Q : VK} {us : List Value} {vs : List V} (F : FnR X.prog X.w X.K X.mg X.base CX k f sp) (hr : Room k X.A) (hx : PassesAt CX X σ E) (I : Inv X pins σ H s) (r : Vals vs us) (h : sp vs H Q E) :
    codeAny (model X.prog X.w) X.A (.call (.ref f) ⟨us, []⟩) (fun r s' => match r with | .ok (.ret v) => EP X pins σ Q v s' | .ok _ => False | .error e => X.xe e s') s := by
  refine codeAny_mono (F X.A X.stack s H us vs Q E hr I.env0 r h) fun r s' hq => ?_
  cases r with
  | error e => exact hx pins H s e s' I hq
  | ok fl =>
    cases fl with
    | ret u => exact I.after hq
    | next => exact False.elim hq
    | brk => exact False.elim hq
    | cont => exact False.elim hq
theorem pe_methSlS {CX : CXT} {k : Nat} {C g : Addr} {sp : Sp} {E : L2.St → XK} {pl : Sem Bool} (he : PE X o ta) (c : SlX.SCls X.K C) (hm : Meth X.K C m g) (F : FnR X.prog X.w X.K X.mg X.base CX k g sp) (hr : Room k X.A) (hx : ∀ σ, PassesAt CX X σ (E σ)) (ha : PA X (e :: es) t)
    (hst : starEach (e :: es) X.env = (false, eval e X.env) :: starEach es X.env := by rfl) (hpl : (backTo pos (starEach es X.env)).any (·.1) = false := by rfl)
    (ht : eval (.Call (.Attribute o m apos) (e :: es) [] pos) X.env = (do
      let ov ← eval o X.env
      standAt apos.atName
      let (f, first) ← holding [ov] (getMethod ov m pl)
      callWith pos f first (backTo pos (starEach (e :: es) X.env)) (backToKw pos (keywordEach [] X.env))) := by rfl) :
    PE X (.Call (.Attribute o m apos) (e :: es) [] pos) (tMethSlS C sp E ta t) := by
  refine ⟨fun pins s σ H Q I h => ?_⟩
  refine PySem.W.methodCall_KW (pl := pl) (thn (he.run pins s σ H _ I h) fun u s1 ⟨x, H1, I1, rx, a, dx, vs, ex, hsl, q⟩ => ?_) ht
  subst ex
  obtain rfl : u = Value.ref a := rx
  refine SlX.getmethsl_ok I1 hsl c hm ?_
  refine PySem.W.callWith_K (first := [.ref a]) (h₀ := X.base) I.ok.mod.kin hm.kp (thn (ha.run pos pins s1 σ H1 _ I1 q) fun us s2 ⟨ws, H2, I2, r, q2⟩ => ⟨I2.kIn, ?_⟩) hst hpl
  exact wpAny_call (run_fnRS (us := .ref a :: us) (vs := .ref a :: ws) F hr (hx σ) I2 (.cons rfl r) q2)
end
section
variable {P : Program} {w : World} {K : PySem.W.Frag} {mg : Str → Option Value} {base : Heap}
def sp_law_told (K : PySem.W.Frag) : Sp := fun vs H Q _ => ∃ (x a y b : Addr) (p : Int) (L : Nat) (D E' : Int) (t g : T) (h : Tg.K), vs = [.ref x, .ref y] ∧ Fo K H x L p a t ∧ Fo K H y L p b g ∧ Lt L ∧ D ≤ 6 ∧ Ds t ∧ Nz t ∧ Hm L D (gt t) ∧ Rdc p (gt t) ∧
  Ds g ∧ Nz g ∧ Sn g ∧ Dvr p L E' (gt g) h ∧ ∀ H', Same H H' →
    (Dv p (gt g) h (gt t) none → ∀ tp, H' tp = some (.tup [.str "rest"]) → Q (.ref tp) H') ∧
    ∀ q r u, Dv p (gt g) h (gt t) (some q) → Tb H' r u → Nd u → Nz u → (∀ k, gt u k = gt q k) → u.length = q.length → Q (.ref r) H'
theorem sc_law_told : FnScope ["_law_one", "_law_other", "error"] ["_law_one", "_law_other"] (defScope s_law_told) := ⟨rfl, rfl, rfl, by decide +kernel, rfl, by decide +kernel, by decide +kernel⟩
/- _law_one 0 _law_other 1 error 2 -/
theorem w_law_told (pg : Pg P) (px : Px K mg) : FnR P w K mg base CX0 11 (d_law_told.at_ K) (sp_law_told K) ∧ PySem.W.keepIn K (.ref (d_law_told.at_ K)) = true := by
  obtain ⟨pq, pq1, pq2, pq3, pq4⟩ := px.prop
  refine px.R 54 rfl rfl rfl sc_law_told (fun vs H Q E ⟨_, _, _, _, _, _, _, _, _, _, _, e, _⟩ => by rw [e]; rfl) (fun _ _ _ _ _ _ us hl => match us, hl with | [_, _], _ => rfl) (fun cdv A outer s H vs Q E hr h => ⟨_,
    pss_one (ps_try_as (i := 2) rfl rfl sc_law_told.nd rfl rfl ⟨rfl, by decide, .inl (px.g "Refused" (by simp [gloL]))⟩ tk0
      (fun W pn xe tkW po => pss_one (ps_ret (SlX.pe_propSl (E := E0) (pe_methSlS (pv 0) px.cl.sf (px.meth (m := "over") (by simp [methL])) (w_Form_over pg px).1 (hr.mono (by decide)) (fun σ => passAt tkW σ) (pa_cons (pv 1) pa_nil)) px.cl.sf pq1 pq2 pq3 pq4 (w_Form_table px).1 (hr.mono (by decide)) (fun _ _ _ _ h => h))))
      (fun a oe cls d pn hz hf => pss_one (ps_ret (pe_xf px.txt.2.1 px.txt.1.noN hz hf (pv 2))))), ?_⟩)
  obtain ⟨x, a, y, b, p, L, D, E', t, g, h, rfl, hx, hy, hL, hD, dt, nz, ht, rd, dg_, ng, sg, G, q⟩ := h
  obtain ⟨dx, hx1, hx2⟩ := id hx
  refine ⟨_, rfl, x, dx, _, rfl, hx1, _, rfl, x, a, y, b, p, L, D, E', t, g, h, rfl, hx, hy, hL, hD, dt, nz, ht, rd, dg_, ng, sg, G, fun H1 s1 => ⟨fun hd tp d htp hdn => ?_, fun qt z c hd hz => ?_⟩⟩
  · refine ⟨true, px.txt.2.2, fun _ e he => ?_, fun h => nomatch h⟩
    refine ⟨_, rfl, rfl, rfl, d, _, _, rfl, upd_same, rfl, ?_⟩
    exact (q _ (Same.trans s1 (sm_new hdn))).1 hd tp (sm_new hdn _ _ htp)
  · obtain ⟨dz, hz1, hz2⟩ := id hz
    obtain ⟨tm, dq, _⟩ := hd.props G (by omega) ht rd qt rfl
    have hE := G.mo.deg
    refine ⟨z, dz, _, rfl, hz1, z, c, p, L, D - E', qt, rfl, hz, hL, by omega, Ht.of dq tm.nz tm.hm, tm.nz, fun H2 r u s2 fr hu nu zu gu lu => ?_⟩
    exact (q H2 (Same.trans s1 s2)).2 qt r u hd hu nu zu gu lu
end
end Tg
end
section
set_option Elab.async false
set_option autoImplicit false
set_option linter.all false
set_option maxRecDepth 100000
set_option maxHeartbeats 4000000
set_option pp.maxSteps 600
/-! The law's comparison of quotients. -/
namespace Tg
open PySem PySem.Spec PyProof.Rows L2 RZ
theorem OpR.or {X : Cx} {f : Value → Value → Sem Value} {r1 r2 : R2} (h1 : OpR X f r1) (h2 : OpR X f r2) : OpR X f (fun x y H Q => r1 x y H Q ∨ r2 x y H Q) :=
  fun pins s σ H x y v u Q I rx ry h => h.elim (h1 pins s σ H x y v u Q I rx ry) (h2 pins s σ H x y v u Q I rx ry)
theorem max_ex : ∀ {t : T}, t ≠ [] → ∃ e ∈ t, ∀ y ∈ t, cd y.1 ≤ cd e.1
  | [], h => absurd rfl h
  | [e], _ => ⟨e, List.mem_cons_self, fun y hy => by rw [List.mem_singleton.mp hy]; exact Int.le_refl _⟩
  | e :: f :: t, _ => by
    obtain ⟨m, hm, hh⟩ := max_ex (t := f :: t) (by simp)
    by_cases h : cd m.1 ≤ cd e.1
    · exact ⟨e, List.mem_cons_self, fun y hy => (List.mem_cons.mp hy).elim (fun z => by rw [z]; exact Int.le_refl _) fun z => Int.le_trans (hh y z) h⟩
    · exact ⟨m, List.mem_cons_of_mem _ hm, fun y hy => (List.mem_cons.mp hy).elim (fun z => by rw [z]; omega) (hh y)⟩
theorem ld_ex {L : Nat} {D : Int} {t : T} (ht : Ht L D t) (nz : Nz t) (hne : t ≠ []) : ∃ h, Ld (gt t) h := by
  obtain ⟨e, he, hm⟩ := max_ex hne
  refine ⟨e.1, by rw [gt_mem ht.nd he]; exact nz e he, fun k hk => hm _ (gt_ne hk)⟩
theorem Gv.nz {p : Int} {L : Nat} {D : Int} {t : T} (h : Gv p L D t) : Nz t := fun e he => (h.2.2 e he).2.1
theorem Gv.rd {p : Int} {L : Nat} {D : Int} {t : T} (h : Gv p L D t) : Rdc p (gt t) := mem_gt_rd h.2.1.nd fun e he => (h.2.2 e he).1
theorem Gv.dvr {p : Int} {L : Nat} {D : Int} {t : T} (hp : Pm p) (h : Gv p L D t) (hne : t ≠ []) : ∃ k, Dvr p L D (gt t) k := by
  obtain ⟨k, hk⟩ := ld_ex h.2.1 h.nz hne
  exact ⟨k, hp, h.2.1.hm, h.rd, hk, by have := h.1; omega⟩
theorem alike_of {u q : T} (nu : Nd u) (zu : Nz u) (h : ∀ k, gt u k = gt q k) (hl : u.length = q.length) : Alike u q := ⟨hl, fun e he => by
  have h1 := gt_mem nu he
  rw [h] at h1
  have h2 := gt_ne (t := q) (k := e.1) (by rw [h1]; exact zu e he)
  rw [h1] at h2; exact h2⟩
/-- the forms' tables have the length of what they are made of -/
theorem len_of {u q : T} (nu : Nd u) (nq : Nd q) (zu : Nz u) (zq : Nz q) (h : ∀ k, gt u k = gt q k) : u.length = q.length := by
  have sub : ∀ {a b : T}, Nd a → Nz a → (∀ k, gt a k = gt b k) → (a.map (·.1)).length ≤ (b.map (·.1)).length := fun {a b} na za hh => len_sub na fun x hx => by
    obtain ⟨e, he, rfl⟩ := List.mem_map.mp hx
    have h1 := gt_mem na he
    rw [hh] at h1
    exact List.mem_map_of_mem (f := fun e => e.1) (gt_ne (t := b) (k := e.1) (by rw [h1]; exact za e he))
  have h1 := sub nu zu h
  have h2 := sub nq zq fun k => (h k).symm
  simp only [List.length_map] at h1 h2
  omega
section
variable {P : Program} {w : World} {K : PySem.W.Frag} {mg : Str → Option Value} {base : Heap}
def sp_law_over_right : Sp := fun vs H Q _ => ∃ (p : Int) (L : Nat) (a b : Addr) (t g : T) (D E' : Int), vs = [.int p, .int L, .ref a, .ref b] ∧ Pm p ∧ Lt L ∧ Tb H a t ∧ Tb H b g ∧ Gv p L D t ∧ Gv p L E' g ∧ Sn g ∧ g ≠ [] ∧ ∀ H', Same H H' → Q (.bl true) H'
theorem sc_law_over_right : FnScope ["_law_prime_here", "_law_letters", "_law_one", "_law_other", "_law_due", "_law_told_here"] ["_law_prime_here", "_law_letters", "_law_one", "_law_other"] (defScope s_law_over_right) := ⟨rfl, rfl, rfl, by decide +kernel, rfl, by decide +kernel, by decide +kernel⟩
/- _law_prime_here 0 _law_letters 1 _law_one 2 _law_other 3 _law_due 4 _law_told_here 5 -/
theorem w_law_over_right (pg : Pg P) (px : Px K mg) : FnR P w K mg base CX0 12 (d_law_over_right.at_ K) sp_law_over_right ∧ PySem.W.keepIn K (.ref (d_law_over_right.at_ K)) = true := by
  refine px.R 55 rfl rfl rfl sc_law_over_right (fun vs H Q E ⟨_, _, _, _, _, _, _, _, e, _⟩ => by rw [e]; rfl) (fun _ _ _ _ _ _ us hl => match us, hl with | [_, _, _, _], _ => rfl) (fun cdv A outer s H vs Q E hr h => ⟨_, (pss_cons (ps_set (i := 4) sc_law_over_right.nd rfl (Or.inl rfl) (pe_cR (w_law_fquotient px) (hr.mono (by decide)) (px.g "_law_fquotient" (by simp [gloL])) pass0 (pa_cons (pv 0) (pa_cons (pv 2) (pa_cons (pv 3) pa_nil))))) (pss_cons (ps_set (i := 5) sc_law_over_right.nd rfl (Or.inl rfl) (pe_cR (w_law_told pg px) (hr.mono (by decide)) (px.g "_law_told" (by simp [gloL])) pass0 (pa_cons (pe_cR (w_law_form px) (hr.mono (by decide)) (px.g "_law_form" (by simp [gloL])) pass0 (pa_cons (pv 0) (pa_cons (pv 1) (pa_cons (pv 2) pa_nil)))) (pa_cons (pe_cR (w_law_form px) (hr.mono (by decide)) (px.g "_law_form" (by simp [gloL])) pass0 (pa_cons (pv 0) (pa_cons (pv 1) (pa_cons (pv 3) pa_nil)))) pa_nil)))) (pss_one (ps_ret (pe_cmpR (OpR.or (op_eqT (un1 hr)) (op_eqD hr.units)) (pv 5) (pe_ifExp (pt_cmp (pc_isN (pv 4))) (pe_tup (pa_cons pe_str pa_nil)) (pv 4)) (nomark _)))))), ?_⟩)
  obtain ⟨p, L, a, b, t, g, D, E', rfl, hp, hL, ha, hb, hG, hGg, sg, gne, q⟩ := h
  obtain ⟨h, G⟩ := hGg.dvr hp gne
  refine ⟨_, rfl, _, rfl, _, rfl, p, a, b, t, g, h, L, D, E', rfl, ha, hb, hL, G, hG.1, hGg.1, hG.2.1, hG.nz, hG.rd, hGg.2.1, hGg.nz, sg, fun H1 s1 => ?_⟩
  have step : ∀ (H1 : Hp) (dv : V) (res : Option Tg.T), Same H H1 → Dv p (gt g) h (gt t) res → ((res = none ∧ dv = .non) ∨ ∃ q r, res = some q ∧ dv = .ref r ∧ Tb H1 r q) →
      (tSeq (tAsg (tCR (sp_law_told K) E0 (tCons (tCR (sp_law_form K) E0 (tCons (tVar 0) (tCons (tVar 1) (tCons (tVar 2) tNil)))) (tCons (tCR (sp_law_form K) E0 (tCons (tVar 0) (tCons (tVar 1) (tCons (tVar 3) tNil)))) tNil))) (gName 5))
        (tRet (tOp (fun x y H Q => rEqT x y H Q ∨ rEqD K x y H Q) (tVar 5) (tIf (tB (tIsN (tVar 4))) (tTup (tCons (tC (.str "rest")) tNil)) (tVar 4))))) { nx := fun x H' => Q V.non H', rt := Q } [some (.int p), some (.int L), some (.ref a), some (.ref b), some dv, none] H1 := by
    intro H1 dv res s1 hd hres
    refine ⟨_, rfl, _, rfl, _, rfl, p, L, D, a, t, rfl, hp, hL, s1 _ _ ha, hG, fun H2 x xa t2 s2 fx hx dt2 zt2 gt2 => ?_⟩
    have s12 := Same.trans s1 s2
    refine ⟨_, rfl, _, rfl, _, rfl, p, L, E', b, g, rfl, hp, hL, s12 _ _ hb, hGg, fun H3 y yb g2 s3 fy hy dg2 zg2 gg2 => ?_⟩
    have s13 := Same.trans s12 s3
    have e1 : gt t2 = gt t := funext gt2
    have e2 : gt g2 = gt g := funext gg2
    have sg2 : Sn g2 := fun e he => by
      have h1 := gt_mem dg2.nd he
      rw [e2] at h1
      have h2 := sg _ (gt_ne (t := g) (k := e.1) (by rw [h1]; exact zg2 e he))
      simp only at h2
      rw [h1] at h2; exact h2
    refine ⟨x, xa, y, yb, p, L, D, E', t2, g2, h, rfl, fo_same hx s3, hy, hL, hG.1, dt2, zt2, by rw [e1]; exact hG.2.1.hm, by rw [e1]; exact hG.rd, dg2, zg2, sg2, by rw [e2]; exact G, fun H4 s4 => ⟨fun hd2 tp htp => ?_, fun qt r u hd2 hru nu zu gu lu => ?_⟩⟩
    · rw [e1, e2] at hd2
      have hdt := Dv.det G (by have := hG.1; omega) hG.2.1.hm hd hd2
      rcases hres with ⟨rfl, rfl⟩ | ⟨q0, r0, rfl, _, _⟩
      · refine ⟨_, rfl, _, rfl, _, rfl, ifT rfl ⟨by show 1 ≤ sizeLine; decide, fun tq htq => .inr ?_⟩⟩
        refine ⟨.tuple [.str "rest"], .tuple [.str "rest"], .tup (SqT.of (sm_new htq _ _ htp)) (.cons (.str _) .nil), .tup (SqT.of upd_same) (.cons (.str _) .nil), by decide +kernel, by decide +kernel, ?_⟩
        exact toQ (by congr 1) (q _ (Same.trans s13 (Same.trans s4 (sm_new htq))))
      · cases hdt
    · rw [e1, e2] at hd2
      have hdt := Dv.det G (by have := hG.1; omega) hG.2.1.hm hd hd2
      rcases hres with ⟨rfl, rfl⟩ | ⟨q0, r0, rfl, rfl, hr0⟩
      · cases hdt
      · obtain rfl := Option.some.inj hdt
        refine ⟨_, rfl, _, rfl, _, rfl, ifF rfl ⟨_, rfl, .inl ?_⟩⟩
        exact ⟨r, r0, u, q0, rfl, rfl, hru, (Same.trans s2 (Same.trans s3 s4)) _ _ hr0, .inr ⟨alike_of nu zu gu lu, q _ (Same.trans s13 s4)⟩⟩
  exact ⟨fun hd => step H1 .non none s1 hd (.inl ⟨rfl, rfl⟩), fun qt r hd fr hr1 => step H1 (.ref r) (some qt) s1 hd (.inr ⟨qt, r, rfl, rfl, hr1⟩)⟩
end
end Tg
end
section
set_option Elab.async false
set_option autoImplicit false
set_option linter.all false
set_option maxRecDepth 100000
set_option maxHeartbeats 4000000
set_option pp.maxSteps 600
/-! The law's orders. -/
namespace Tg
open PySem PySem.Spec PyProof.Rows L2 RZ
section
variable {P : Program} {w : World} {K : PySem.W.Frag} {mg : Str → Option Value} {base : Heap}
def sp_law_order : Sp := fun vs H Q _ => ∃ (p : Int) (a b : Addr) (t g : T) (h : Tg.K) (L : Nat) (D : Int) (n : Nat), vs = [.int p, .ref a, .ref b] ∧ Tb H a t ∧ Tb H b g ∧ Lt L ∧ Dvr p L 1 (gt g) h ∧ D ≤ 6 ∧ Ht L D t ∧ Nz t ∧ Rdc p (gt t) ∧ t ≠ [] ∧ Ht L 1 g ∧ Nz g ∧ Sn g ∧ Od p (gt g) h (gt t) n ∧ ∀ H', Same H H' → Q (.int n) H'
theorem sc_law_order : FnScope ["_law_prime_here", "_law_table", "_law_linear", "_law_found", "_law_left", "_law_turn"] ["_law_prime_here", "_law_table", "_law_linear"] (defScope s_law_order) := ⟨rfl, rfl, rfl, by decide +kernel, rfl, by decide +kernel, by decide +kernel⟩
/- _law_prime_here 0 _law_table 1 _law_linear 2 _law_found 3 _law_left 4 _law_turn 5 -/
theorem w_law_order (px : Px K mg) : FnR P w K mg base CX0 4 (d_law_order.at_ K) sp_law_order ∧ PySem.W.keepIn K (.ref (d_law_order.at_ K)) = true := by
  refine px.R 57 rfl rfl rfl sc_law_order (fun vs H Q E ⟨_, _, _, _, _, _, _, _, _, e, _⟩ => by rw [e]; rfl) (fun _ _ _ _ _ _ us hl => match us, hl with | [_, _, _], _ => rfl) (fun cdv A outer s H vs Q E hr h => ⟨_, (pss_cons (ps_par (i := 3) (j := 4) rfl sc_law_order.nd rfl rfl (by decide) rfl rfl (pa_cons pe_int (pa_cons (pv 1) pa_nil)) (by rfl)) (pss_cons (ps_for PassesOwn.leaving rfl (pi_range1 rfl (px.f "range" (by simp [freeL])) (pa_cons pe_int pa_nil)) (pg_name (i := 5) sc_law_order.nd rfl (Or.inl rfl)) (pss_cons (ps_set (i := 4) sc_law_order.nd rfl (Or.inl rfl) (pe_cR (w_law_fquotient px) (hr.mono (by decide)) (px.g "_law_fquotient" (by simp [gloL])) pass0 (pa_cons (pv 0) (pa_cons (pv 4) (pa_cons (pv 2) pa_nil))))) (pss_cons (ps_if (pt_cmp (pc_isN (pv 4))) (pss_one ps_break) pss_nil) (pss_one (ps_set (i := 3) sc_law_order.nd rfl (Or.inl rfl) (pe_op op_add (pv 3) pe_int)))))) (pss_one (ps_ret (pv 3))))), ?_⟩)
  obtain ⟨p, a, b, t, g, h, L, D, n, rfl, ha, hb, hL, G, hD, ht, zt, rt, tne, hg, zg, sg, hO, q⟩ := h
  refine ⟨_, rfl, _, _, rfl, 41, rfl, by omega, by omega, ?_⟩
  refine for_range (n := 41) (fun i σ' H' => ∃ (r : Addr) (u : Tg.T) (x5 : Option V), σ' = [some (.int p), some (.ref a), some (.ref b), some (.int i), some (.ref r), x5] ∧ Same H H' ∧ Tb H' r u ∧ Ht L (D - i) u ∧ Nz u ∧ Rdc p (gt u) ∧ u ≠ [] ∧ ∀ m, Od p (gt g) h (gt u) m → Od p (gt g) h (gt t) (i + m)) ⟨a, t, none, rfl, Same.refl _, ha, by rw [show D - ((0 : Nat) : Int) = D by omega]; exact ht, zt, rt, tne, fun m o => by rw [Nat.zero_add]; exact o⟩ ?_ ?_
  · rintro i σ' H1 hi ⟨r, u, x5, rfl, sm, hru, hu, zu, ru, une, ho⟩
    have hb1 := sm _ _ hb
    refine ⟨_, rfl, _, rfl, _, rfl, p, r, b, u, g, h, L, D - i, 1, rfl, hru, hb1, hL, G, by omega, by omega, hu, zu, ru, hg, zg, sg, fun H2 s2 => ⟨fun hd => ?_, fun qt r2 hd fr hr2 => ?_⟩⟩
    · refine ⟨_, rfl, _, rfl, ifT rfl ⟨_, rfl, ?_⟩⟩
      have h1 := ho 0 (.stop hd)
      rw [Nat.add_zero] at h1
      have h2 := Od.det G h1 (by omega) (by omega) ht.hm rt hO
      exact toQ (by rw [h2]) (q H2 (Same.trans sm s2))
    · refine ⟨_, rfl, _, rfl, ifF rfl ⟨_, rfl, _, _, rfl, rfl, ?_⟩⟩
      obtain ⟨tm, dq, _⟩ := hd.props G (by omega) hu.hm ru qt rfl
      have qne := hd.ne (gt_ex zu une)
      have hh : Ht L (D - ((i + 1 : Nat) : Int)) qt := by
        have := Ht.of dq tm.nz tm.hm
        rw [show D - (i : Int) - 1 = D - ((i + 1 : Nat) : Int) by omega] at this
        exact this
      refine ⟨r2, qt, some (.int (0 + (i : Int))), ?_, Same.trans sm s2, hr2, hh, tm.nz, tm.rd, qne, fun m o => ?_⟩
      · show [some (V.int p), some (.ref a), some (.ref b), some (V.int ((i : Int) + 1)), some (.ref r2), some (.int (0 + (i : Int)))] = _
        have : ((i : Int) + 1) = ((i + 1 : Nat) : Int) := by omega
        rw [this]
      · rw [show i + 1 + m = i + (m + 1) by omega]; exact ho _ (.more hd o)
  · rintro σ' H1 ⟨r, u, x5, rfl, sm, hru, hu, zu, ru, une, ho⟩
    exfalso
    obtain ⟨k, hk⟩ := gt_ex zu une
    have := (hu.hm k hk).deg
    omega
end
end Tg
end
section
set_option Elab.async false
set_option autoImplicit false
set_option linter.all false
set_option maxRecDepth 100000
set_option maxHeartbeats 4000000
set_option pp.maxSteps 600
/-! The law's cleared forms. -/
namespace Tg
open PySem PySem.Spec PyProof.Rows L2 RZ
theorem nf_self {K : PySem.W.Frag} {C : Addr} : PySem.W.notFirst K C (.ref C) = true := by
  unfold PySem.W.notFirst
  have : (Value.ref C == Value.ref C) = true := by first | exact beq_self_eq_true _ | decide | simp
  rw [this]; rfl
/-- t, all its values moved by c -/
theorem scale_tab {p c : Int} {L : Nat} {D : Int} (P : Pm p) (hc : low p c ≠ 0) {t u : T} (dt : Ds t) (zt : Nz t) (rt : Rdc p (gt t)) (du : Ds u) (zu : Nz u) (h : ∀ k, gt u k = low p (c * gt t k)) : u = t.map fun e => (e.1, low p (c * e.2)) := by
  have nz : Nz (t.map fun e => (e.1, low p (c * e.2))) := fun e he => by
    obtain ⟨z, hz, rfl⟩ := List.mem_map.mp he
    intro h0
    have hz0 : low p (c * z.2) = 0 := h0
    rcases P.mul hz0 with h1 | h1
    · exact hc h1
    · have h2 := rt z.1
      rw [gt_mem dt.nd hz] at h2
      rw [h2] at h1
      exact zt z hz h1
  refine Ds.ext du (ds_of_keys (keys_map (fun n => low p (c * n)) t) dt) zu nz fun k => ?_
  rw [h, gt_map (fun n => low p (c * n)) (by simp [low_zero])]
theorem alike_refl (t : T) : Alike t t := ⟨rfl, fun _ h => h⟩
/-- a drawn table may be given -/
theorem Vs.gv {p S : Int} {L : Nat} {D : Int} {t : T} (v : Vs p S t) (hS : S ≤ 2 ^ 41) (hD : D ≤ 6) (ht : Ht L D t) : Gv p L D t := ⟨hD, ht, fun e he => by
  obtain ⟨h1, h2, h3⟩ := v e he
  exact ⟨h1, h2, by omega, by omega⟩⟩
theorem Vs.sn {p S : Int} {t : T} (v : Vs p S t) (hS : S ≤ 2 ^ 41) : Sn t := fun e he => by
  obtain ⟨h1, h2, h3⟩ := v e he
  omega
/-- a bound told by the function -/
theorem bd_of {B : Int} {t u : T} (nu : Nd u) (zu : Nz u) (h : ∀ k, gt u k = gt t k) (b : ∀ e ∈ t, -B < e.2 ∧ e.2 < B) : ∀ e ∈ u, -B < e.2 ∧ e.2 < B := fun e he => by
  have h1 := gt_mem nu he
  rw [h] at h1
  have h2 := b _ (gt_ne (t := t) (k := e.1) (by rw [h1]; exact zu e he))
  simp only at h2
  rw [h1] at h2; exact h2
theorem low_bd2 {p : Int} (P : Pm p) (z : Int) : ((low p z).natAbs : Int) ≤ z.natAbs + 11 := by
  by_cases h : p = 0
  · rw [h, low0]; omega
  · have := low_bd P h z
    have := P.le
    omega
section
variable {P : Program} {w : World} {K : PySem.W.Frag} {mg : Str → Option Value} {base : Heap}
def sp_law_cleared_right : Sp := fun vs H Q _ => ∃ (g : Addr) (p : Int) (L : Nat), vs = [.ref g, .int p, .int L] ∧ Pm p ∧ Lt L ∧ Bg H g ∧ ∀ H', KB g H H' → Q (.bl true) H'
theorem sc_law_cleared_right : FnScope ["_law_bag_here", "_law_prime_here", "_law_letters", "_law_table", "_law_factor", "_law_form_here", "_law_more"] ["_law_bag_here", "_law_prime_here", "_law_letters"] (defScope s_law_cleared_right) := ⟨rfl, rfl, rfl, by decide +kernel, rfl, by decide +kernel, by decide +kernel⟩
/- _law_bag_here 0 _law_prime_here 1 _law_letters 2 _law_table 3 _law_factor 4 _law_form_here 5 _law_more 6 -/
theorem w_law_cleared_right (px : Px K mg) : FnR P w K mg base CX0 11 (d_law_cleared_right.at_ K) sp_law_cleared_right ∧ PySem.W.keepIn K (.ref (d_law_cleared_right.at_ K)) = true := by
  obtain ⟨pq, pq1, pq2, pq3, pq4⟩ := px.prop
  refine px.R 59 rfl rfl rfl sc_law_cleared_right (fun vs H Q E ⟨_, _, _, e, _⟩ => by rw [e]; rfl) (fun _ _ _ _ _ _ us hl => match us, hl with | [_, _, _], _ => rfl) (fun cdv A outer s H vs Q E hr h => ⟨_, (pss_cons (ps_set (i := 3) sc_law_cleared_right.nd rfl (Or.inl rfl) (pe_cR (w_law_terms px) (hr.mono (by decide)) (px.g "_law_terms" (by simp [gloL])) pass0 (pa_cons (pv 0) (pa_cons (pv 1) (pa_cons (pv 2) (pa_cons (pe_cR (w_law_grab px) (hr.mono (by decide)) (px.g "_law_grab" (by simp [gloL])) pass0 (pa_cons (pv 0) (pa_cons pe_int pa_nil))) (pa_cons pe_int pa_nil))))))) (pss_cons (ps_set (i := 4) sc_law_cleared_right.nd rfl (Or.inl rfl) (pe_cR (w_law_entry px) (hr.mono (by decide)) (px.g "_law_entry" (by simp [gloL])) pass0 (pa_cons (pv 0) (pa_cons (pv 1) (pa_cons (pe_op op_powL pe_int pe_int) pa_nil))))) (pss_cons (ps_par (i := 5) (j := 6) rfl sc_law_cleared_right.nd rfl rfl (by decide) rfl rfl (pa_cons (pe_cR (w_law_form px) (hr.mono (by decide)) (px.g "_law_form" (by simp [gloL])) pass0 (pa_cons (pv 1) (pa_cons (pv 2) (pa_cons (pv 3) pa_nil)))) (pa_cons (pe_cR (w_law_form px) (hr.mono (by decide)) (px.g "_law_form" (by simp [gloL])) pass0 (pa_cons (pv 1) (pa_cons (pv 2) (pa_cons (pe_cR (w_law_fsum px) (hr.mono (by decide)) (px.g "_law_fsum" (by simp [gloL])) pass0 (pa_cons (pv 1) (pa_cons pe_dnewT (pa_cons (pv 3) (pa_cons (pv 4) pa_nil))))) pa_nil)))) pa_nil)) (by rfl)) (pss_cons (ps_if (PW.pt (pw_or (pt_cmpR (op_neT (un1 hr)) (SlX.pe_propSl (E := E0) (SlX.pe_methSl0 (pv 5) px.cl.sf (px.meth (m := "cleared") (by simp [methL])) (w_Form_cleared px).1 (hr.mono (by decide)) pass0) px.cl.sf pq1 pq2 pq3 pq4 (w_Form_table px).1 (hr.mono (by decide)) (fun _ _ _ _ h => h)) (pe_cR (w_law_fcleared px) (hr.mono (by decide)) (px.g "_law_fcleared" (by simp [gloL])) pass0 (pa_cons (pv 1) (pa_cons (pv 3) pa_nil))) (nomark _)) (pw_or1 (pt_cmpR (op_neOwn (E := E0) px.cl.ne px.cl.if_.cm (px.meth (m := "__eq__") (by simp [methL])).at_ (px.meth (m := "__eq__") (by simp [methL])).fn (w_Form_eq px).1 (hr.mono (by decide)) pass0) (SlX.pe_methSl0 (pv 6) px.cl.sf (px.meth (m := "cleared") (by simp [methL])) (w_Form_cleared px).1 (hr.mono (by decide)) pass0) (SlX.pe_methSl0 (pv 5) px.cl.sf (px.meth (m := "cleared") (by simp [methL])) (w_Form_cleared px).1 (hr.mono (by decide)) pass0) (nomark _))))) (pss_one (ps_ret pe_bl)) pss_nil) (pss_one (ps_ret (pe_and (pe_cmpR (SlX.op_own (E := E0) (fun _ _ => rfl) (px.meth (m := "__eq__") (by simp [methL])).at_ (px.meth (m := "__eq__") (by simp [methL])).fn (w_Form_eq px).1 (hr.mono (by decide)) pass0) (SlX.pe_methSl0 (SlX.pe_methSl0 (pv 5) px.cl.sf (px.meth (m := "cleared") (by simp [methL])) (w_Form_cleared px).1 (hr.mono (by decide)) pass0) px.cl.sf (px.meth (m := "cleared") (by simp [methL])) (w_Form_cleared px).1 (hr.mono (by decide)) pass0) (SlX.pe_methSl0 (pv 5) px.cl.sf (px.meth (m := "cleared") (by simp [methL])) (w_Form_cleared px).1 (hr.mono (by decide)) pass0) (nomark _)) (pe_one (pe_cmpR (op_eqT (un1 hr)) (SlX.pe_propSl (E := E0) (pv 5) px.cl.sf pq1 pq2 pq3 pq4 (w_Form_table px).1 (hr.mono (by decide)) (fun _ _ _ _ h => h)) (pv 3) (nomark _)))))))))), ?_⟩)
  obtain ⟨g, p, L, rfl, hp, hL, hb, q⟩ := h
  refine ⟨_, rfl, _, rfl, _, rfl, _, rfl, g, 5, rfl, by decide, by decide, hb, fun H1 r kb1 r0 r1 => ?_⟩
  obtain ⟨D, rfl⟩ := Int.eq_ofNat_of_zero_le r0
  refine ⟨g, p, 40, L, D, rfl, hp, by decide, by decide, hL, by omega, kb1.b', fun H2 a t kb2 fa ha ht hv => ?_⟩
  refine ⟨_, rfl, _, rfl, _, _, rfl, rfl, ?_⟩
  have hGv := hv.gv (by decide) (by omega : ((D : Nat) : Int) ≤ 6) ht
  refine ⟨by decide +kernel, g, p, 10 ^ 9, rfl, hp, by decide, by decide, kb2.b', fun H3 f kb3 f1 f2 f3 => ?_⟩
  have kb13 := kb1.trans (kb2.trans kb3)
  have ha3 := kb3.tb ha
  refine ⟨_, rfl, _, rfl, _, rfl, p, L, D, a, t, rfl, hp, hL, ha3, hGv, fun H4 x xa t1 s4 fx hx dt1 zt1 gt1 => ?_⟩
  refine ⟨_, rfl, _, rfl, _, rfl, fun e he => ⟨_, rfl, _, rfl, p, e, a, f, [], t, L, D, rfl, hp, upd_same, sm_new he _ _ (s4 _ _ ha3), hL, by omega, Ht.nil _ _, ht, (fun k => by rw [gt_nil, low_zero]), ⟨by omega, by omega⟩, fun r5 H5 v s5 fr5 hv5 hvh nv gv => ?_⟩⟩
  have gv2 : ∀ k, gt v k = low p (f * gt t k) := fun k => by rw [gv, gt_nil, Int.zero_add]
  have bdv : ∀ e ∈ v, -(2 ^ 50) < e.2 ∧ e.2 < 2 ^ 50 := fun e he => by
    have h1 := gt_mem hvh.nd he
    rw [gv2] at h1
    have h2 := low_bd2 hp (f * gt t e.1)
    rw [h1, Int.natAbs_mul] at h2
    have h3 : (gt t e.1).natAbs ≤ 50 := by
      by_cases h0 : gt t e.1 = 0
      · rw [h0]; decide
      · have := (hv _ (gt_ne h0)).2.2
        simp only at this; omega
    have h4 : f.natAbs ≤ 10 ^ 9 + 10 := by omega
    have h5 := Nat.mul_le_mul h4 h3
    omega
  have rdv : ∀ e ∈ v, low p e.2 = e.2 := fun e he => by
    have h1 := gt_mem hvh.nd he
    rw [gv2] at h1
    rw [← h1, low_low]
  have hGv2 : Gv p L D v := ⟨by omega, hvh, fun e he => ⟨rdv e he, nv e he, by have := bdv e he; omega, by have := bdv e he; omega⟩⟩
  have s35 : Same H3 H5 := Same.trans s4 (Same.trans (sm_new he) s5)
  refine ⟨p, L, D, r5, v, rfl, hp, hL, hv5, hGv2, fun H6 y yb t2 s6 fy hy dt2 zt2 gt2 => ⟨_, _, rfl, ?_⟩⟩
  have s36 := Same.trans s35 s6
  have hx6 := fo_same hx (Same.trans (Same.trans (sm_new (o := .dT []) he) s5) s6)
  have ha6 := s36 _ _ ha3
  -- the tables
  have ht1 : Ht L (D : Int) t1 := Ht.of dt1 zt1 fun k hk => ht.hm k (by rw [← gt1]; exact hk)
  have rd1 : Rdc p (gt t1) := fun k => by rw [gt1]; exact hGv.rd k
  have sn1 : Sn t1 := fun e he => by
    have := bd_of (B := 2 ^ 64) dt1.nd zt1 gt1 (fun e he => by have := hv.sn (by decide) e he; exact this) e he
    exact this
  have ht2 : Ht L (D : Int) t2 := Ht.of dt2 zt2 fun k hk => hvh.hm k (by rw [← gt2]; exact hk)
  have rd2 : Rdc p (gt t2) := fun k => by rw [gt2]; exact hGv2.rd k
  have sn2 : Sn t2 := fun e he => by
    have := bd_of (B := 2 ^ 50) dt2.nd zt2 gt2 bdv e he
    omega
  have hf : low p f ≠ 0 := by rw [f1]; exact f2
  have hsc : t2 = t1.map fun e => (e.1, low p (f * e.2)) := scale_tab (L := L) (D := D) hp hf dt1 zt1 rd1 dt2 zt2 fun k => by rw [gt2, gv2, gt1]
  have cl2 : ∀ u, Clr p t1 u → Clr p t2 u := fun u hc => ⟨by rw [hc.1, hsc, keys_map (fun n => low p (f * n))], by
    have h1 := Nr.scale hp hf (rn_of dt1.nd zt1 rd1) hc.2
    have e : t2.map (·.2) = (t1.map (·.2)).map fun n => low p (f * n) := by rw [hsc, List.map_map, List.map_map]; rfl
    rw [e]; exact h1⟩
  have kb36 := kb13.trans (KB.of s36 kb13.b')
  obtain ⟨dx, hx1, _⟩ := id hx6
  obtain ⟨dy, hy1, _⟩ := id hy
  refine ⟨_, rfl, x, dx, _, rfl, hx1, x, xa, p, L, D, t1, rfl, hx6, hp, hL, by omega, dt1, zt1, ht1, rd1, sn1, fun H7 c1 c1a u1 s7 hc1 C1 => ?_⟩
  have F1 := C1.f hp dt1 zt1 ht1 rd1
  obtain ⟨d1, hc11, _⟩ := id hc1
  refine ⟨c1, d1, _, rfl, hc11, c1, c1a, p, L, D, u1, rfl, hc1, hL, by omega, F1.ht, F1.nz, fun H8 r8 u8 s8 fr8 h8 nd8 nz8 gt8 l8 => ?_⟩
  refine ⟨_, rfl, _, rfl, p, a, t, L, D, rfl, hp, hL, by omega, s8 _ _ (s7 _ _ ha6), ht, hGv.nz, hGv.rd, hv.sn (by decide), fun H9 r9 t9 u9 s9 fr9 dt9 nz9 gt9 C9 h9 => ?_⟩
  have e9 : t9 = t1 := Ds.ext dt9 dt1 nz9 zt1 fun k => by rw [gt9, gt1]
  subst e9
  have e91 : u9 = u1 := Clr.det hp C9 C1
  subst e91
  refine ⟨r8, r9, u8, u9, rfl, rfl, s9 _ _ h8, h9, .inr ⟨alike_of nd8 nz8 gt8 l8, _, rfl, ifF rfl ?_⟩⟩
  have s69 := Same.trans s7 (Same.trans s8 s9)
  refine ⟨_, rfl, y, dy, _, rfl, slt_same hy1 s69, y, yb, p, L, D, t2, rfl, fo_same hy s69, hp, hL, by omega, dt2, zt2, ht2, rd2, sn2, fun H10 c2 c2a u2 s10 hc2 C2 => ?_⟩
  have s610 := Same.trans s69 s10
  refine ⟨_, rfl, x, dx, _, rfl, slt_same hx1 s610, x, xa, p, L, D, t9, rfl, fo_same hx6 s610, hp, hL, by omega, dt1, zt1, ht1, rd1, sn1, fun H11 c3 c3a u3 s11 hc3 C3 => ?_⟩
  have e3 : u3 = u9 := Clr.det hp C3 C1
  have e2 : u2 = u9 := Clr.det hp C2 (cl2 _ C1)
  subst e3 e2
  obtain ⟨d2, hc21, _⟩ := id (fo_same hc2 s11)
  obtain ⟨d3, hc31, _⟩ := id hc3
  refine ⟨c2, _, _, c3, _, _, rfl, rfl, hc21, hc31, c2, c2a, c3, c3a, p, L, _, _, rfl, fo_same hc2 s11, hc3, .inr ⟨alike_refl _, true, rfl, _, rfl, ifF rfl ?_⟩⟩
  have s611 := Same.trans s610 s11
  refine ⟨_, rfl, x, dx, _, rfl, slt_same hx1 s611, x, xa, p, L, D, t9, rfl, fo_same hx6 s611, hp, hL, by omega, dt1, zt1, ht1, rd1, sn1, fun H12 c4 c4a u4 s12 hc4 C4 => ?_⟩
  obtain ⟨d4, hc41, _⟩ := id hc4
  have F4 := C4.f hp dt1 zt1 ht1 rd1
  refine ⟨c4, d4, _, rfl, hc41, c4, c4a, p, L, D, u4, rfl, hc4, hp, hL, by omega, F4.ds, F4.nz, F4.ht, F4.rd, F4.sn sn1, fun H13 c5 c5a u5 s13 hc5 C5 => ?_⟩
  have s613 := Same.trans s611 (Same.trans s12 s13)
  refine ⟨_, rfl, x, dx, _, rfl, slt_same hx1 s613, x, xa, p, L, D, t9, rfl, fo_same hx6 s613, hp, hL, by omega, dt1, zt1, ht1, rd1, sn1, fun H14 c6 c6a u6 s14 hc6 C6 => ?_⟩
  have e6 : u6 = u4 := Clr.det hp C6 C4
  subst e6
  have e5 : u5 = u6 := Clr.det hp C5 ⟨rfl, Nr.idem hp (rn_of dt1.nd zt1 rd1) C4.2⟩
  subst e5
  obtain ⟨d5, hc51, _⟩ := id (fo_same hc5 s14)
  obtain ⟨d6, hc61, _⟩ := id hc6
  refine ⟨c5, _, _, c6, _, _, _, rfl, rfl, hc51, hc61, nf_self, c5, c5a, c6, c6a, p, L, _, _, rfl, fo_same hc5 s14, hc6, .inr ⟨alike_refl _, true, rfl, ifT rfl ?_⟩⟩
  have s614 := Same.trans s613 s14
  refine ⟨_, rfl, x, dx, _, rfl, slt_same hx1 s614, x, xa, p, L, D, t9, rfl, fo_same hx6 s614, hL, by omega, ht1, zt1, fun H15 r15 u15 s15 fr15 h15 nd15 nz15 gt15 l15 => ?_⟩
  have s615 := Same.trans s614 s15
  have gtt : ∀ k, gt u15 k = gt t k := fun k => by rw [gt15, gt1]
  refine ⟨_, rfl, r15, a, u15, t, rfl, rfl, h15, s615 _ _ ha6, .inr ⟨alike_of nd15 nz15 gtt (len_of nd15 ht.nd nz15 hGv.nz gtt), ?_⟩⟩
  exact q H15 (kb36.trans (KB.of s615 kb36.b'))
end
end Tg
end
section
set_option Elab.async false
set_option autoImplicit false
set_option linter.all false
set_option maxRecDepth 100000
set_option maxHeartbeats 4000000
/-! Products: their order does not matter; their bounds. -/
namespace Tg
open PySem PySem.Spec PyProof.Rows L2 RZ
theorem ml_perm {a b : T} (h : a.Perm b) (g : F) (k : K) : ml a g k = ml b g k := by
  induction h with
  | nil => rfl
  | cons x _ ih => rw [ml_cons, ml_cons, ih]
  | swap x y l => rw [ml_cons, ml_cons, ml_cons, ml_cons]; omega
  | trans _ _ h1 h2 => exact h1.trans h2
/-- the terms in descending order -/
theorem ds_ex {L : Nat} {D : Int} {t : T} (ht : Ht L D t) (hD : D ≤ 40) : ∃ q, q.Perm t ∧ Ds q := by
  refine ⟨t.mergeSort fun a b => decide (cd b.1 ≤ cd a.1), List.mergeSort_perm _ _, ?_⟩
  have h1 : (t.mergeSort fun a b => decide (cd b.1 ≤ cd a.1)).Pairwise fun a b => decide (cd b.1 ≤ cd a.1) = true := List.pairwise_mergeSort (fun a b c h1 h2 => by simp only [decide_eq_true_eq] at *; omega) (fun a b => by simp only [Bool.or_eq_true, decide_eq_true_eq]; omega) t
  have hp := List.mergeSort_perm t fun a b => decide (cd b.1 ≤ cd a.1)
  have h2 : (t.mergeSort fun a b => decide (cd b.1 ≤ cd a.1)).Pairwise fun a b => a.1 ≠ b.1 := by
    have : ((t.mergeSort fun a b => decide (cd b.1 ≤ cd a.1)).map (·.1)).Nodup := (hp.map _).nodup_iff.mpr ht.nd
    exact List.pairwise_map.mp this
  refine (h1.and h2).imp_of_mem fun {a b} ha hb z => ?_
  have z1 := of_decide_eq_true z.1
  refine Int.lt_iff_le_and_ne.mpr ⟨z1, fun e => z.2 ?_⟩
  exact ((ht.mo b (hp.mem_iff.mp hb)).eq (ht.mo a (hp.mem_iff.mp ha)) hD e).symm
theorem gt_perm {a b : T} (h : a.Perm b) (na : Nd a) (nb : Nd b) (za : Nz a) (zb : Nz b) (k : K) : gt a k = gt b k := by
  by_cases h0 : gt a k = 0
  · by_cases h1 : gt b k = 0
    · rw [h0, h1]
    · have h2 := h.mem_iff.mpr (gt_ne h1)
      have h3 := gt_mem na h2
      exact h3
  · have h2 := h.mem_iff.mp (gt_ne h0)
    exact (gt_mem nb h2).symm
theorem ml_bd {A B : Nat} {g : F} (hg : ∀ k, (g k).natAbs ≤ B) : ∀ {t : T}, (∀ e ∈ t, e.2.natAbs ≤ A) → ∀ k, (ml t g k).natAbs ≤ t.length * (A * B)
  | [], _, k => by rw [ml_nil]; simp
  | e :: t, h, k => by
    have ih := ml_bd hg (t := t) (fun x hx => h x (List.mem_cons_of_mem _ hx)) k
    have h1 : (sh e.1 g k).natAbs ≤ B := by
      unfold sh
      split
      · exact hg _
      · simp
    have h2 : (e.2 * sh e.1 g k).natAbs ≤ A * B := by rw [Int.natAbs_mul]; exact Nat.mul_le_mul (h e List.mem_cons_self) h1
    rw [ml_cons, List.length_cons, Nat.succ_mul]
    omega
theorem gt_bd {B : Nat} {t : T} (h : ∀ e ∈ t, e.2.natAbs ≤ B) (k : K) : (gt t k).natAbs ≤ B := by
  by_cases h0 : gt t k = 0
  · rw [h0]; simp
  · exact h _ (gt_ne h0)
/-- a product of drawn tables -/
theorem prod_gv {p : Int} {L : Nat} {D E : Int} {A B : Nat} {t u v : T} (P : Pm p) (hL : Lt L) (hDE : D + E ≤ 6) (hD : D ≤ 6) (ht : Ht L D t) (bt : ∀ e ∈ t, e.2.natAbs ≤ A) (bu : ∀ e ∈ u, e.2.natAbs ≤ B) (hv : Ht L (D + E) v) (nv : Nz v) (gv : ∀ k, gt v k = low p (ml t (gt u) k)) :
    (∀ e ∈ v, e.2.natAbs ≤ 28 * (A * B) + 11 ∧ low p e.2 = e.2) := fun e he => by
  have h1 := gt_mem hv.nd he
  rw [gv] at h1
  have h2 := ml_bd (gt_bd bu) bt e.1
  have h3 := ht.len hL hD
  have h4 := low_bd2 P (ml t (gt u) e.1)
  rw [h1] at h4
  have h5 : t.length * (A * B) ≤ 28 * (A * B) := Nat.mul_le_mul_right _ h3
  exact ⟨by omega, by rw [← h1, low_low]⟩
/-- the quotient of a product -/
theorem prod_dv {p : Int} {L : Nat} {D E : Int} {t u v : T} {h : K} (G : Dvr p L E (gt u) h) (hDE : D + E ≤ 40) (hD : D ≤ 40) (ht : Ht L D t) (nt : Nz t) (rt : ∀ e ∈ t, low p e.2 = e.2) (gv : ∀ k, gt v k = low p (ml t (gt u) k)) :
    ∃ q, Dv p (gt u) h (gt v) (some q) ∧ q.length = t.length ∧ Nd q ∧ Nz q ∧ ∀ k, gt q k = gt t k := by
  obtain ⟨q, pq, dq⟩ := ds_ex ht hD
  have zq : Nz q := fun e he => nt e (pq.mem_iff.mp he)
  refine ⟨q, ?_, pq.length_eq, dq.nd, zq, gt_perm pq dq.nd ht.nd zq nt⟩
  have tm : Tm p L D q := fun e he => ⟨ht.mo e (pq.mem_iff.mp he), rt e (pq.mem_iff.mp he), zq e he⟩
  have h1 := Dv.of_mul G hDE tm dq
  have e : gt v = fun k => low p (ml q (gt u) k) := funext fun k => by rw [gv, ml_perm pq]
  rw [e]; exact h1
end Tg
end
section
set_option Elab.async false
set_option autoImplicit false
set_option linter.all false
set_option maxRecDepth 100000
set_option maxHeartbeats 4000000
/-! Divisions and orders end. -/
namespace Tg
theorem ld_fn {f : F} : ∀ m : Nat, (∀ k, f k ≠ 0 → cd k < (m : Int)) → (∀ k, f k ≠ 0 → 0 ≤ cd k) → (∀ k, f k = 0) ∨ ∃ h, Ld f h
  | 0, hb, hn => .inl fun k => Classical.byContradiction fun h => by have := hb k h; have := hn k h; omega
  | m + 1, hb, hn => by
    by_cases h : ∃ k, f k ≠ 0 ∧ cd k = (m : Int)
    · obtain ⟨k, hk, e⟩ := h
      exact .inr ⟨k, hk, fun j hj => by have := hb j hj; omega⟩
    · refine ld_fn m (fun k hk => ?_) hn
      have h1 := hb k hk
      have h2 : cd k ≠ (m : Int) := fun e => h ⟨k, hk, e⟩
      omega
section
variable {p : Int} {L : Nat} {D E : Int} {g f : F} {h : K}
theorem qo_ex (P : Pm p) (n : Int) {d : Int} (hd : low p d ≠ 0) : ∃ r, Qo p n d r := by
  by_cases h0 : p = 0
  · by_cases hv : d ∣ n
    · exact ⟨_, .inr ⟨h0, .inl ⟨hv, rfl⟩⟩⟩
    · exact ⟨_, .inr ⟨h0, .inr ⟨hv, rfl⟩⟩⟩
  · obtain ⟨i, hi, _⟩ := inv_ex P h0 hd
    exact ⟨_, .inl ⟨h0, i, hi, rfl⟩⟩
theorem Dv.ex (G : Dvr p L E g h) (hD : D ≤ 40) : ∀ (m : Nat) {f : F}, Hm L D f → (∀ k, f k ≠ 0 → cd k < (m : Int)) → ∃ r, Dv p g h f r := by
  intro m
  induction m with
  | zero =>
    intro f hf hb
    refine ⟨some [], .done fun k => Classical.byContradiction fun hk => ?_⟩
    have h1 := hb k hk
    have h2 := (cd_bd ((hf k hk).sm hD)).1
    omega
  | succ m ih =>
    intro f hf hb
    rcases ld_fn (m + 1) hb (fun k hk => (cd_bd ((hf k hk).sm hD)).1) with h0 | ⟨z, hz⟩
    · exact ⟨_, .done h0⟩
    · by_cases hneg : ∃ x ∈ sb z h, x < 0
      · exact ⟨_, .bad hz hneg⟩
      · have hnn : ∀ x ∈ sb z h, 0 ≤ x := fun x hx => Int.not_lt.mp fun hh => hneg ⟨x, hx, hh⟩
        have hlow : low p (g h) ≠ 0 := by rw [G.rd]; exact G.ld.1
        obtain ⟨r, hr⟩ := qo_ex G.pm (f z) hlow
        cases r with
        | none => exact ⟨_, .rest hz hr⟩
        | some c =>
          obtain ⟨r, hd⟩ := ih (f := stp p g f (sb z h) c) (stp_hm G hf hz hnn) fun k hk => by
            have h1 := stp_ld G hf hz hD hnn hr k hk
            have h2 := hb z hz.1
            omega
          exact ⟨_, .step hz hnn hr hd⟩
theorem Dv.ex' (G : Dvr p L E g h) (hD : D ≤ 40) (hf : Hm L D f) : ∃ r, Dv p g h f r := by
  refine Dv.ex G hD (64 ^ L) hf fun k hk => ?_
  have h1 := (cd_bd ((hf k hk).sm hD)).2
  rw [(hf k hk).len] at h1
  simpa using h1
theorem Od.ex (G : Dvr p L 1 g h) : ∀ (m : Nat) {D : Int} {f : F}, D ≤ 40 → D < m → Hm L D f → Rdc p f → (∃ k, f k ≠ 0) → ∃ n, Od p g h f n := by
  intro m
  induction m with
  | zero =>
    intro D f hD hm hf _ ⟨k, hk⟩
    have := (hf k hk).deg
    omega
  | succ m ih =>
    intro D f hD hm hf rf hne
    obtain ⟨r, hd⟩ := Dv.ex' G hD hf
    cases r with
    | none => exact ⟨0, .stop hd⟩
    | some q =>
      obtain ⟨tm, dq, _⟩ := hd.props G hD hf rf q rfl
      obtain ⟨n, hn⟩ := ih (D := D - 1) (f := gt q) (by omega) (by omega) tm.hm tm.rd (gt_ex tm.nz (hd.ne hne))
      exact ⟨n + 1, .more hd hn⟩
end
end Tg
end
section
set_option Elab.async false
set_option autoImplicit false
set_option linter.all false
set_option maxRecDepth 100000
set_option maxHeartbeats 4000000
/-! Powers: bounds, not zero. Cleared linear forms. -/
namespace Tg
open PySem PySem.Spec PyProof.Rows L2 RZ
theorem Clr.bd {p : Int} (P : Pm p) {B : Nat} (hB : 11 ≤ B) {t u : T} (c : Clr p t u) (d : Ds t) (nz : Nz t) (r : Rdc p (gt t)) (h : ∀ e ∈ t, e.2.natAbs ≤ B) : ∀ e ∈ u, e.2.natAbs ≤ B := fun e he => by
  have F := Nr.f P (rn_of d.nd nz r) c.2
  by_cases h0 : p = 0
  · obtain ⟨j, hj⟩ := List.mem_iff_getElem?.mp he
    have hlen : u.length = t.length := by have := congrArg List.length c.1; simpa using this
    have hjl : j < t.length := by
      have := (List.getElem?_eq_some_iff.mp hj).1
      omega
    have ht1 : (t.map (·.2))[j]? = some (t[j]).2 := by simp [hjl]
    have hu1 : (u.map (·.2))[j]? = some e.2 := by rw [List.getElem?_map, hj]; rfl
    obtain ⟨uu, hu0, hun⟩ := F.unit
    have h2 := hun j _ _ ht1 hu1
    rw [h0, low0] at h2 hu0
    have h3 := h t[j] (List.getElem_mem hjl)
    have h4 : e.2.natAbs ≤ (t[j]).2.natAbs := by
      rw [h2, Int.natAbs_mul]
      exact Nat.le_mul_of_pos_left _ (by omega)
    omega
  · have h1 := low_bd P h0 e.2
    rw [(F.rn e.2 (List.mem_map_of_mem he)).1] at h1
    have := P.le
    omega
theorem prod_ne {p : Int} {L : Nat} {D E : Int} {t u v : T} {h : K} (G : Dvr p L E (gt u) h) (hDE : D + E ≤ 40) (hD : D ≤ 40) (ht : Ht L D t) (nt : Nz t) (rt : ∀ e ∈ t, low p e.2 = e.2) (hv : Hm L (D + E) (gt v)) (gv : ∀ k, gt v k = low p (ml t (gt u) k)) (tne : t ≠ []) : v ≠ [] := fun z => by
  obtain ⟨q, hd, hl, _⟩ := prod_dv G hDE hD ht nt rt gv
  subst z
  have h1 : Dv p (gt u) h (gt []) (some []) := .done fun k => gt_nil k
  have h2 := Option.some.inj (Dv.det G hDE hv hd h1)
  rw [h2] at hl
  exact tne (List.eq_nil_of_length_eq_zero hl.symm)
/-- what is known of a power -/
structure PwF (p : Int) (t : T) (A : Nat) : Prop where
  nz : Nz t
  rd : ∀ e ∈ t, low p e.2 = e.2
  ne : t ≠ []
  bd : ∀ e ∈ t, e.2.natAbs ≤ A
def pb : Nat → Nat
  | 0 => 1
  | m + 1 => 28 * (pb m * 14) + 11
theorem Pwr.f {p : Int} {L : Nat} {g t : T} {h : K} (P : Pm p) (hL : Lt L) (G : Dvr p L 1 (gt g) h) (bg : ∀ e ∈ g, e.2.natAbs ≤ 14) : ∀ {m : Nat}, Pwr p L g m t → m ≤ 5 → PwF p t (pb m) := by
  intro m hp
  induction hp with
  | zero =>
    intro _
    refine ⟨fun e he => ?_, fun e he => ?_, by simp, fun e he => ?_⟩
    · rw [List.mem_singleton.mp he]; show (1 : Int) ≠ 0; decide
    · rw [List.mem_singleton.mp he]
      by_cases h0 : p = 0
      · rw [h0, low0]
      · rw [lowp h0]; exact one_low P h0
    · rw [List.mem_singleton.mp he]; show (1 : Int).natAbs ≤ 1; decide
  | @succ m t u hp hu nu gu ih =>
    intro hm
    have F := ih (by omega)
    have hh : Ht L ((m : Int) + 1) u := by rw [Int.natCast_add] at hu; exact hu
    have b := prod_gv P hL (by omega : (m : Int) + 1 ≤ 6) (by omega) hp.ht F.bd bg hh nu gu
    exact ⟨nu, fun e he => (b e he).2, prod_ne G (by omega) (by omega) hp.ht F.nz F.rd hh.hm gu F.ne, fun e he => (b e he).1⟩
end Tg
namespace Tg
open PySem PySem.Spec PyProof.Rows L2 RZ
theorem clr_unit {p : Int} (P : Pm p) {L : Nat} {D : Int} {t u : T} (c : Clr p t u) (d : Ds t) (nz : Nz t) (ht : Ht L D t) (r : Rdc p (gt t)) : ∃ v, low p v ≠ 0 ∧ ∀ k, gt t k = low p (v * gt u k) := by
  have F := Nr.f P (rn_of d.nd nz r) c.2
  have U := c.f P d nz ht r
  obtain ⟨v, hv, hh⟩ := F.unit
  refine ⟨v, hv, fun k => ?_⟩
  by_cases hk : k ∈ t.map (·.1)
  · obtain ⟨e, he, rfl⟩ := List.mem_map.mp hk
    obtain ⟨j, hj⟩ := List.mem_iff_getElem?.mp he
    have hlen : u.length = t.length := by have := congrArg List.length c.1; simpa using this
    have hjl : j < u.length := by
      have := (List.getElem?_eq_some_iff.mp hj).1
      omega
    have hju : u[j]? = some u[j] := List.getElem?_eq_getElem hjl
    have e1 : (u[j]).1 = e.1 := by
      have h1 : (u.map (·.1))[j]? = (t.map (·.1))[j]? := by rw [c.1]
      rw [List.getElem?_map, List.getElem?_map, hj, hju] at h1
      exact Option.some.inj h1
    have h2 := hh j e.2 (u[j]).2 (by rw [List.getElem?_map, hj]; rfl) (by rw [List.getElem?_map, hju]; rfl)
    rw [gt_mem d.nd he, ← e1, gt_mem U.ds.nd (List.getElem_mem hjl)]
    exact h2
  · have hk2 : k ∉ u.map (·.1) := by rw [c.1]; exact hk
    rw [gt_out hk, gt_out hk2, Int.mul_zero, low_zero]
theorem clr_gcd {t u : T} (c : Clr 0 t u) (d : Ds t) (nz : Nz t) (ht : Ht 2 1 t) (r : Rdc 0 (gt t)) (hne : t ≠ []) : Int.gcd (gt u [1, 0]) (gt u [0, 1]) = 1 := by
  have P : Pm 0 := .inl rfl
  have F := Nr.f P (rn_of d.nd nz r) c.2
  have U := c.f P d nz ht r
  have h1 := F.one rfl (fun z => hne (List.map_eq_nil_iff.mp z))
  have h2 : ((Int.gcd (gt u [1, 0]) (gt u [0, 1]) : Nat) : Int) ∣ gl (u.map (·.2)) := dvd_gl fun n hn => by
    obtain ⟨e, he, rfl⟩ := List.mem_map.mp hn
    obtain ⟨i, hi, ei⟩ := mo_two (n := 1) (U.ht.mo e he)
    have h3 := gt_mem U.ds.nd he
    rw [ei] at h3
    rw [← h3]
    have hi2 : i = 0 ∨ i = 1 := by omega
    rcases hi2 with rfl | rfl
    · exact Int.gcd_dvd_right _ _
    · exact Int.gcd_dvd_left _ _
  rw [h1] at h2
  have h3 := Int.natCast_dvd_natCast.mp (show ((Int.gcd (gt u [1, 0]) (gt u [0, 1]) : Nat) : Int) ∣ ((1 : Nat) : Int) from h2)
  exact Nat.dvd_one.mp h3
end Tg
end
section
set_option Elab.async false
set_option autoImplicit false
set_option linter.all false
set_option maxRecDepth 100000
set_option maxHeartbeats 4000000
set_option pp.maxSteps 600
/-! The law's quotients. -/
namespace Tg
open PySem PySem.Spec PyProof.Rows L2 RZ
theorem eqT_int {σ : L2.St} {H : Hp} {Q : VK} {a : Addr} {t : T} {i : Nat} {tb : TE} (R : Int → Prop) (hs : σ[i]? = some (some (.ref a))) (ha : Tb H a t) (h0 : t = [] → R 0) (h1 : t ≠ [] → ∀ (H1 : Hp) (Q' : VK), Same H H1 → (∀ n H2, R n → Same H H2 → Q' (.int n) H2) → tb σ H1 Q') (q : ∀ n H2, R n → Same H H2 → Q (.int n) H2) :
    tIf (tTest (tOp rEqT (tVar i) tDNewT)) (tC (.int 0)) tb σ H Q := by
  refine ⟨_, hs, fun n hn => ⟨a, n, t, [], rfl, rfl, sm_new hn _ _ ha, upd_same, ?_⟩⟩
  by_cases ht : t = []
  · subst ht
    exact .inr ⟨alike_refl _, _, rfl, ifT rfl (q 0 _ (h0 rfl) (sm_new hn))⟩
  · exact .inl ⟨fun z => ht (List.eq_nil_of_length_eq_zero z), _, rfl, ifF rfl (h1 ht _ _ (sm_new hn) q)⟩
theorem fs_gv {p c : Int} {L : Nat} {D : Int} {u v : T} (P : Pm p) (hc : c.natAbs ≤ 2) (hD : D ≤ 6) (bu : ∀ e ∈ u, e.2.natAbs ≤ 14) (hv : Ht L D v) (nv : Nz v) (gv : ∀ k, gt v k = low p (gt [] k + c * gt u k)) : Gv p L D v ∧ Sn v := by
  have key : ∀ e ∈ v, e.2.natAbs ≤ 39 ∧ low p e.2 = e.2 := fun e he => by
    have h1 := gt_mem hv.nd he
    rw [gv, gt_nil, Int.zero_add] at h1
    have h2 := low_bd2 P (c * gt u e.1)
    have h3 := gt_bd bu e.1
    rw [h1, Int.natAbs_mul] at h2
    have h4 := Nat.mul_le_mul hc h3
    exact ⟨by omega, by rw [← h1, low_low]⟩
  exact ⟨⟨hD, hv, fun e he => ⟨(key e he).2, nv e he, by have := (key e he).1; omega, by have := (key e he).1; omega⟩⟩, fun e he => by have := (key e he).1; omega⟩
theorem head_of {t : T} {ps : List (Addr × K)} (pm : (ps.map (·.2)).Perm (t.map (·.1))) (hne : t ≠ []) : ∃ z qs, ps = z :: qs ∧ z.2 ∈ t.map (·.1) := by
  cases ps with
  | nil =>
    have h1 := pm.length_eq
    simp at h1
    exact absurd (List.eq_nil_of_length_eq_zero h1.symm) hne
  | cons z qs => exact ⟨z, qs, rfl, pm.mem_iff.mp (by simp)⟩
theorem sum_of_key {L : Nat} {D : Int} {t : T} {k : K} (ht : Ht L D t) (hk : k ∈ t.map (·.1)) : k.sum = D := by
  obtain ⟨e, he, rfl⟩ := List.mem_map.mp hk
  exact (ht.mo e he).sum
section
variable {P : Program} {w : World} {K : PySem.W.Frag} {mg : Str → Option Value} {base : Heap}
def sp_law_quotients_right : Sp := fun vs H Q _ => ∃ (g : Addr) (p : Int) (L : Nat), vs = [.ref g, .int p, .int L] ∧ Pm p ∧ Lt L ∧ Bg H g ∧ ∀ H', KB g H H' → Q (.bl true) H'
theorem sc_law_quotients_right : FnScope ["_law_bag_here", "_law_prime_here", "_law_letters", "_law_one", "_law_other", "_law_both", "_law_bent", "_law_degree", "_law_near", "_law_double"] ["_law_bag_here", "_law_prime_here", "_law_letters"] (defScope s_law_quotients_right) := ⟨rfl, rfl, rfl, by decide +kernel, rfl, by decide +kernel, by decide +kernel⟩
/- _law_bag_here 0 _law_prime_here 1 _law_letters 2 _law_one 3 _law_other 4 _law_both 5 _law_bent 6 _law_degree 7 _law_near 8 _law_double 9 -/
theorem w_law_quotients_right (pg : Pg P) (px : Px K mg) : FnR P w K mg base CX0 13 (d_law_quotients_right.at_ K) sp_law_quotients_right ∧ PySem.W.keepIn K (.ref (d_law_quotients_right.at_ K)) = true := by
  refine px.R 56 rfl rfl rfl sc_law_quotients_right (fun vs H Q E ⟨_, _, _, e, _⟩ => by rw [e]; rfl) (fun _ _ _ _ _ _ us hl => match us, hl with | [_, _, _], _ => rfl) (fun cdv A outer s H vs Q E hr h => ⟨_, (pss_cons (ps_set (i := 3) sc_law_quotients_right.nd rfl (Or.inl rfl) (pe_cR (w_law_terms px) (hr.mono (by decide)) (px.g "_law_terms" (by simp [gloL])) pass0 (pa_cons (pv 0) (pa_cons (pv 1) (pa_cons (pv 2) (pa_cons (pe_cR (w_law_grab px) (hr.mono (by decide)) (px.g "_law_grab" (by simp [gloL])) pass0 (pa_cons (pv 0) (pa_cons pe_int pa_nil))) (pa_cons pe_int pa_nil))))))) (pss_cons (ps_set (i := 4) sc_law_quotients_right.nd rfl (Or.inl rfl) (pe_cR (w_law_some_terms px) (hr.mono (by decide)) (px.g "_law_some_terms" (by simp [gloL])) pass0 (pa_cons (pv 0) (pa_cons (pv 1) (pa_cons (pv 2) (pa_cons (pe_cR (w_law_grab px) (hr.mono (by decide)) (px.g "_law_grab" (by simp [gloL])) pass0 (pa_cons (pv 0) (pa_cons pe_int pa_nil))) (pa_cons pe_int pa_nil))))))) (pss_cons (ps_set (i := 5) sc_law_quotients_right.nd rfl (Or.inl rfl) (pe_cR (w_law_fproduct px) (hr.mono (by decide)) (px.g "_law_fproduct" (by simp [gloL])) pass0 (pa_cons (pv 1) (pa_cons (pv 3) (pa_cons (pv 4) pa_nil))))) (pss_cons (ps_if (pt_cmpR (op_neT (un1 hr)) (pe_cR (w_law_told pg px) (hr.mono (by decide)) (px.g "_law_told" (by simp [gloL])) pass0 (pa_cons (pe_cR (w_law_form px) (hr.mono (by decide)) (px.g "_law_form" (by simp [gloL])) pass0 (pa_cons (pv 1) (pa_cons (pv 2) (pa_cons (pv 5) pa_nil)))) (pa_cons (pe_cR (w_law_form px) (hr.mono (by decide)) (px.g "_law_form" (by simp [gloL])) pass0 (pa_cons (pv 1) (pa_cons (pv 2) (pa_cons (pv 4) pa_nil)))) pa_nil))) (pv 3) (nomark _)) (pss_one (ps_ret pe_bl)) pss_nil) (pss_cons (ps_set (i := 6) sc_law_quotients_right.nd rfl (Or.inl rfl) (pe_callTy (cr_dictPs rfl (un2 hr)) rfl (px.f "dict" (by simp [freeL])) bo_dict (pa_cons (pe_callTy (cr_listIt rfl) rfl (px.f "list" (by simp [freeL])) bo_list (pa_cons (pe_bm0 PySem.F.plainAttrs_dict PySem.F.slot_dict_items PySem.F.type_dict_items DX.mt_itemsT (pv 5)) pa_nil)) pa_nil))) (pss_cons (ps_set (i := 7) sc_law_quotients_right.nd rfl (Or.inl rfl) (pe_op op_add (pe_callB (cr_sumT rfl) rfl (px.f "sum" (by simp [freeL])) bo_sum (pa_cons (pe_ix ix_list (pe_callB (cr_sortD rfl) rfl (px.f "sorted" (by simp [freeL])) bo_sorted (pa_cons (pv 4) pa_nil)) pe_int (fun _ _ => rfl)) pa_nil)) (pe_ifExp (pt_cmpR (op_eqT (un1 hr)) (pv 3) pe_dnewT (nomark _)) pe_int (pe_callB (cr_sumT rfl) rfl (px.f "sum" (by simp [freeL])) bo_sum (pa_cons (pe_ix ix_list (pe_callB (cr_sortD rfl) rfl (px.f "sorted" (by simp [freeL])) bo_sorted (pa_cons (pv 3) pa_nil)) pe_int (fun _ _ => rfl)) pa_nil))))) (pss_cons (ps_dput (un1 hr) (pv 6) (pe_cR (w_law_one_of px) (hr.mono (by decide)) (px.g "_law_one_of" (by simp [gloL])) pass0 (pa_cons (pv 0) (pa_cons (pe_cR (w_law_monos px) (hr.mono (by decide)) (px.g "_law_monos" (by simp [gloL])) pass0 (pa_cons (pv 2) (pa_cons (pv 7) pa_nil))) pa_nil))) (pe_cR (w_law_entry px) (hr.mono (by decide)) (px.g "_law_entry" (by simp [gloL])) pass0 (pa_cons (pv 0) (pa_cons (pv 1) (pa_cons pe_int pa_nil)))) rfl) (pss_cons (ps_for PassesOwn.leaving rfl (pi_tup (pe_tup (pa_cons (pv 6) (pa_cons (pv 3) (pa_cons (pe_cR (w_law_fsum px) (hr.mono (by decide)) (px.g "_law_fsum" (by simp [gloL])) pass0 (pa_cons (pv 1) (pa_cons pe_dnewT (pa_cons (pv 4) (pa_cons pe_int pa_nil))))) (pa_cons (pe_cR (w_law_terms px) (hr.mono (by decide)) (px.g "_law_terms" (by simp [gloL])) pass0 (pa_cons (pv 0) (pa_cons (pv 1) (pa_cons (pv 2) (pa_cons (pv 7) (pa_cons pe_int pa_nil)))))) pa_nil)))))) (pg_name (i := 8) sc_law_quotients_right.nd rfl (Or.inl rfl)) (pss_one (ps_if (pt_not (pt_val (pe_cR (w_law_over_right pg px) (hr.mono (by decide)) (px.g "_law_over_right" (by simp [gloL])) pass0 (pa_cons (pv 1) (pa_cons (pv 2) (pa_cons (pv 8) (pa_cons (pv 4) pa_nil))))))) (pss_one (ps_ret pe_bl)) pss_nil))) (pss_cons (ps_set (i := 9) sc_law_quotients_right.nd rfl (Or.inl rfl) (pe_cR (w_law_fsum px) (hr.mono (by decide)) (px.g "_law_fsum" (by simp [gloL])) pass0 (pa_cons (pv 1) (pa_cons pe_dnewT (pa_cons (pv 4) (pa_cons pe_int pa_nil)))))) (pss_one (ps_ret (pe_or (pe_cmpR (op_eqT (un1 hr)) (pv 9) pe_dnewT (nomark _)) (pe_one (pe_cR (w_law_over_right pg px) (hr.mono (by decide)) (px.g "_law_over_right" (by simp [gloL])) pass0 (pa_cons (pv 1) (pa_cons (pv 2) (pa_cons (pv 5) (pa_cons (pv 9) pa_nil)))))))))))))))))), ?_⟩)
  obtain ⟨g, p, L, rfl, hp, hL, hb, q⟩ := h
  have sz : (64 : Nat) < sizeLine := by decide
  refine ⟨_, rfl, _, rfl, _, rfl, _, rfl, g, 4, rfl, by decide, by decide, hb, fun H1 r kb1 r0 r1 => ?_⟩
  obtain ⟨D, rfl⟩ := Int.eq_ofNat_of_zero_le r0
  refine ⟨g, p, 6, L, D, rfl, hp, by decide, by decide, hL, by omega, kb1.b', fun H2 a t kb2 fa ha ht hv => ?_⟩
  have kb12 := kb1.trans kb2
  refine ⟨_, rfl, _, rfl, _, rfl, _, rfl, g, 4, rfl, by decide, by decide, kb2.b', fun H3 r kb3 r0 r1 => ?_⟩
  obtain ⟨E', rfl⟩ := Int.eq_ofNat_of_zero_le r0
  refine ⟨g, p, 4, L, E', rfl, hp, by decide, by decide, hL, by omega, kb3.b', fun H4 b u kb4 fb hbt hu hvu une => ?_⟩
  have kb34 := kb3.trans kb4
  have kb14 := kb12.trans kb34
  have ha4 := kb34.tb ha
  have hDE : (D : Int) + (E' : Int) ≤ 6 := by omega
  have hGt := hv.gv (by decide) (by omega : ((D : Nat) : Int) ≤ 6) ht
  have hGu := hvu.gv (by decide) (by omega : ((E' : Nat) : Int) ≤ 6) hu
  have sgu := hvu.sn (by decide)
  have hab : a ≠ b := fun e => by
    have h0 : H3 b = none := fb
    have h1 : H3 a = some (.dT (et t)) := kb3.tb ha
    rw [e, h0] at h1; cases h1
  refine ⟨_, rfl, _, rfl, _, rfl, p, a, b, t, u, L, D, E', rfl, hp, hab, ha4, hbt, hL, hDE, ht, hu, .inr sgu, fun c H5 v s5 fc hc hvh nv gv => ?_⟩
  have bt : ∀ e ∈ t, e.2.natAbs ≤ 16 := fun e he => by have := (hv e he).2.2; omega
  have bu : ∀ e ∈ u, e.2.natAbs ≤ 14 := fun e he => by have := (hvu e he).2.2; omega
  have pv_ := prod_gv hp hL hDE (by omega) ht bt bu hvh nv gv
  have hGv : Gv p L ((D : Int) + E') v := ⟨hDE, hvh, fun e he => ⟨(pv_ e he).2, nv e he, by have := (pv_ e he).1; omega, by have := (pv_ e he).1; omega⟩⟩
  obtain ⟨h, G⟩ := hGu.dvr hp une
  obtain ⟨qt, hdq, lq, nq, zq, gq⟩ := prod_dv G (by omega) (by omega) ht hGt.nz (fun e he => (hv e he).1) gv
  have ha5 := s5 _ _ ha4
  have hb5 := s5 _ _ hbt
  -- told
  refine ⟨_, rfl, _, rfl, _, rfl, p, L, _, c, v, rfl, hp, hL, hc, hGv, fun H6 x xa t2 s6 fx hx dt2 zt2 gt2 => ?_⟩
  have s56 := Same.trans s5 s6
  refine ⟨_, rfl, _, rfl, _, rfl, p, L, _, b, u, rfl, hp, hL, s6 _ _ hb5, hGu, fun H7 y yb g2 s7 fy hy dg2 zg2 gg2 => ?_⟩
  have s57 := Same.trans s56 s7
  have e1 : gt t2 = gt v := funext gt2
  have e2 : gt g2 = gt u := funext gg2
  have sg2 : Sn g2 := fun e he => by
    have := bd_of (B := 2 ^ 64) dg2.nd zg2 gg2 sgu e he
    exact this
  refine ⟨x, xa, y, yb, p, L, _, _, t2, g2, h, rfl, fo_same hx s7, hy, hL, hDE, dt2, zt2, by rw [e1]; exact hvh.hm, by rw [e1]; exact hGv.rd, dg2, zg2, sg2, by rw [e2]; exact G, fun H8 s8 => ⟨fun hd2 => ?_, fun q2 r8 u8 hd2 h8 n8 z8 g8 l8 => ?_⟩⟩
  · rw [e1, e2] at hd2
    exact nomatch Dv.det G (by omega) hvh.hm hdq hd2
  rw [e1, e2] at hd2
  obtain rfl := Option.some.inj (Dv.det G (by omega) hvh.hm hdq hd2)
  have s58 := Same.trans s57 s8
  have s68 := Same.trans s6 (Same.trans s7 s8)
  have ha8 := s58 _ _ ha4
  have hb8 := s58 _ _ hbt
  have hc8 := s68 _ _ hc
  have kb18 := kb14.trans (KB.of s58 kb14.b')
  refine ⟨_, rfl, r8, a, u8, t, rfl, rfl, h8, ha8, .inr ⟨alike_of n8 z8 (fun k => by rw [g8, gq]) (by rw [l8, lq]), _, rfl, ifF rfl ?_⟩⟩
  -- bent
  refine ⟨_, rfl, .inr (.inr (.inl ⟨rfl, .inr ⟨_, hc8⟩⟩)), c, _, rfl, rfl, hc8, fun vw hvw => ⟨vw, c, _, rfl, upd_same, sm_new hvw _ _ hc8, fun H9 l ts s9 fl hl hp1 => ⟨l, ts, _, rfl, hl, hp1, nd_ek hvh.nd, fun bd hbd => ?_⟩⟩⟩
  have s810 : Same H8 (upd H9 bd (.dT (et v))) := Same.trans (sm_new hvw) (Same.trans s9 (sm_new hbd))
  have hbd10 : Tb (upd H9 bd (.dT (et v))) bd v := upd_same
  have fbd : H8 bd = none := Same.free (Same.trans (sm_new hvw) s9) hbd
  generalize upd H9 bd (.dT (et v)) = H10 at *
  have kb10 := kb18.trans (KB.of s810 kb18.b')
  have ha10 := s810 _ _ ha8
  have hb10 := s810 _ _ hb8
  have lu := hu.len hL (by omega)
  have lt_ := ht.len hL (by omega)
  refine ⟨_, rfl, b, u, L, rfl, hb10, by omega, hL.pos, hu.ks (by omega), fun ps pa pm as ka hpa => ?_⟩
  obtain ⟨z, ps', rfl, hzk⟩ := head_of pm une
  refine ⟨pa, _, 0, .ref z.1, rfl, rfl, SqL.of upd_same, atI_nat (j := 0) rfl, z.1, z.2, rfl, SqT.of (sm_new hpa _ _ (ka z (by simp))), ?_⟩
  rw [sum_of_key hu hzk]
  have s11 : Same H10 (upd H10 pa (.lst ((z :: ps').map fun z => V.ref z.1))) := sm_new hpa
  generalize upd H10 pa (.lst ((z :: ps').map fun z => V.ref z.1)) = H11 at *
  refine eqT_int (a := a) (t := t) (fun n => (t = [] ∧ n = 0) ∨ (t ≠ [] ∧ n = (D : Int))) rfl (s11 _ _ ha10) (fun h => .inl ⟨h, rfl⟩) (fun hne H12 Q' s12 k => ?_) fun n H12 hn s12 => ?_
  · refine ⟨_, rfl, a, t, L, rfl, s12 _ _ (s11 _ _ ha10), by omega, hL.pos, ht.ks (by omega), fun ps2 pb pm2 as2 ka2 hpb => ?_⟩
    obtain ⟨y0, ps2', rfl, hyk⟩ := head_of pm2 hne
    refine ⟨pb, _, 0, .ref y0.1, rfl, rfl, SqL.of upd_same, atI_nat (j := 0) rfl, y0.1, y0.2, rfl, SqT.of (sm_new hpb _ _ (ka2 y0 (by simp))), ?_⟩
    rw [sum_of_key ht hyk]
    exact k _ _ (.inr ⟨hne, rfl⟩) (Same.trans s12 (sm_new hpb))
  obtain ⟨DD, hDD, hN, hvd⟩ : ∃ DD : Nat, DD ≤ 6 ∧ (E' : Int) + n = (DD : Int) ∧ Ht L (DD : Int) v := by
    rcases hn with ⟨ht0, rfl⟩ | ⟨_, rfl⟩
    · refine ⟨E', by omega, by omega, ?_⟩
      have hv0 : v = [] := by
        cases v with
        | nil => rfl
        | cons e v' =>
          exfalso
          have h1 := gv e.1
          rw [gt_cons, if_pos rfl, ht0, ml_nil, low_zero] at h1
          exact nv e List.mem_cons_self h1
      rw [hv0]; exact Ht.nil _ _
    · refine ⟨D + E', by omega, by omega, ?_⟩
      rw [Int.natCast_add]; exact hvh
  refine ⟨_, _, rfl, rfl, ?_⟩
  show gName 7 (V.int ((E' : Int) + n)) _ _ _
  rw [hN]
  have s1012 := Same.trans s11 s12
  have kb12' := kb10.trans (KB.of s1012 kb10.b')
  have hbd12 := s1012 _ _ hbd10
  refine ⟨_, rfl, _, rfl, g, p, 9, rfl, hp, by decide, by decide, kb12'.b', fun H13 x9 kb13 x1 x2 x3 => ?_⟩
  refine ⟨_, rfl, _, rfl, _, rfl, _, rfl, L, DD, rfl, hL, hDD, fun H14 l2 ps3 s14 fl2 hl2 ka3 mn hne3 => ?_⟩
  have kb14' := kb13.trans (KB.of s14 kb13.b')
  have hlg : l2 ≠ g := fun z => by
    obtain ⟨a, b, c, e⟩ := kb13.b'
    rw [z, e] at fl2; cases fl2
  have hpl3 := mn.len hL (by omega)
  refine ⟨g, l2, _, rfl, hl2, hlg, by simpa using hne3, by rw [List.length_map]; omega, kb14'.b', fun H15 yk kb15 hyk => ?_⟩
  obtain ⟨zk, hzk2, rfl⟩ := List.mem_map.mp hyk
  have kb1215 := kb14'.trans kb15
  have hbd15 := kb1215.tb hbd12
  have hz15 := kb15.tp (ka3 zk hzk2)
  have lv := hvd.len hL (by omega)
  refine ⟨bd, _, rfl, dput_tb hbd15 hz15 (by omega), ?_⟩
  have kb15' := kb12'.trans kb1215
  have fbdH : H8 bd = none := fbd
  have Bd16 : Tb (upd H15 bd (.dT (et (put v zk.2 x9)))) bd (put v zk.2 x9) := upd_same
  have hbg : bd ≠ g := fun z => by
    obtain ⟨a, b, c, e⟩ := kb18.b'
    rw [z, e] at fbd; cases fbd
  have kb16 : KB g H8 (upd H15 bd (.dT (et (put v zk.2 x9)))) := by
    have kb8 : KB g H8 H15 := ((KB.of s810 kb18.b').trans (KB.of s1012 kb10.b')).trans kb1215
    refine ⟨kb8.b, ?_, fun b o hb e => ?_⟩
    · obtain ⟨a, b, c, e⟩ := kb8.b'
      exact ⟨a, b, c, by rw [upd_ne hbg.symm]; exact e⟩
    · have h1 : b ≠ bd := fun z => by rw [z, fbd] at e; cases e
      rw [upd_ne h1]; exact kb8.k b o hb e
  generalize upd H15 bd (.dT (et (put v zk.2 x9))) = H16 at *
  have hGb : Gv p L (DD : Int) (put v zk.2 x9) := ⟨by omega, hvd.put (mn.mo zk hzk2) _, fun e he => (mem_put he).elim (fun h => hGv.2.2 e h) fun h => by rw [h]; exact ⟨x1, x2, by simp only; omega, by simp only; omega⟩⟩
  have ha16 := kb16.tb ha8
  have hb16 := kb16.tb hb8
  have hc16 := kb16.tb hc8
  refine ⟨_, rfl, _, rfl, _, rfl, fun e he => ⟨_, rfl, p, e, b, 1, [], u, L, E', rfl, hp, upd_same, sm_new he _ _ hb16, hL, by omega, Ht.nil _ _, hu, (fun k => by rw [gt_nil, low_zero]), ⟨by decide, by decide⟩, fun r1 H17 s1t s17 fr17 h17 hh17 n17 g17 => ?_⟩⟩
  have s1617 := Same.trans (sm_new (o := .dT []) he) s17
  have kb17 := kb18.trans (kb16.trans (KB.of s1617 kb16.b'))
  obtain ⟨hG17, _⟩ := fs_gv hp (by decide) (by omega : ((E' : Nat) : Int) ≤ 6) bu hh17 n17 g17
  refine ⟨_, rfl, _, rfl, _, rfl, _, rfl, g, p, 3, L, DD, rfl, hp, by decide, by decide, hL, hDD, kb17.b', fun H18 a4 t4 kb18b fa4 ha4 ht4 hv4 => ?_⟩
  refine ⟨by show 4 ≤ sizeLine; omega, fun tp htp => ?_⟩
  have sT := sm_new (o := .tup [.ref bd, .ref a, .ref r1, .ref a4]) htp
  have q1 := sT _ _ (kb18b.tb (s1617 _ _ Bd16))
  have q2 := sT _ _ (kb18b.tb (s1617 _ _ ha16))
  have q3 := sT _ _ (kb18b.tb h17)
  have q4 := sT _ _ ha4
  have qb := sT _ _ (kb18b.tb (s1617 _ _ hb16))
  have qc := sT _ _ (kb18b.tb (s1617 _ _ hc16))
  have kbS := kb17.trans (kb18b.trans (KB.of sT kb18b.b'))
  have hSq : SqT K (upd H18 tp (.tup [.ref bd, .ref a, .ref r1, .ref a4])) tp [.ref bd, .ref a, .ref r1, .ref a4] := SqT.of upd_same
  have htp2 : upd H18 tp (.tup [.ref bd, .ref a, .ref r1, .ref a4]) tp = some (.tup [.ref bd, .ref a, .ref r1, .ref a4]) := upd_same
  generalize upd H18 tp (.tup [.ref bd, .ref a, .ref r1, .ref a4]) = HS at *
  have hG4 := hv4.gv (by decide) (by omega : ((DD : Nat) : Int) ≤ 6) ht4
  have hall : ∀ x ∈ [V.ref bd, .ref a, .ref r1, .ref a4], ∃ (ad : Addr) (tt : Tg.T) (D1 : Int), x = .ref ad ∧ Tb HS ad tt ∧ Gv p L D1 tt := by
    intro x hx
    simp only [List.mem_cons, List.not_mem_nil, or_false] at hx
    rcases hx with rfl | rfl | rfl | rfl
    · exact ⟨_, _, _, rfl, q1, hGb⟩
    · exact ⟨_, _, _, rfl, q2, hGt⟩
    · exact ⟨_, _, _, rfl, q3, hG17⟩
    · exact ⟨_, _, _, rfl, q4, hG4⟩
  refine ⟨tp, rfl, ⟨_, hSq⟩, for_tup (xs := [V.ref bd, .ref a, .ref r1, .ref a4]) (fun i σ' H' => ∃ x8 : Option V, σ' = [some (.ref g), some (.int p), some (.int L), some (.ref a), some (.ref b), some (.ref c), some (.ref bd), some (.int DD), x8, none] ∧ Same HS H') ⟨none, rfl, Same.refl _⟩ (fun i σ' H' _ ⟨_, _, s⟩ => SqT.of (s _ _ htp2)) ?_ ?_⟩
  · rintro i x σ' H' hx ⟨x8, rfl, sm⟩
    obtain ⟨ad, tt, D1, rfl, had, hGd⟩ := hall x (List.mem_of_getElem? hx)
    exact ⟨_, rfl, _, rfl, _, rfl, _, rfl, p, L, ad, b, tt, u, D1, E', rfl, hp, hL, sm _ _ had, sm _ _ qb, hGd, hGu, sgu, une, fun H'' s2 => ⟨_, rfl, ifF rfl ⟨_, rfl, Same.trans sm s2⟩⟩⟩
  · rintro σ' H' ⟨x8, rfl, sm⟩
    refine ⟨_, rfl, fun e2 he2 => ⟨_, rfl, p, e2, b, 2, [], u, L, E', rfl, hp, upd_same, sm_new he2 _ _ (sm _ _ qb), hL, by omega, Ht.nil _ _, hu, (fun k => by rw [gt_nil, low_zero]), ⟨by decide, by decide⟩, fun r2 H19 v2 s19 fr19 h19 hh19 n19 g19 => ?_⟩⟩
    obtain ⟨hG19, sn19⟩ := fs_gv hp (by decide) (by omega : ((E' : Nat) : Int) ≤ 6) bu hh19 n19 g19
    have s19' := Same.trans sm (Same.trans (sm_new (o := .dT []) he2) s19)
    refine ⟨_, rfl, fun n3 hn3 => ⟨r2, n3, v2, [], rfl, rfl, sm_new hn3 _ _ h19, upd_same, ?_⟩⟩
    have s20 := Same.trans s19' (sm_new (o := .dT []) hn3)
    have h20 := sm_new (o := .dT []) hn3 _ _ h19
    by_cases hv2 : v2 = []
    · subst hv2
      exact .inr ⟨alike_refl _, _, rfl, ifT rfl (q _ (kbS.trans (KB.of s20 kbS.b')))⟩
    · refine .inl ⟨fun z => hv2 (List.eq_nil_of_length_eq_zero z), _, rfl, ifF rfl ⟨_, rfl, _, rfl, _, rfl, _, rfl, p, L, c, r2, v, v2, _, E', rfl, hp, hL, s20 _ _ qc, h20, hGv, hG19, sn19, hv2, fun H21 s21 => ?_⟩⟩
      exact q _ (kbS.trans (KB.of (Same.trans s20 s21) kbS.b'))
end
end Tg
end
section
set_option Elab.async false
set_option autoImplicit false
set_option linter.all false
set_option maxRecDepth 100000
set_option maxHeartbeats 4000000
set_option pp.maxSteps 600
/-! The law's orders. -/
namespace Tg
section
variable {p : Int} {g f : F} {h : K} {x y : Int} {n k : Nat}
theorem root_of {u : Int} (hx : low p x = low p (u * g [0, 1])) (hy : low p y = low p (-(u * g [1, 0]))) : low p (g [1, 0] * x + g [0, 1] * y) = 0 := by
  have e1 : low p (g [1, 0] * x) = low p (g [1, 0] * (u * g [0, 1])) := by rw [← low_mul', hx, low_mul']
  have e2 : low p (g [0, 1] * y) = low p (g [0, 1] * (-(u * g [1, 0]))) := by rw [← low_mul', hy, low_mul']
  rw [← low_add, e1, low_add, ← low_add', e2, low_add']
  have : g [1, 0] * (u * g [0, 1]) + g [0, 1] * (-(u * g [1, 0])) = 0 := by
    generalize g [1, 0] = a; generalize g [0, 1] = b
    rw [Int.mul_neg, ← Int.mul_assoc, ← Int.mul_assoc, Int.mul_comm a u, Int.mul_comm b u, Int.mul_assoc, Int.mul_assoc, Int.mul_comm a b]
    omega
  rw [this]; exact low_zero p
/-- the order is above 0 exactly at a root -/
theorem root_iff (G : Dvr p 2 1 g h) {u : Int} (hu : low p u ≠ 0) (hx : low p x = low p (u * g [0, 1])) (hy : low p y = low p (-(u * g [1, 0]))) (hg : p = 0 → Int.gcd (g [1, 0]) (g [0, 1]) = 1)
    (hf : Hm 2 (k : Int) f) (rf : Rdc p f) (o : Od p g h f n) : decide ((n : Int) > 0) = decide (low p (ev f k x y) = 0) := by
  cases o with
  | stop d =>
    have h1 := Dv.noroot (Lin.of G) hu hx hy hg d hf rf rfl
    rw [decide_eq_false h1]; rfl
  | @more _ q m d o =>
    have h1 := Dv.root (Lin.of G) (root_of hx hy) d hf q rfl
    rw [decide_eq_true h1]
    exact decide_eq_true (by omega)
end
end Tg
namespace Tg
open PySem PySem.Spec PyProof.Rows L2 RZ
section
variable {P : Program} {w : World} {K : PySem.W.Frag} {mg : Str → Option Value} {base : Heap}
def sp_law_orders_right : Sp := fun vs H Q _ => ∃ (g : Addr) (p : Int) (L : Nat), vs = [.ref g, .int p, .int L] ∧ Pm p ∧ Lt L ∧ Bg H g ∧ ∀ H', KB g H H' → Q (.bl true) H'
theorem sc_law_orders_right : FnScope ["_law_bag_here", "_law_prime_here", "_law_letters", "_law_linear", "_law_plain", "_law_rest", "_law_table", "_law_form_here", "_law_line", "_law_told_here", "_law_a", "_law_b"] ["_law_bag_here", "_law_prime_here", "_law_letters"] (defScope s_law_orders_right) := ⟨rfl, rfl, rfl, by decide +kernel, rfl, by decide +kernel, by decide +kernel⟩
/- _law_bag_here 0 _law_prime_here 1 _law_letters 2 _law_linear 3 _law_plain 4 _law_rest 5 _law_table 6 _law_form_here 7 _law_line 8 _law_told_here 9 _law_a 10 _law_b 11 -/
theorem w_law_orders_right (px : Px K mg) : FnR P w K mg base CX0 12 (d_law_orders_right.at_ K) sp_law_orders_right ∧ PySem.W.keepIn K (.ref (d_law_orders_right.at_ K)) = true := by
  refine px.R 58 rfl rfl rfl sc_law_orders_right (fun vs H Q E ⟨_, _, _, e, _⟩ => by rw [e]; rfl) (fun _ _ _ _ _ _ us hl => match us, hl with | [_, _, _], _ => rfl) (fun cdv A outer s H vs Q E hr h => ⟨_, (pss_cons (ps_set (i := 3) sc_law_orders_right.nd rfl (Or.inl rfl) (pe_cR (w_law_some_terms px) (hr.mono (by decide)) (px.g "_law_some_terms" (by simp [gloL])) pass0 (pa_cons (pv 0) (pa_cons (pv 1) (pa_cons (pv 2) (pa_cons pe_int (pa_cons pe_int pa_nil))))))) (pss_cons (ps_set (i := 4) sc_law_orders_right.nd rfl (Or.inl rfl) (pe_cR (w_law_fcleared px) (hr.mono (by decide)) (px.g "_law_fcleared" (by simp [gloL])) pass0 (pa_cons (pv 1) (pa_cons (pv 3) pa_nil)))) (pss_cons (ps_set (i := 5) sc_law_orders_right.nd rfl (Or.inl rfl) (pe_cR (w_law_some_terms px) (hr.mono (by decide)) (px.g "_law_some_terms" (by simp [gloL])) pass0 (pa_cons (pv 0) (pa_cons (pv 1) (pa_cons (pv 2) (pa_cons (pe_cR (w_law_grab px) (hr.mono (by decide)) (px.g "_law_grab" (by simp [gloL])) pass0 (pa_cons (pv 0) (pa_cons pe_int pa_nil))) (pa_cons pe_int pa_nil))))))) (pss_cons (ps_set (i := 6) sc_law_orders_right.nd rfl (Or.inl rfl) (pe_cR (w_law_fproduct px) (hr.mono (by decide)) (px.g "_law_fproduct" (by simp [gloL])) pass0 (pa_cons (pv 1) (pa_cons (pv 5) (pa_cons (pe_cR (w_law_fpower px) (hr.mono (by decide)) (px.g "_law_fpower" (by simp [gloL])) pass0 (pa_cons (pv 1) (pa_cons (pv 2) (pa_cons (pv 4) (pa_cons (pe_cR (w_law_grab px) (hr.mono (by decide)) (px.g "_law_grab" (by simp [gloL])) pass0 (pa_cons (pv 0) (pa_cons pe_int pa_nil))) pa_nil))))) pa_nil))))) (pss_cons (ps_par (i := 7) (j := 8) rfl sc_law_orders_right.nd rfl rfl (by decide) rfl rfl (pa_cons (pe_cR (w_law_form px) (hr.mono (by decide)) (px.g "_law_form" (by simp [gloL])) pass0 (pa_cons (pv 1) (pa_cons (pv 2) (pa_cons (pv 6) pa_nil)))) (pa_cons (pe_cR (w_law_form px) (hr.mono (by decide)) (px.g "_law_form" (by simp [gloL])) pass0 (pa_cons (pv 1) (pa_cons (pv 2) (pa_cons (pv 3) pa_nil)))) pa_nil)) (by rfl)) (pss_cons (ps_set (i := 9) sc_law_orders_right.nd rfl (Or.inl rfl) (SlX.pe_methSl (pv 7) px.cl.sf (px.meth (m := "order_of") (by simp [methL])) (w_Form_order_of px).1 (hr.mono (by decide)) pass0 (pa_cons (pv 8) pa_nil))) (pss_cons (ps_if (PW.pt (pw_or (pt_cmpR op_ne (pv 9) (pe_cR (w_law_order px) (hr.mono (by decide)) (px.g "_law_order" (by simp [gloL])) pass0 (pa_cons (pv 1) (pa_cons (pv 6) (pa_cons (pv 4) pa_nil)))) (nomark _)) (pw_or1 (pt_cmp (pc_notN (SlX.pe_methSl (StX.pe_makeR px.mkF (w_Form_init3 px) (hr.mono (by decide)) rfl (px.g "Form" (by simp [gloL])) pass0 (pa_cons (pv 1) (pa_cons (pv 2) pa_nil))) px.cl.sf (px.meth (m := "order_of") (by simp [methL])) (w_Form_order_of px).1 (hr.mono (by decide)) pass0 (pa_cons (pv 8) pa_nil))))))) (pss_one (ps_ret pe_bl)) pss_nil) (pss_cons (ps_if (pt_cmpR op_eq (pv 2) pe_int (nomark _)) (pss_one (ps_ret pe_bl)) pss_nil) (pss_cons (ps_par (i := 10) (j := 11) rfl sc_law_orders_right.nd rfl rfl (by decide) rfl rfl (pa_cons (pe_dget2 (un1 hr) (pv 3) (pe_tup (pa_cons pe_int (pa_cons pe_int pa_nil))) pe_int ⟨by rfl, by rfl, by rfl, by rfl⟩) (pa_cons (pe_dget2 (un1 hr) (pv 3) (pe_tup (pa_cons pe_int (pa_cons pe_int pa_nil))) pe_int ⟨by rfl, by rfl, by rfl, by rfl⟩) pa_nil)) (by rfl)) (pss_one (ps_ret (pe_cmpR op_eq (pe_cmpR op_gt (pv 9) pe_int (nomark _)) (pe_cmpR op_eq (SlX.pe_methSl (pv 7) px.cl.sf (px.meth (m := "at") (by simp [methL])) (w_Form_at px).1 (hr.mono (by decide)) pass0 (pa_cons (pe_tup (pa_cons (pv 11) (pa_cons (pe_cR (w_law_low px) (hr.mono (by decide)) (px.g "_law_low" (by simp [gloL])) pass0 (pa_cons (pv 1) (pa_cons (pe_un un_neg (pv 10)) pa_nil))) pa_nil))) pa_nil)) pe_int (nomark _)) (nomark _))))))))))))), ?_⟩)
  obtain ⟨g, p, L, rfl, hp, hL, hb, q⟩ := h
  have sz : (64 : Nat) < sizeLine := by decide
  refine ⟨_, rfl, _, rfl, _, rfl, g, p, 4, L, 1, rfl, hp, by decide, by decide, hL, by decide, hb, fun H1 a t kb1 fa ha ht0 hv tne => ?_⟩
  have ht : Ht L 1 t := ht0
  have hGt := hv.gv (by decide) (by omega : (1 : Int) ≤ 6) ht
  have snt := hv.sn (by decide)
  have bt : ∀ e ∈ t, e.2.natAbs ≤ 14 := fun e he => by have := (hv e he).2.2; omega
  refine ⟨_, rfl, _, rfl, p, a, t, L, 1, rfl, hp, hL, by omega, ha, ht, hGt.nz, hGt.rd, snt, fun H2 b t' g' s2 fb dt' nz' gt' C hbg => ?_⟩
  have kb2 := kb1.trans (KB.of s2 kb1.b')
  have ht' : Ht L 1 t' := Ht.of dt' nz' fun k hk => ht.hm k (by rw [← gt']; exact hk)
  have rd' : Rdc p (gt t') := fun k => by rw [gt']; exact hGt.rd k
  have bt' : ∀ e ∈ t', e.2.natAbs ≤ 14 := fun e he => by
    have h1 := gt_mem dt'.nd he
    rw [gt'] at h1
    have h2 := bt _ (gt_ne (t := t) (k := e.1) (by rw [h1]; exact nz' e he))
    simp only at h2
    rw [h1] at h2; exact h2
  have sn' : Sn t' := fun e he => by have := bt' e he; omega
  have t'ne : t' ≠ [] := fun z => by
    obtain ⟨k, hk⟩ := gt_ex hGt.nz tne
    rw [← gt', z, gt_nil] at hk
    exact hk rfl
  have F := C.f hp dt' nz' ht' rd'
  have bg' := C.bd hp (by decide : 11 ≤ 14) dt' nz' rd' bt'
  have gne : g' ≠ [] := fun z => by
    have h1 := congrArg List.length C.1
    rw [z] at h1
    simp at h1
    exact t'ne (List.eq_nil_of_length_eq_zero h1.symm)
  have hGg : Gv p L 1 g' := ⟨by omega, F.ht, fun e he => ⟨by have := F.rd e.1; rw [gt_mem F.ds.nd he] at this; exact this, F.nz e he, by have := bg' e he; omega, by have := bg' e he; omega⟩⟩
  obtain ⟨h, G⟩ := hGg.dvr hp gne
  refine ⟨_, rfl, _, rfl, _, rfl, _, rfl, g, 4, rfl, by decide, by decide, kb2.b', fun H3 r kb3 r0 r1 => ?_⟩
  obtain ⟨D, rfl⟩ := Int.eq_ofNat_of_zero_le r0
  refine ⟨g, p, 6, L, D, rfl, hp, by decide, by decide, hL, by omega, kb3.b', fun H4 c u kb4 fc hc hu hvu une => ?_⟩
  have kb34 := kb3.trans kb4
  have kb14 := kb2.trans kb34
  refine ⟨_, rfl, _, rfl, _, rfl, _, rfl, _, rfl, _, rfl, g, 4, rfl, by decide, by decide, kb14.b', fun H5 r kb5 r0 r1 => ?_⟩
  obtain ⟨m, rfl⟩ := Int.eq_ofNat_of_zero_le r0
  have hb5 := kb5.tb (kb34.tb hbg)
  have hc5 := kb5.tb hc
  have ha5 := (kb34.trans kb5).tb (s2 _ _ ha)
  refine ⟨p, L, b, m, g', rfl, hp, hL, hb5, F.ht, F.sn sn', by omega, fun H6 d pw s6 fd hd hpw => ?_⟩
  have PF := hpw.f hp hL G bg' (by omega)
  have hcd : c ≠ d := ne_of_none hc5 fd
  have hDE : (D : Int) + (m : Int) ≤ 6 := by omega
  refine ⟨p, c, d, u, pw, L, D, m, rfl, hp, hcd, s6 _ _ hc5, hd, hL, hDE, hu, hpw.ht, .inl (hvu.sn (by decide)), fun e H7 v s7 fe he hvh nv gv => ?_⟩
  have bu : ∀ e ∈ u, e.2.natAbs ≤ 16 := fun e he => by have := (hvu e he).2.2; omega
  have bv := prod_gv hp hL hDE (by omega) hu bu PF.bd hvh nv gv
  have hpb : pb m ≤ 61930915 := by
    have hm : m = 0 ∨ m = 1 ∨ m = 2 ∨ m = 3 := by omega
    rcases hm with rfl | rfl | rfl | rfl <;> decide
  have hGv : Gv p L ((D : Int) + m) v := ⟨hDE, hvh, fun e he => ⟨(bv e he).2, nv e he, by have := (bv e he).1; omega, by have := (bv e he).1; omega⟩⟩
  have hGp : Gv p L (m : Int) pw := ⟨by omega, hpw.ht, fun e he => ⟨PF.rd e he, PF.nz e he, by have := PF.bd e he; omega, by have := PF.bd e he; omega⟩⟩
  obtain ⟨hk, Gp⟩ := hGp.dvr hp PF.ne
  have hGu := hvu.gv (by decide) (by omega : ((D : Nat) : Int) ≤ 6) hu
  have vne : v ≠ [] := prod_ne Gp (by omega) (by omega) hu hGu.nz (fun e he => (hvu e he).1) hvh.hm gv une
  refine ⟨_, rfl, _, rfl, _, rfl, p, L, _, e, v, rfl, hp, hL, he, hGv, fun H8 x xa t2 s8 fx hx dt2 zt2 gt2 => ?_⟩
  have ha7 := s7 _ _ (s6 _ _ ha5)
  refine ⟨_, rfl, _, rfl, _, rfl, p, L, 1, a, t, rfl, hp, hL, s8 _ _ ha7, hGt, fun H9 y yb g2 s9 fy hy dg2 zg2 gg2 => ⟨_, _, rfl, ?_⟩⟩
  have e2 : gt t2 = gt v := funext gt2
  have eg2 : g2 = t' := Ds.ext dg2 dt' zg2 nz' fun k => by rw [gg2, gt']
  subst eg2
  have ht2 : Ht L ((D : Int) + m) t2 := Ht.of dt2 zt2 (by rw [e2]; exact hvh.hm)
  have rd2 : Rdc p (gt t2) := by rw [e2]; exact hGv.rd
  have vex := gt_ex nv vne
  have t2ne : t2 ≠ [] := fun z => by
    obtain ⟨k, hk⟩ := vex
    rw [← gt2, z, gt_nil] at hk
    exact hk rfl
  obtain ⟨n, hO⟩ := Od.ex G 41 (D := (D : Int) + m) (f := gt t2) (by omega) (by omega) ht2.hm rd2 (gt_ex zt2 t2ne)
  have hx9 := fo_same hx s9
  obtain ⟨dx, hx1, _⟩ := id hx9
  refine ⟨_, rfl, x, dx, _, rfl, hx1, _, rfl, x, xa, y, yb, p, L, (D : Int) + m, t2, g2, g', h, n, rfl, hx9, hy, hL, hDE, dt2, zt2, ht2, rd2, dg2, zg2, ht', rd', sn', t'ne, C, G, fun _ => hO, fun z => absurd z t2ne, fun _ H10 s10 => ?_⟩
  have s510 : Same H5 H10 := Same.trans s6 (Same.trans s7 (Same.trans s8 (Same.trans s9 s10)))
  have he10 := s10 _ _ (s9 _ _ (s8 _ _ he))
  have hO2 : Od p (gt g') h (gt v) n := by rw [← e2]; exact hO
  refine ⟨_, rfl, _, rfl, _, rfl, _, rfl, p, e, b, v, g', h, L, (D : Int) + m, n, rfl, he10, s510 _ _ hb5, hL, G, hDE, hvh, nv, hGv.rd, vne, F.ht, F.nz, F.sn sn', hO2, fun H11 s11 => ⟨rfl, _, rfl, ifF (by simp [eqV]) ?_⟩⟩
  refine ⟨_, rfl, _, rfl, fun z dz hz hdz hzn => ?_⟩
  refine ⟨z, dz, _, _, _, rfl, hzn, upd_same, by rw [upd_ne hzn, upd_same], .inl ⟨p, L, [], rfl, rfl, hp, hL, .inl ⟨rfl, rfl⟩, fun H12 b0 u0 bb sl0 hb0 du0 zu0 gu0 => ⟨rfl, ?_⟩⟩⟩
  have s12 : Same H11 H12 := but2_same hz hdz bb
  have u00 : u0 = [] := Ds.ext du0 List.Pairwise.nil zu0 (fun _ h => nomatch h) gu0
  subst u00
  have s911 := Same.trans s10 (Same.trans s11 s12)
  refine ⟨z, dz, _, rfl, sl0, _, rfl, z, b0, y, yb, p, L, 0, [], g2, g', h, 0, rfl, ⟨dz, sl0, hb0⟩, fo_same hy s911, hL, by decide, List.Pairwise.nil, (fun _ h => nomatch h), Ht.nil _ _, (fun k => low_zero p), dg2, zg2, ht', rd', sn', t'ne, C, G, (fun z => absurd rfl z), (fun _ H13 s13 => ⟨_, rfl, ifF rfl ?_⟩), (fun z => absurd rfl z)⟩
  have s913 := Same.trans s911 s13
  have s513 : Same H5 H13 := Same.trans s510 (Same.trans s11 (Same.trans s12 s13))
  have kbE : KB g H H13 := kb14.trans (kb5.trans (KB.of s513 kb5.b'))
  rcases hL with rfl | rfl
  · refine ⟨_, rfl, rfl, _, rfl, ifF rfl ?_⟩
    have haE : Tb H13 a t := s513 _ _ ha5
    refine ⟨_, rfl, a, rfl, .inr ⟨_, .inl haE⟩, by show 2 ≤ sizeLine; omega, fun tp htp => ⟨_, dget_any (k := [1, 0]) (sm_new htp _ _ haE) upd_same, ?_⟩⟩
    have s14 := sm_new (o := .tup [.int 1, .int 0]) htp
    generalize upd H13 tp (.tup [.int 1, .int 0]) = H14 at *
    refine ⟨_, rfl, a, rfl, .inr ⟨_, .inl (s14 _ _ haE)⟩, by show 2 ≤ sizeLine; omega, fun tq htq => ⟨_, dget_any (k := [0, 1]) (sm_new htq _ _ (s14 _ _ haE)) upd_same, _, _, rfl, ?_⟩⟩
    have s15 := sm_new (o := .tup [.int 0, .int 1]) htq
    generalize upd H14 tq (.tup [.int 0, .int 1]) = H15 at *
    rw [valV_getD, valV_getD]
    refine ⟨_, rfl, _, _, rfl, rfl, _, rfl, x, dx, _, rfl, slt_same hx1 (Same.trans s913 (Same.trans s14 s15)), ?_⟩
    refine ⟨_, rfl, _, rfl, _, rfl, _, rfl, p, _, rfl, hp, by show 2 ≤ sizeLine; omega, fun tr htr => ?_⟩
    have s16 := sm_new (o := .tup [.int (gt t [0, 1]), .int (low p (-(gt t [1, 0])))]) htr
    have sE := Same.trans s913 (Same.trans s14 (Same.trans s15 s16))
    have b1 := gt_bd bt [1, 0]
    have b2 := gt_bd bt [0, 1]
    have b3 := low_bd2 hp (-(gt t [1, 0]))
    have hne : p ≠ 0 → (0 ≤ gt t [0, 1] ∧ gt t [0, 1] < p) ∧ (0 ≤ low p (-(gt t [1, 0])) ∧ low p (-(gt t [1, 0])) < p) := fun h0 => by
      have h1 := low_bd hp h0 (gt t [0, 1])
      rw [hGt.rd] at h1
      exact ⟨h1, low_bd hp h0 _⟩
    have hDn : ((D : Nat) : Int) + ((m : Nat) : Int) = ((D + m : Nat) : Int) := by omega
    rw [hDn] at ht2
    refine ⟨x, xa, tr, p, D + m, t2, gt t [0, 1], low p (-(gt t [1, 0])), rfl, fo_same hx9 sE, upd_same, hp, by omega, ht2, t2ne, ⟨by omega, by omega⟩, ⟨by omega, by omega⟩, hne, fun H17 s17 => ⟨rfl, rfl, ?_⟩⟩
    obtain ⟨v, hv0, hvt⟩ := clr_unit hp C dt' nz' ht' rd'
    have hx0 : low p (gt t [0, 1]) = low p (v * gt g' [0, 1]) := by rw [← gt', hvt, low_low]
    have hy0 : low p (low p (-(gt t [1, 0]))) = low p (-(v * gt g' [1, 0])) := by
      rw [low_low, ← gt', hvt]
      have e1 : -(low p (v * gt g' [1, 0])) = 0 - low p (v * gt g' [1, 0]) := by omega
      have e2 : -(v * gt g' [1, 0]) = 0 - v * gt g' [1, 0] := by omega
      rw [e1, e2, low_sub']
    have R := root_iff G hv0 hx0 hy0 (fun h0 => by subst h0; exact clr_gcd C dt' nz' ht' rd' t'ne) ht2.hm rd2 hO
    refine toQ (b := .bl true) ?_ (q H17 (kbE.trans (KB.of (Same.trans s14 (Same.trans s15 (Same.trans s16 s17))) kbE.b')))
    rw [dec_int]
    show V.bl (decide (V.bl (decide ((0 : Int) < (n : Int))) = V.bl (decide (low p (ev (gt t2) (D + m) (gt t [0, 1]) (low p (-(gt t [1, 0])))) = 0)))) = V.bl true
    rw [show (decide ((0 : Int) < (n : Int))) = decide ((n : Int) > 0) from rfl, R]
    simp
  · exact ⟨_, rfl, rfl, _, rfl, ifT rfl (q H13 kbE)⟩
end
end Tg
end
section
set_option Elab.async false
set_option autoImplicit false
set_option linter.all false
set_option maxRecDepth 100000
set_option maxHeartbeats 4000000
/-! The law's own forms. -/
namespace Tg
/-- a table with few terms in two letters, looked at -/
def cfB (p D : Int) (t : T) : Bool := decide (t.Pairwise fun a b => cd b.1 < cd a.1) && ((t.all fun e => decide (e.1.length = 2) && ((e.1.all fun x => decide (0 ≤ x)) && (decide (e.1.sum = D) && (decide (low p e.2 = e.2) && (decide (e.2 ≠ 0) && decide (e.2.natAbs ≤ 100)))))) && decide (D ≤ 6))
structure Cf (p D : Int) (t : T) : Prop where
  gv : Gv p 2 D t
  ds : Ds t
  bd : ∀ e ∈ t, e.2.natAbs ≤ 100
theorem Cf.of {p D : Int} {t : T} (h : cfB p D t = true) : Cf p D t := by
  unfold cfB at h
  obtain ⟨h1, h⟩ := Bool.and_eq_true_iff.mp h
  obtain ⟨h2, h3⟩ := Bool.and_eq_true_iff.mp h
  have ds0 : t.Pairwise fun a b => cd b.1 < cd a.1 := of_decide_eq_true h1
  have ds : Ds t := ds0
  have key : ∀ e ∈ t, Mo 2 D e.1 ∧ low p e.2 = e.2 ∧ e.2 ≠ 0 ∧ e.2.natAbs ≤ 100 := fun e he => by
    have h4 := List.all_eq_true.mp h2 e he
    simp only [Bool.and_eq_true] at h4
    obtain ⟨a1, a2, a3, a4, a5, a6⟩ := h4
    exact ⟨⟨of_decide_eq_true a1, fun x hx => of_decide_eq_true (List.all_eq_true.mp a2 x hx), of_decide_eq_true a3⟩, of_decide_eq_true a4, of_decide_eq_true a5, of_decide_eq_true a6⟩
  refine ⟨⟨of_decide_eq_true h3, ⟨ds.nd, fun e he => (key e he).1⟩, fun e he => ?_⟩, ds, fun e he => (key e he).2.2.2⟩
  obtain ⟨_, k1, k2, k3⟩ := key e he
  exact ⟨k1, k2, by omega, by omega⟩
theorem Cf.nz {p D : Int} {t : T} (c : Cf p D t) : Nz t := fun e he => (c.gv.2.2 e he).2.1
theorem Cf.tm {p D : Int} {t : T} (c : Cf p D t) : Tm p 2 D t := fun e he => ⟨c.gv.2.1.mo e he, (c.gv.2.2 e he).1, (c.gv.2.2 e he).2.1⟩
theorem Cf.hm {p D : Int} {t : T} (c : Cf p D t) : Hm 2 D (gt t) := c.tm.hm
theorem Cf.dvr {p D : Int} {e : K × Int} {t : T} (P : Pm p) (c : Cf p D (e :: t)) : Dvr p 2 D (gt (e :: t)) e.1 := ⟨P, c.hm, c.gv.rd, c.ds.ld c.nz, by have := c.gv.1; omega⟩
/-- a product, looked at where one of the two may be -/
def muB (p : Int) (v q g : T) : Bool := (v.map (·.1) ++ q.flatMap fun e => g.map fun u => ad u.1 e.1).all fun k => decide (gt v k = low p (ml q (gt g) k))
theorem mu_of {p D E : Int} {v q g : T} (cg : Cf p E g) (cq : Cf p D q) (h : muB p v q g = true) : gt v = fun k => low p (ml q (gt g) k) := funext fun k => by
  by_cases hk : k ∈ v.map (·.1) ++ q.flatMap fun e => g.map fun u => ad u.1 e.1
  · exact of_decide_eq_true (List.all_eq_true.mp h k hk)
  · rw [List.mem_append, not_or] at hk
    rw [gt_out hk.1]
    rcases Int.decEq (ml q (gt g) k) 0 with z | z
    · exfalso
      obtain ⟨e, he, hs⟩ := ml_supp z
      obtain ⟨mk, hg⟩ := sh_hm cg.hm (cq.gv.2.1.mo e he) hs
      refine hk.2 (List.mem_flatMap.mpr ⟨e, he, List.mem_map.mpr ⟨_, gt_ne hg, ?_⟩⟩)
      exact ad_sb (mk.len.trans (cq.gv.2.1.mo e he).len.symm)
    · rw [z]; exact (low_zero p).symm
theorem dv_mu {p D E : Int} {v q g : T} {h : K} (G : Dvr p 2 E (gt g) h) (cg : Cf p E g) (cq : Cf p D q) (b : muB p v q g = true) : Dv p (gt g) h (gt v) (some q) := by
  rw [mu_of cg cq b]
  exact Dv.of_mul G (by have := cg.gv.1; have := cq.gv.1; omega) cq.tm cq.ds
/-- no quotient where a root is none -/
theorem dv_no {p : Int} {g v : T} {h : K} {n : Nat} {x y : Int} (G : Dvr p 2 1 (gt g) h) (cv : Cf p (n : Int) v) (hr : low p (gt g [1, 0] * x + gt g [0, 1] * y) = 0) (hv : low p (ev (gt v) n x y) ≠ 0) {r : Option T} (d : Dv p (gt g) h (gt v) r) : r = none := by
  cases r with
  | none => rfl
  | some q => exact absurd (Dv.root (Lin.of G) hr d cv.hm q rfl) hv
/-! the law's own forms -/
abbrev cSq : T := [([2, 0], 1)]
abbrev cDb : T := [([1, 0], 2)]
abbrev cX : T := [([1, 0], 1)]
abbrev cUn : T := [([0, 0], 1)]
abbrev cS4 : T := [([2, 0], 4)]
abbrev cM1 : T := [([0, 0], -1)]
abbrev cMs : T := [([2, 0], -1)]
abbrev cFo : T := [([4, 0], 1), ([2, 2], -2), ([0, 4], 1)]
abbrev cLi : T := [([1, 0], -3), ([0, 1], 3)]
abbrev cLc : T := [([1, 0], 1), ([0, 1], -1)]
abbrev cQ3 : T := [([3, 0], 1), ([2, 1], 1), ([1, 2], -1), ([0, 3], -1)]
abbrev cQ2 : T := [([2, 0], 1), ([1, 1], 2), ([0, 2], 1)]
abbrev c6 : T := [([0, 0], 6)]
abbrev cA5 : T := [([1, 0], 2), ([0, 1], 4)]
abbrev cB5 : T := [([1, 0], 1), ([0, 1], 2)]
theorem kSq : Cf 0 2 cSq := Cf.of (by decide +kernel)
theorem kDb : Cf 0 1 cDb := Cf.of (by decide +kernel)
theorem kX : Cf 0 1 cX := Cf.of (by decide +kernel)
theorem kUn : Cf 0 0 cUn := Cf.of (by decide +kernel)
theorem kS4 : Cf 0 2 cS4 := Cf.of (by decide +kernel)
theorem kM1 : Cf 0 0 cM1 := Cf.of (by decide +kernel)
theorem kMs : Cf 0 2 cMs := Cf.of (by decide +kernel)
theorem kFo : Cf 0 4 cFo := Cf.of (by decide +kernel)
theorem kLi : Cf 0 1 cLi := Cf.of (by decide +kernel)
theorem kLc : Cf 0 1 cLc := Cf.of (by decide +kernel)
theorem kQ3 : Cf 0 3 cQ3 := Cf.of (by decide +kernel)
theorem kQ2 : Cf 0 2 cQ2 := Cf.of (by decide +kernel)
theorem k6 : Cf 0 0 c6 := Cf.of (by decide +kernel)
theorem kA5 : Cf 5 1 cA5 := Cf.of (by decide +kernel)
theorem kB5 : Cf 5 1 cB5 := Cf.of (by decide +kernel)
theorem pm0 : Pm 0 := .inl rfl
theorem pm5 : Pm 5 := .inr (.inr (.inr (.inl rfl)))
theorem gDb : Dvr 0 2 1 (gt cDb) [1, 0] := kDb.dvr pm0
theorem gX : Dvr 0 2 1 (gt cX) [1, 0] := kX.dvr pm0
theorem gM1 : Dvr 0 2 0 (gt cM1) [0, 0] := kM1.dvr pm0
theorem gLc : Dvr 0 2 1 (gt cLc) [1, 0] := kLc.dvr pm0
theorem lX : Clr 0 cX cX := ⟨rfl, .inr ⟨rfl, by decide +kernel⟩⟩
theorem lDb : Clr 0 cDb cX := ⟨rfl, .inr ⟨rfl, by decide +kernel⟩⟩
theorem lLi : Clr 0 cLi cLc := ⟨rfl, .inr ⟨rfl, by decide +kernel⟩⟩
theorem lA5 : Clr 5 cA5 cB5 := ⟨rfl, .inl ⟨by decide, 3, ⟨by decide, by decide, by decide⟩, by decide +kernel⟩⟩
theorem d_rest : Dv 0 (gt cDb) [1, 0] (gt cSq) none := .rest (m := [2, 0]) (kSq.ds.ld kSq.nz) (.inr ⟨rfl, .inr ⟨by decide +kernel, rfl⟩⟩)
theorem d_s4 : Dv 0 (gt cDb) [1, 0] (gt cS4) (some cDb) := dv_mu gDb kDb kDb (by decide +kernel)
theorem d_nil : Dv 0 (gt cX) [1, 0] (gt []) (some []) := .done fun _ => rfl
theorem d_m1 : Dv 0 (gt cM1) [0, 0] (gt cSq) (some cMs) := dv_mu gM1 kM1 kMs (by decide +kernel)
theorem stop_of {p : Int} {g v : T} {h : K} {n : Nat} {x y : Int} (G : Dvr p 2 1 (gt g) h) (cv : Cf p (n : Int) v) (hr : low p (gt g [1, 0] * x + gt g [0, 1] * y) = 0) (hv : low p (ev (gt v) n x y) ≠ 0) (d : ∃ r, Dv p (gt g) h (gt v) r) : Od p (gt g) h (gt v) 0 := by
  obtain ⟨r, d⟩ := d
  have e := dv_no G cv hr hv d
  subst e
  exact .stop d
end Tg
namespace Tg
theorem o_sq : Od 0 (gt cX) [1, 0] (gt cSq) 2 := .more (dv_mu gX kX kX (by decide +kernel)) (.more (dv_mu gX kX kUn (by decide +kernel)) (stop_of (n := 0) (x := 0) (y := 1) gX kUn (by decide +kernel) (by decide +kernel) (Dv.ex' gX (D := 0) (by decide) kUn.hm)))
theorem o_fo : Od 0 (gt cLc) [1, 0] (gt cFo) 2 := .more (dv_mu gLc kLc kQ3 (by decide +kernel)) (.more (dv_mu gLc kLc kQ2 (by decide +kernel)) (stop_of (n := 2) (x := 1) (y := 1) gLc kQ2 (by decide +kernel) (by decide +kernel) (Dv.ex' gLc (D := 2) (by decide) kQ2.hm)))
theorem o_6 : Od 0 (gt cX) [1, 0] (gt c6) 0 := stop_of (n := 0) (x := 0) (y := 1) gX k6 (by decide +kernel) (by decide +kernel) (Dv.ex' gX (D := 0) (by decide) k6.hm)
theorem o_fx : Od 0 (gt cX) [1, 0] (gt cFo) 0 := stop_of (n := 4) (x := 0) (y := 1) gX kFo (by decide +kernel) (by decide +kernel) (Dv.ex' gX (D := 4) (by decide) kFo.hm)
end Tg
end
section
set_option Elab.async false
set_option autoImplicit false
set_option linter.all false
set_option maxRecDepth 100000
set_option maxHeartbeats 4000000
set_option pp.maxSteps 600
/-! The law. -/
namespace Tg
open PySem PySem.Spec PyProof.Rows L2 RZ
section
variable {P : Program} {w : World} {K : PySem.W.Frag} {mg : Str → Option Value} {base : Heap}
def sp_law_right : Sp := fun vs H Q _ => ∃ (g : Addr), vs = [.ref g] ∧ Bg H g ∧ ∀ H', KB g H H' → Q (.bl true) H'
theorem sc_law_right : FnScope ["_law_bag_here", "_law_prime_here", "_law_letters"] ["_law_bag_here"] (defScope s_law_right) := ⟨rfl, rfl, rfl, by decide +kernel, rfl, by decide +kernel, by decide +kernel⟩
/- _law_bag_here 0 _law_prime_here 1 _law_letters 2 -/
theorem w_law_right (pg : Pg P) (px : Px K mg) : FnR P w K mg base CX0 14 (d_law_right.at_ K) sp_law_right ∧ PySem.W.keepIn K (.ref (d_law_right.at_ K)) = true := by
  refine px.R 60 rfl rfl rfl sc_law_right (fun vs H Q E ⟨_, e, _⟩ => by rw [e]; rfl) (fun _ _ _ _ _ _ us hl => match us, hl with | [_], _ => rfl) (fun cdv A outer s H vs Q E hr h => ⟨_, (pss_cons (ps_par (i := 1) (j := 2) rfl sc_law_right.nd rfl rfl (by decide) rfl rfl (pa_cons (pe_cR (w_law_prime px) (hr.mono (by decide)) (px.g "_law_prime" (by simp [gloL])) pass0 (pa_cons (pv 0) pa_nil)) (pa_cons (pe_op op_add pe_int (pe_cR (w_law_grab px) (hr.mono (by decide)) (px.g "_law_grab" (by simp [gloL])) pass0 (pa_cons (pv 0) (pa_cons pe_int pa_nil)))) pa_nil)) (by rfl)) (pss_cons (ps_if (PW.pt (pw_or (pt_not (pt_val (pe_cR (w_law_quotients_right pg px) (hr.mono (by decide)) (px.g "_law_quotients_right" (by simp [gloL])) pass0 (pa_cons (pv 0) (pa_cons (pv 1) (pa_cons (pv 2) pa_nil)))))) (pw_or1 (pt_not (pt_val (pe_cR (w_law_quotients_right pg px) (hr.mono (by decide)) (px.g "_law_quotients_right" (by simp [gloL])) pass0 (pa_cons (pv 0) (pa_cons (pv 1) (pa_cons (pv 2) pa_nil))))))))) (pss_one (ps_ret pe_bl)) pss_nil) (pss_one (ps_ret (pe_and (pe_cR (w_law_orders_right px) (hr.mono (by decide)) (px.g "_law_orders_right" (by simp [gloL])) pass0 (pa_cons (pv 0) (pa_cons (pv 1) (pa_cons (pv 2) pa_nil)))) (pe_one (pe_cR (w_law_cleared_right px) (hr.mono (by decide)) (px.g "_law_cleared_right" (by simp [gloL])) pass0 (pa_cons (pv 0) (pa_cons (pv 1) (pa_cons (pv 2) pa_nil)))))))))), ?_⟩)
  obtain ⟨g, rfl, hb, q⟩ := h
  refine ⟨_, rfl, g, rfl, hb, fun H1 p kb1 hp => ?_⟩
  refine ⟨_, rfl, g, 2, rfl, by decide, by decide, kb1.b', fun H2 r kb2 r0 r1 => ?_⟩
  obtain ⟨L, hL, eL⟩ : ∃ L : Nat, Lt L ∧ (2 : Int) + r = (L : Int) := by
    have h : r = 0 ∨ r = 1 := by omega
    rcases h with rfl | rfl
    · exact ⟨2, .inl rfl, rfl⟩
    · exact ⟨3, .inr rfl, rfl⟩
  refine ⟨_, _, rfl, rfl, V.int p, V.int L, by show [V.int p, V.int (2 + r)] = _; rw [eL], ?_⟩
  have kb12 := kb1.trans kb2
  refine ⟨_, rfl, _, rfl, _, rfl, g, p, L, rfl, hp, hL, kb2.b', fun H3 kb3 => ⟨_, rfl, ifF rfl ?_⟩⟩
  refine ⟨_, rfl, _, rfl, _, rfl, g, p, L, rfl, hp, hL, kb3.b', fun H4 kb4 => ⟨_, rfl, ifF rfl ?_⟩⟩
  refine ⟨_, rfl, _, rfl, _, rfl, g, p, L, rfl, hp, hL, kb4.b', fun H5 kb5 => ⟨true, rfl, ifT rfl ?_⟩⟩
  refine ⟨_, rfl, _, rfl, _, rfl, g, p, L, rfl, hp, hL, kb5.b', fun H6 kb6 => ?_⟩
  exact q H6 (kb12.trans (kb3.trans (kb4.trans (kb5.trans kb6))))
end
end Tg
end
section
set_option Elab.async false
set_option autoImplicit false
set_option linter.all false
set_option maxRecDepth 100000
set_option maxHeartbeats 4000000
set_option pp.maxSteps 600
/-! The law itself. -/
namespace Tg
open PySem PySem.Spec PyProof.Rows L2 RZ
/-- written entries -/
inductive EvP (σ : L2.St) : List (TE × TE) → T → Prop
  | nil : EvP σ [] []
  | cons {tk tv : TE} {k : K} {v : Int} {trs : List (TE × TE)} {es : T} : (∀ H Q, (∀ H' q, Same H H' → Tp H' q k → Q (.ref q) H') → tk σ H Q) → (∀ H Q, Q (.int v) H → tv σ H Q) → EvP σ trs es → EvP σ ((tk, tv) :: trs) ((k, v) :: es)
theorem pairs_ev {σ : L2.St} {trs : List (TE × TE)} {es : T} (h : EvP σ trs es) : ∀ (H : Hp) (Q : List (V × V) → Hp → Prop), (∀ H' (zs : Zs), Same H H' → zs.map (·.2) = es → (∀ z ∈ zs, H' z.1 = some (.tup (z.2.1.map V.int))) → Q (zs.map fun z => (V.ref z.1, V.int z.2.2)) H') → tPairs trs σ H Q := by
  induction h with
  | nil => exact fun H Q q => q H [] (Same.refl _) rfl (fun _ h => nomatch h)
  | @cons tk tv k v trs es h1 h2 _ ih =>
    intro H Q q
    refine h1 H _ fun H1 a s1 ta => h2 H1 _ (ih H1 _ fun H2 zs s2 ez hz => ?_)
    refine q H2 ((a, k, v) :: zs) (Same.trans s1 s2) (by rw [List.map_cons, ez]) fun z hz' => ?_
    rcases List.mem_cons.mp hz' with rfl | h
    · exact s2 _ _ ta
    · exact hz z h
theorem two_ev {σ : L2.St} {i j : Int} : ∀ (H : Hp) (Q : VK), (∀ H' q, Same H H' → Tp H' q [i, j] → Q (.ref q) H') → tTup (tCons (tC (.int i)) (tCons (tC (.int j)) tNil)) σ H Q := fun H Q q => ⟨by show 2 ≤ sizeLine; decide, fun t ht => q _ t (sm_new ht) upd_same⟩
theorem int_ev {σ : L2.St} {i : Int} : ∀ (H : Hp) (Q : VK), Q (.int i) H → tC (.int i) σ H Q := fun _ _ q => q
theorem neg_ev {σ : L2.St} {i : Int} : ∀ (H : Hp) (Q : VK), Q (.int (-i)) H → tUn (fun x H Q => ∃ i, x = .int i ∧ Q (.int (-i)) H) (tC (.int i)) σ H Q := fun _ _ q => ⟨i, rfl, q⟩
theorem s4_eq (k : K) : low 0 (4 * gt cSq k) = gt cS4 k := by
  rw [low0, gt_cons, gt_cons, gt_nil]
  split <;> rfl
theorem kb_new {g : Addr} {H H1 H2 : Hp} (s : Same H H1) (hg : H g = none) (kb : KB g H1 H2) : Same H H2 := fun b o e => kb.k b o (fun z => by rw [z, hg] at e; cases e) (s _ _ e)
theorem sql_same {K : PySem.W.Frag} {H H' : Hp} {a : Addr} {xs : List V} (h : SqL K H a xs) (e : Same H H') : SqL K H' a xs :=
  h.elim (fun h => .inl (h.elim (fun h => .inl (e _ _ h)) fun ⟨o, h⟩ => .inr ⟨o, e _ _ h⟩)) fun h => .inr h
theorem Cf.sn {p D : Int} {t : T} (c : Cf p D t) : Sn t := fun e he => by have := c.bd e he; omega
section
variable {P : Program} {w : World} {K : PySem.W.Frag} {mg : Str → Option Value} {base : Heap}
theorem pass_o {X : Cx} : Passes (L2.CX X.prog X.w) X E0 := fun _ _ _ _ _ _ _ h => by
  obtain ⟨_, _, _, _, _, _, _, _, _, _, _, _, z⟩ := h
  exact z.elim
theorem form_new {H : Hp} {x dx : Addr} (hx : H x = none) (hdx : H dx = none) : Same H (upd (upd H dx (.own x)) x (.ins (He.ga K "Form") dx [])) := by
  intro c o e
  have h1 : c ≠ x := fun z => by rw [z, hx] at e; cases e
  have h2 : c ≠ dx := fun z => by rw [z, hdx] at e; cases e
  rw [upd_ne h1, upd_ne h2]; exact e
theorem form_disp {σ : L2.St} {trs : List (TE × TE)} {p0 D : Int} {es : T} {H : Hp} {p : Addr} {R : Addr → Hp → Prop} {E : XK} (hp : H p = none) (P0 : Pm p0) (c : Cf p0 D es) (h : EvP σ trs es) (hl : es.length ≤ 15) (q : ∀ H' x b, Same H H' → Fo K H' x 2 p0 b es → R x H') :
    tPairs trs σ (upd H p (.dT [])) fun ps H2 => H2 p = some (.dT []) ∧ ∃ zs : Zs, ps = zs.map (fun z => (V.ref z.1, V.int z.2.2)) ∧ (∀ z ∈ zs, H2 z.1 = some (.tup (z.2.1.map V.int))) ∧ (zs.map (·.2.1)).Nodup ∧ zs.length ≤ 15 ∧
      ∀ x dx, (upd H2 p (.dT (et (zs.map (·.2))))) x = none → (upd H2 p (.dT (et (zs.map (·.2))))) dx = none → dx ≠ x → sp_Form_init K (V.ref x :: [.int p0, .int 2, .ref p]) (upd (upd (upd H2 p (.dT (et (zs.map (·.2))))) dx (.own x)) x (.ins (He.ga K "Form") dx [])) (fun v H3 => v = .non ∧ R x H3) E := by
  refine pairs_ev h _ _ fun H1 zs s1 ez hz => ⟨s1 _ _ upd_same, zs, rfl, hz, ?_, ?_, ?_⟩
  · rw [show zs.map (fun z => z.2.1) = (zs.map (·.2)).map (·.1) from by rw [List.map_map]; rfl, ez]; exact c.ds.nd
  · have : zs.length = (zs.map (·.2)).length := by rw [List.length_map]
    rw [this, ez]; exact hl
  · rw [ez]
    have sd : Same H (upd H1 p (.dT (et es))) := sm_upd hp (Same.trans (sm_new hp) s1)
    have hd : Tb (upd H1 p (.dT (et es))) p es := upd_same
    generalize upd H1 p (.dT (et es)) = H2 at *
    intro x dx hx hdx hne
    refine ⟨x, dx, _, _, _, rfl, hne, upd_same, by rw [upd_ne hne, upd_same], .inl ⟨p0, 2, es, rfl, rfl, P0, .inl rfl, .inr ⟨p, D, rfl, form_new hx hdx _ _ hd, c.gv⟩, fun H' b u b2 sl hb du zu gu => ⟨rfl, ?_⟩⟩⟩
    obtain rfl := Ds.ext du c.ds zu c.nz gu
    exact q H' x b (Same.trans sd (but2_same hx hdx b2)) ⟨dx, sl, hb⟩
theorem zero_init {p : Int} {x dx : Addr} {H : Hp} {R : Hp → Prop} {E : XK} (hp : Pm p) (hx : H x = none) (hdx : H dx = none) (hne : dx ≠ x) (q : ∀ H' b, Same H H' → Fo K H' x 2 p b [] → R H') :
    sp_Form_init3 K (V.ref x :: [.int p, .int 2]) (upd (upd H dx (.own x)) x (.ins (He.ga K "Form") dx [])) (fun v H3 => v = .non ∧ R H3) E := by
  refine ⟨x, dx, _, _, _, rfl, hne, upd_same, by rw [upd_ne hne, upd_same], .inl ⟨p, 2, [], rfl, rfl, hp, .inl rfl, .inl ⟨rfl, rfl⟩, fun H' b u b2 sl hb du zu gu => ⟨rfl, ?_⟩⟩⟩
  obtain rfl : u = [] := Ds.ext du List.Pairwise.nil zu (fun _ h => nomatch h) gu
  exact q H' b (but2_same hx hdx b2) ⟨dx, sl, hb⟩
/-- the law's def, by its function object -/
theorem Px.Ok (px : Px K mg) {N ps : List Str} {k : Nat} {sp : Sp} {d : He5.DefA} (i : Nat) (hi : fn[i]? = some d) (h1 : d.dfl = []) (h2 : d.kwd = []) (S : FnScope N ps d.scope) (len : ∀ vs H Q E, sp vs H Q E → vs.length = ps.length)
    (hb : ∀ (kV doc pm : Value) (an : Option Addr) (cdv ct : Value) (us : List Value), us.length = ps.length → bindArgs (PySem.W.fnOf d.name d.qual d.params d.body d.scope .none kV doc pm an cdv ct) ⟨us, []⟩ = pure (ps.zip us))
    (hbody : ∀ (base : Heap) (cdv : Value) (A : Around) (outer : List Env) (s : Shared) (H : Hp) (vs : List V) (Q : VK) (E : XK), Room k (A.deeper (envOfC d.qual d.scope s.heap.objs.size (d.at_ K) cdv)) → sp vs H Q E →
      ∃ t, PSs (cxOf CX0 P w K mg base N d.qual d.scope (d.at_ K) cdv A outer s H E) d.body t ∧ t { nx := fun _ H' => Q .non H', rt := Q } (start N vs) H) :
    ∃ fd, (∀ (s : Shared) (us : List Value), us.length = ps.length → BindsTo s fd ⟨us, []⟩ (ps.zip us)) ∧ ∀ base, FnOk P w K mg base CX0 (k + 1) (d.at_ K) fd ps sp := by
  obtain ⟨fd, F⟩ := px.S.def_ i hi
  have e1 : d.dvs K = [] := by unfold He5.DefA.dvs; rw [h1]; rfl
  have e2 : d.kws K = [] := by unfold He5.DefA.kws; rw [h2]; rfl
  rw [e1, e2] at F
  exact ⟨fd, fun s us hl => F.bindsA hb s us hl, fun base => F.ok S len (hbody base)⟩
def sp_law (K : PySem.W.Frag) : Sp := fun vs H Q _ => ∃ (a : Addr) (ns : List Int), vs = [.ref a] ∧ SqL K H a (ns.map V.int) ∧ ∀ H', Q (.bl true) H'
theorem sc_law : FnScope ["_law_script", "_law_spot", "_law_square", "_law_double", "_law_x", "_law_four", "_law_told_here"] ["_law_script"] (defScope s_law) := ⟨rfl, rfl, rfl, by decide +kernel, rfl, by decide +kernel, by decide +kernel⟩
/- _law_script 0 _law_spot 1 _law_square 2 _law_double 3 _law_x 4 _law_four 5 _law_told_here 6 -/
theorem w_law (pg : Pg P) (px : Px K mg) : ∃ fd, (∀ (s : Shared) (us : List Value), us.length = 1 → BindsTo s fd ⟨us, []⟩ ((["_law_script"] : List Str).zip us)) ∧ ∀ base, FnOk P w K mg base CX0 15 (d_law.at_ K) fd ["_law_script"] (sp_law K) := by
  refine px.Ok 61 rfl rfl rfl sc_law (fun vs H Q E ⟨_, _, e, _⟩ => by rw [e]; rfl) (fun _ _ _ _ _ _ us hl => match us, hl with | [_], _ => rfl) (fun base cdv A outer s H vs Q E hr h => ⟨_, (pss_cons (ps_for PassesOwn.leaving rfl (pi_range1 rfl (px.f "range" (by simp [freeL])) (pa_cons (pe_callB (call_max2 rfl) rfl (px.f "max" (by simp [freeL])) bo_max (pa_cons pe_int (pa_cons (pe_callB (call_min2 rfl) rfl (px.f "min" (by simp [freeL])) bo_min (pa_cons pe_int (pa_cons (pe_callB call_len_seq rfl (px.f "len" (by simp [freeL])) bo_len (pa_cons (pv 0) pa_nil)) pa_nil))) pa_nil))) pa_nil)) (pg_name (i := 1) sc_law.nd rfl (Or.inl rfl)) (pss_one (ps_if (pt_not (pt_val (pe_cR (w_law_right pg px) (hr.mono (by decide)) (px.g "_law_right" (by simp [gloL])) pass0 (pa_cons (pe_cR (w_law_bag px) (hr.mono (by decide)) (px.g "_law_bag" (by simp [gloL])) pass0 (pa_cons (pv 0) (pa_cons (pv 1) pa_nil))) pa_nil)))) (pss_one (ps_ret pe_bl)) pss_nil))) (pss_cons (ps_par3 (i := 2) (j := 3) (l := 4) rfl sc_law.nd rfl rfl rfl (by decide) (by decide) (by decide) rfl rfl rfl (pa_cons (StX.pe_makeR px.mkF (w_Form_init4 px) (hr.mono (by decide)) rfl (px.g "Form" (by simp [gloL])) pass0 (pa_cons pe_int (pa_cons pe_int (pa_cons (pe_dispT (un0 hr) (pps_cons (pe_tup (pa_cons pe_int (pa_cons pe_int pa_nil))) pe_int pps_nil) (by rfl) (by rfl) (by simp) (by decide)) pa_nil)))) (pa_cons (StX.pe_makeR px.mkF (w_Form_init4 px) (hr.mono (by decide)) rfl (px.g "Form" (by simp [gloL])) pass0 (pa_cons pe_int (pa_cons pe_int (pa_cons (pe_dispT (un0 hr) (pps_cons (pe_tup (pa_cons pe_int (pa_cons pe_int pa_nil))) pe_int pps_nil) (by rfl) (by rfl) (by simp) (by decide)) pa_nil)))) (pa_cons (StX.pe_makeR px.mkF (w_Form_init4 px) (hr.mono (by decide)) rfl (px.g "Form" (by simp [gloL])) pass0 (pa_cons pe_int (pa_cons pe_int (pa_cons (pe_dispT (un0 hr) (pps_cons (pe_tup (pa_cons pe_int (pa_cons pe_int pa_nil))) pe_int pps_nil) (by rfl) (by rfl) (by simp) (by decide)) pa_nil)))) pa_nil))) (by rfl)) (pss_cons (ps_if (PW.pt (pw_or (pt_cmpR (op_neD hr.units) (pe_cR (w_law_told pg px) (hr.mono (by decide)) (px.g "_law_told" (by simp [gloL])) pass0 (pa_cons (pv 2) (pa_cons (pv 3) pa_nil))) (pe_tup (pa_cons pe_str pa_nil)) (nomark _)) (pw_or (pt_cmpR op_ne (SlX.pe_methSl (pv 2) px.cl.sf (px.meth (m := "order_of") (by simp [methL])) (w_Form_order_of px).1 (hr.mono (by decide)) pass0 (pa_cons (pv 3) pa_nil)) pe_int (nomark _)) (pw_or1 (pt_cmpR (op_neOwn (E := E0) px.cl.ne px.cl.if_.cm (px.meth (m := "__eq__") (by simp [methL])).at_ (px.meth (m := "__eq__") (by simp [methL])).fn (w_Form_eq px).1 (hr.mono (by decide)) pass0) (SlX.pe_methSl (E := E0) (pe_op (op_mulOwn (E := E0) px.cl.sl (px.meth (m := "__mul__") (by simp [methL])).at_ px.cl.rm (px.meth (m := "__mul__") (by simp [methL])).fn (w_Form_mul px).1 (hr.mono (by decide)) pass0) (pv 2) pe_int) px.cl.sf (px.meth (m := "over") (by simp [methL])) (w_Form_over pg px).1 (hr.mono (by decide)) pass_o (pa_cons (pv 3) pa_nil)) (pv 3) (nomark _)))))) (pss_one (ps_ret pe_bl)) pss_nil) (pss_cons (ps_if (PW.pt (pw_or (pt_cmpR (op_neT (un1 hr)) (pe_cR (w_law_told pg px) (hr.mono (by decide)) (px.g "_law_told" (by simp [gloL])) pass0 (pa_cons (StX.pe_makeR px.mkF (w_Form_init3 px) (hr.mono (by decide)) rfl (px.g "Form" (by simp [gloL])) pass0 (pa_cons pe_int (pa_cons pe_int pa_nil))) (pa_cons (pv 4) pa_nil))) pe_dnewT (nomark _)) (pw_or1 (pt_cmpR (op_neT (un1 hr)) (pe_cR (w_law_told pg px) (hr.mono (by decide)) (px.g "_law_told" (by simp [gloL])) pass0 (pa_cons (pv 2) (pa_cons (StX.pe_makeR px.mkF (w_Form_init4 px) (hr.mono (by decide)) rfl (px.g "Form" (by simp [gloL])) pass0 (pa_cons pe_int (pa_cons pe_int (pa_cons (pe_dispT (un0 hr) (pps_cons (pe_tup (pa_cons pe_int (pa_cons pe_int pa_nil))) (pe_un un_neg pe_int) pps_nil) (by rfl) (by rfl) (by simp) (by decide)) pa_nil)))) pa_nil))) (pe_dispT (un0 hr) (pps_cons (pe_tup (pa_cons pe_int (pa_cons pe_int pa_nil))) (pe_un un_neg pe_int) pps_nil) (by rfl) (by rfl) (by simp) (by decide)) (nomark _))))) (pss_one (ps_ret pe_bl)) pss_nil) (pss_cons (ps_set (i := 5) sc_law.nd rfl (Or.inl rfl) (StX.pe_makeR px.mkF (w_Form_init4 px) (hr.mono (by decide)) rfl (px.g "Form" (by simp [gloL])) pass0 (pa_cons pe_int (pa_cons pe_int (pa_cons (pe_dispT (un0 hr) (pps_cons (pe_tup (pa_cons pe_int (pa_cons pe_int pa_nil))) pe_int (pps_cons (pe_tup (pa_cons pe_int (pa_cons pe_int pa_nil))) (pe_un un_neg pe_int) (pps_cons (pe_tup (pa_cons pe_int (pa_cons pe_int pa_nil))) pe_int pps_nil))) (by rfl) (by rfl) (by simp) (by decide)) pa_nil))))) (pss_cons (ps_set (i := 6) sc_law.nd rfl (Or.inl rfl) (pe_lst (pa_cons (SlX.pe_methSl (pv 5) px.cl.sf (px.meth (m := "order_of") (by simp [methL])) (w_Form_order_of px).1 (hr.mono (by decide)) pass0 (pa_cons (StX.pe_makeR px.mkF (w_Form_init4 px) (hr.mono (by decide)) rfl (px.g "Form" (by simp [gloL])) pass0 (pa_cons pe_int (pa_cons pe_int (pa_cons (pe_dispT (un0 hr) (pps_cons (pe_tup (pa_cons pe_int (pa_cons pe_int pa_nil))) (pe_un un_neg pe_int) (pps_cons (pe_tup (pa_cons pe_int (pa_cons pe_int pa_nil))) pe_int pps_nil)) (by rfl) (by rfl) (by simp) (by decide)) pa_nil)))) pa_nil)) (pa_cons (SlX.pe_methSl (StX.pe_makeR px.mkF (w_Form_init4 px) (hr.mono (by decide)) rfl (px.g "Form" (by simp [gloL])) pass0 (pa_cons pe_int (pa_cons pe_int (pa_cons (pe_dispT (un0 hr) (pps_cons (pe_tup (pa_cons pe_int (pa_cons pe_int pa_nil))) pe_int pps_nil) (by rfl) (by rfl) (by simp) (by decide)) pa_nil)))) px.cl.sf (px.meth (m := "order_of") (by simp [methL])) (w_Form_order_of px).1 (hr.mono (by decide)) pass0 (pa_cons (pv 4) pa_nil)) (pa_cons (SlX.pe_methSl (pv 5) px.cl.sf (px.meth (m := "order_of") (by simp [methL])) (w_Form_order_of px).1 (hr.mono (by decide)) pass0 (pa_cons (pv 4) pa_nil)) pa_nil))))) (pss_one (ps_ret (pe_and (pe_cmpR (op_eqD hr.units) (pv 6) (pe_lst (pa_cons pe_int (pa_cons pe_int (pa_cons pe_int pa_nil)))) (nomark _)) (pe_one (pe_cmpR (SlX.op_own (E := E0) (fun _ _ => rfl) (px.meth (m := "__eq__") (by simp [methL])).at_ (px.meth (m := "__eq__") (by simp [methL])).fn (w_Form_eq px).1 (hr.mono (by decide)) pass0) (SlX.pe_methSl0 (StX.pe_makeR px.mkF (w_Form_init4 px) (hr.mono (by decide)) rfl (px.g "Form" (by simp [gloL])) pass0 (pa_cons pe_int (pa_cons pe_int (pa_cons (pe_dispT (un0 hr) (pps_cons (pe_tup (pa_cons pe_int (pa_cons pe_int pa_nil))) pe_int (pps_cons (pe_tup (pa_cons pe_int (pa_cons pe_int pa_nil))) pe_int pps_nil)) (by rfl) (by rfl) (by simp) (by decide)) pa_nil)))) px.cl.sf (px.meth (m := "cleared") (by simp [methL])) (w_Form_cleared px).1 (hr.mono (by decide)) pass0) (StX.pe_makeR px.mkF (w_Form_init4 px) (hr.mono (by decide)) rfl (px.g "Form" (by simp [gloL])) pass0 (pa_cons pe_int (pa_cons pe_int (pa_cons (pe_dispT (un0 hr) (pps_cons (pe_tup (pa_cons pe_int (pa_cons pe_int pa_nil))) pe_int (pps_cons (pe_tup (pa_cons pe_int (pa_cons pe_int pa_nil))) pe_int pps_nil)) (by rfl) (by rfl) (by simp) (by decide)) pa_nil)))) (nomark _)))))))))))), ?_⟩)
  obtain ⟨a, ns, rfl, hl, q⟩ := h
  refine ⟨_, rfl, a, _, rfl, .inl hl, 3, _, rfl, 1, _, rfl, _, rfl, ?_⟩
  generalize hv : (if (if ((List.map V.int ns).length : Int) < 3 then ((List.map V.int ns).length : Int) else 3) > 1 then (if ((List.map V.int ns).length : Int) < 3 then ((List.map V.int ns).length : Int) else 3) else 1) = v
  have v3 : 0 ≤ v ∧ v ≤ 3 := by
    rw [← hv]
    split
    · split at * <;> omega
    · omega
  refine ⟨by omega, by omega, ?_⟩
  refine for_range (n := v.toNat) (fun i σ' H' => ∃ x1 : Option V, σ' = [some (.ref a), x1, none, none, none, none, none] ∧ Same H H') ⟨none, rfl, Same.refl _⟩ ?_ ?_
  · rintro i σ' H1 hi ⟨x1, rfl, sm⟩
    have hi3 : i < 3 := by omega
    rw [Int.zero_add]
    refine ⟨_, rfl, _, rfl, a, ns, i, rfl, sql_same hl sm, hi3, fun H2 g s2 hg hb => ?_⟩
    exact ⟨g, rfl, hb, fun H3 kb => ⟨_, rfl, ifF rfl ⟨_, rfl, Same.trans sm (kb_new s2 hg kb)⟩⟩⟩
  rintro σ' H1 ⟨x1, rfl, sm⟩
  -- the three forms
  intro pp hpp
  refine form_disp hpp pm0 kSq (.cons two_ev int_ev .nil) (by decide) fun H2 x xb s2 hx => ?_
  intro pp hpp
  refine form_disp hpp pm0 kDb (.cons two_ev int_ev .nil) (by decide) fun H3 d db s3 hd => ?_
  intro pp hpp
  refine form_disp hpp pm0 kX (.cons two_ev int_ev .nil) (by decide) fun H4 y yb s4 hy => ⟨_, _, _, rfl, ?_⟩
  replace hx := fo_same hx (Same.trans s3 s4)
  replace hd := fo_same hd s4
  -- told
  refine ⟨_, rfl, _, rfl, x, xb, d, db, 0, 2, 2, 1, cSq, cDb, [1, 0], rfl, hx, hd, .inl rfl, by decide, kSq.ds, kSq.nz, kSq.hm, kSq.gv.rd, kDb.ds, kDb.nz, kDb.sn, gDb, fun H5 s5 => ⟨fun _ tp htp => ?_, fun q0 _ _ hd0 _ _ _ _ _ => nomatch Dv.det gDb (D := 2) (by decide) kSq.hm d_rest hd0⟩⟩
  refine ⟨by show 1 ≤ sizeLine; decide, fun tq htq => ⟨.tuple [.str "rest"], .tuple [.str "rest"], .tup (SqT.of (sm_new htq _ _ htp)) (.cons (.str _) .nil), .tup (SqT.of upd_same) (.cons (.str _) .nil), by decide +kernel, by decide +kernel, _, rfl, ifF (by decide +kernel) ?_⟩⟩
  have s6 : Same H4 (upd H5 tq (.tup [.str "rest"])) := Same.trans s5 (sm_new htq)
  generalize upd H5 tq (.tup [.str "rest"]) = H6 at *
  replace hx := fo_same hx s6
  replace hd := fo_same hd s6
  replace hy := fo_same hy s6
  -- the order
  obtain ⟨dx, hx1, _⟩ := id hx
  refine ⟨_, rfl, x, dx, _, rfl, hx1, _, rfl, x, xb, d, db, 0, 2, 2, cSq, cDb, cX, [1, 0], 2, rfl, hx, hd, .inl rfl, by decide, kSq.ds, kSq.nz, kSq.gv.2.1, kSq.gv.rd, kDb.ds, kDb.nz, kDb.gv.2.1, kDb.gv.rd, kDb.sn, by simp, lDb, gX, (fun _ => o_sq), (fun z => absurd z (by simp)), fun _ H7 s7 => ⟨rfl, _, rfl, ifF (by decide) ?_⟩⟩
  replace hx := fo_same hx s7
  replace hd := fo_same hd s7
  replace hy := fo_same hy s7
  -- the multiple
  refine ⟨_, rfl, x, dx, _, 4, rfl, rfl, slt_same hx1 s7, x, xb, 0, 4, 2, 2, cSq, rfl, hx, pm0, .inl rfl, by decide, kSq.gv.2.1, ⟨by decide, by decide⟩, (fun h => absurd rfl h), fun H8 z zb u s8 fz hz du zu gu => ?_⟩
  obtain rfl : u = cS4 := Ds.ext du kS4.ds zu kS4.nz fun k => by rw [gu, s4_eq]
  replace hx := fo_same hx s8
  replace hd := fo_same hd s8
  replace hy := fo_same hy s8
  obtain ⟨dz, hz1, _⟩ := id hz
  refine ⟨z, dz, _, rfl, hz1, _, rfl, z, zb, d, db, 0, 2, 2, 1, cS4, cDb, [1, 0], rfl, hz, hd, .inl rfl, by decide, kS4.ds, kS4.nz, kS4.hm, kS4.gv.rd, kDb.ds, kDb.nz, kDb.sn, gDb, fun H9 s9 => ⟨fun hd0 => (nomatch Dv.det gDb (D := 2) (by decide) kS4.hm d_s4 hd0), fun q0 r rb hd0 hr => ?_⟩⟩
  obtain rfl := Option.some.inj (Dv.det gDb (D := 2) (by decide) kS4.hm d_s4 hd0)
  replace hx := fo_same hx s9
  replace hd := fo_same hd s9
  replace hy := fo_same hy s9
  obtain ⟨dr, hr1, _⟩ := id hr
  obtain ⟨dd, hd1, _⟩ := id hd
  refine ⟨_, rfl, r, dr, _, d, dd, _, rfl, rfl, hr1, hd1, r, rb, d, db, 0, 2, _, _, rfl, hr, hd, .inr ⟨alike_refl _, true, rfl, _, rfl, ifF rfl ?_⟩⟩
  -- zero over x
  intro o do_ ho0 hdo hno
  refine zero_init pm0 ho0 hdo hno fun H10 ob s10 ho => ?_
  replace hx := fo_same hx s10
  replace hd := fo_same hd s10
  replace hy := fo_same hy s10
  refine ⟨_, rfl, o, ob, y, yb, 0, 2, 2, 1, [], cX, [1, 0], rfl, ho, hy, .inl rfl, by decide, List.Pairwise.nil, (fun _ h => nomatch h), (fun k h => absurd rfl h), (fun k => low_zero 0), kX.ds, kX.nz, kX.sn, gX, fun H11 s11 => ⟨fun hd0 => ?_, fun q0 r u hd0 hr nu zu gu lu => ?_⟩⟩
  · exact nomatch Dv.det gX (D := 2) (f := gt []) (by decide) (fun k h => absurd rfl h) d_nil hd0
  obtain rfl := Option.some.inj (Dv.det gX (D := 2) (f := gt []) (by decide) (fun k h => absurd rfl h) d_nil hd0)
  obtain rfl : u = [] := List.eq_nil_of_length_eq_zero lu
  intro n hn
  refine ⟨r, n, [], [], rfl, rfl, sm_new hn _ _ hr, upd_same, .inr ⟨alike_refl _, _, rfl, ifF rfl ?_⟩⟩
  have s12 : Same H10 (upd H11 n (.dT [])) := Same.trans s11 (sm_new hn)
  generalize upd H11 n (.dT []) = H12 at *
  replace hx := fo_same hx s12
  replace hd := fo_same hd s12
  replace hy := fo_same hy s12
  -- over a number
  refine ⟨_, rfl, ?_⟩
  intro pp hpp
  refine form_disp hpp pm0 kM1 (.cons two_ev neg_ev .nil) (by decide) fun H13 m mb s13 hm => ?_
  replace hx := fo_same hx s13
  replace hd := fo_same hd s13
  replace hy := fo_same hy s13
  refine ⟨x, xb, m, mb, 0, 2, 2, 0, cSq, cM1, [0, 0], rfl, hx, hm, .inl rfl, by decide, kSq.ds, kSq.nz, kSq.hm, kSq.gv.rd, kM1.ds, kM1.nz, kM1.sn, gM1, fun H14 s14 => ⟨fun hd0 => ?_, fun q0 r u hd0 hr nu zu gu lu => ?_⟩⟩
  · exact nomatch Dv.det gM1 (D := 2) (by decide) kSq.hm d_m1 hd0
  obtain rfl := Option.some.inj (Dv.det gM1 (D := 2) (by decide) kSq.hm d_m1 hd0)
  intro e he0
  refine pairs_ev (es := cMs) (.cons two_ev neg_ev .nil) _ _ fun H15 zs s15 ez hz => ⟨s15 _ _ upd_same, zs, rfl, hz, ?_, ?_, ?_⟩
  · rw [show zs.map (fun z => z.2.1) = (zs.map (·.2)).map (·.1) from by rw [List.map_map]; rfl, ez]; exact kMs.ds.nd
  · have : zs.length = (zs.map (·.2)).length := by rw [List.length_map]
    rw [this, ez]; decide
  rw [ez]
  replace s15 : Same H14 (upd H15 e (.dT (et cMs))) := sm_upd he0 (Same.trans (sm_new he0) s15)
  have he : Tb (upd H15 e (.dT (et cMs))) e cMs := upd_same
  generalize upd H15 e (.dT (et cMs)) = H15 at *
  refine ⟨r, e, u, cMs, rfl, rfl, s15 _ _ hr, he, .inr ⟨alike_of nu zu gu lu, _, rfl, ifF rfl ?_⟩⟩
  have s1315 := Same.trans s14 s15
  replace hx := fo_same hx s1315
  replace hd := fo_same hd s1315
  replace hy := fo_same hy s1315
  -- the fourth
  intro pp hpp
  refine form_disp hpp pm0 kFo (.cons two_ev int_ev (.cons two_ev neg_ev (.cons two_ev int_ev .nil))) (by decide) fun H16 f fb s16 hf => ?_
  replace hy := fo_same hy s16
  obtain ⟨df, hf1, _⟩ := id hf
  refine ⟨_, rfl, f, df, _, rfl, hf1, ?_⟩
  intro pp hpp
  refine form_disp hpp pm0 kLi (.cons two_ev neg_ev (.cons two_ev int_ev .nil)) (by decide) fun H17 l lb s17 hl2 => ?_
  replace hf := fo_same hf s17
  replace hy := fo_same hy s17
  refine ⟨f, fb, l, lb, 0, 2, 4, cFo, cLi, cLc, [1, 0], 2, rfl, hf, hl2, .inl rfl, by decide, kFo.ds, kFo.nz, kFo.gv.2.1, kFo.gv.rd, kLi.ds, kLi.nz, kLi.gv.2.1, kLi.gv.rd, kLi.sn, by simp, lLi, gLc, (fun _ => o_fo), (fun z => absurd z (by simp)), fun _ H18 s18 => ?_⟩
  replace hf := fo_same hf s18
  replace hy := fo_same hy s18
  intro pp hpp
  refine form_disp hpp pm0 k6 (.cons two_ev int_ev .nil) (by decide) fun H19 n6 nb s19 hn6 => ?_
  replace hf := fo_same hf s19
  replace hy := fo_same hy s19
  obtain ⟨dn, hn1, _⟩ := id hn6
  refine ⟨n6, dn, _, rfl, hn1, _, rfl, n6, nb, y, yb, 0, 2, 0, c6, cX, cX, [1, 0], 0, rfl, hn6, hy, .inl rfl, by decide, k6.ds, k6.nz, k6.gv.2.1, k6.gv.rd, kX.ds, kX.nz, kX.gv.2.1, kX.gv.rd, kX.sn, by simp, lX, gX, (fun _ => o_6), (fun z => absurd z (by simp)), fun _ H20 s20 => ?_⟩
  replace hf := fo_same hf s20
  replace hy := fo_same hy s20
  obtain ⟨df, hf1, _⟩ := id hf
  refine ⟨_, rfl, f, df, _, rfl, hf1, _, rfl, f, fb, y, yb, 0, 2, 4, cFo, cX, cX, [1, 0], 0, rfl, hf, hy, .inl rfl, by decide, kFo.ds, kFo.nz, kFo.gv.2.1, kFo.gv.rd, kX.ds, kX.nz, kX.gv.2.1, kX.gv.rd, kX.sn, by simp, lX, gX, (fun _ => o_fx), (fun z => absurd z (by simp)), fun _ H21 s21 => ?_⟩
  refine ⟨by show 3 ≤ sizeLine; decide, fun la hla => ?_⟩
  refine ⟨_, rfl, by show 3 ≤ sizeLine; decide, fun lc hlc => ⟨.list [.int 2, .int 0, .int 0], .list [.int 2, .int 0, .int 0], .lst (SqL.of (sm_new hlc _ _ upd_same)) (.cons (.int _) (.cons (.int _) (.cons (.int _) .nil))), .lst (SqL.of upd_same) (.cons (.int _) (.cons (.int _) (.cons (.int _) .nil))), by decide +kernel, by decide +kernel, ?_⟩⟩
  refine ⟨true, by decide +kernel, ifT rfl ?_⟩
  -- cleared
  intro pp hpp
  refine form_disp hpp pm5 kA5 (.cons two_ev int_ev (.cons two_ev int_ev .nil)) (by decide) fun H23 z5 zb5 s23 hz5 => ?_
  obtain ⟨dz5, hz51, _⟩ := id hz5
  refine ⟨z5, dz5, _, rfl, hz51, z5, zb5, 5, 2, 1, cA5, rfl, hz5, pm5, .inl rfl, by decide, kA5.ds, kA5.nz, kA5.gv.2.1, kA5.gv.rd, kA5.sn, fun H24 c cb u s24 hc C => ?_⟩
  obtain rfl : u = cB5 := Clr.det pm5 C lA5
  intro pp hpp
  refine form_disp hpp pm5 kB5 (.cons two_ev int_ev (.cons two_ev int_ev .nil)) (by decide) fun H25 e5 eb5 s25 he5 => ?_
  replace hc := fo_same hc s25
  obtain ⟨dc, hc1, _⟩ := id hc
  obtain ⟨de, he1, _⟩ := id he5
  exact ⟨c, dc, _, e5, _, de, _, rfl, rfl, hc1, he1, nf_self, c, cb, e5, eb5, 5, 2, _, _, rfl, hc, he5, .inr ⟨alike_refl _, q _⟩⟩
end
end Tg
end
set_option Elab.async false
set_option autoImplicit false
set_option linter.all false
set_option maxRecDepth 100000
set_option maxHeartbeats 0
/-! The end. -/
namespace Tg
open PySem PySem.Spec PyProof.Rows L2
theorem facts {P : Program} {w : World} (pg : Pg P) {K : PySem.W.Frag} {h : Heap} {mg : Str → Option Value} {f : Addr} (X : K.In h) (G : h.Ns mainGlobals mg) (hfa : mg ("law" : Str) = some (.ref f)) (c : He5.SaysA fa fn K ∧ ex K = true ∧ fnC K (He.fAd K ("Refused", some "__init__")) = refV) :
    ∃ fd : FuncData, (∀ (s : Shared) (v : Value), BindsTo s fd ⟨[v], []⟩ [("_law_script", v)]) ∧ ∀ base : Heap, K.In base → base.Ns mainGlobals mg → FnOk P w K mg base CX0 15 f fd ["_law_script"] (sp_law K) := by
  have px := Px.of X G c.1 c.2.1 c.2.2
  have e := hfa.symm.trans (px.g "law" (by simp [gloL]))
  cases e
  obtain ⟨fd, hb, hF⟩ := w_law (w := w) pg px
  exact ⟨fd, fun s v => hb s [v] rfl, fun base _ _ => hF base⟩
theorem pg0 : Pg R0.prog := ⟨rfl, by decide +kernel⟩
end Tg
open PySem PySem.W PySem.Calls PyProof.Rows
theorem PySem.Challenge.cw_tangentrows_k07_whole_quotients_and_orde_holds : PySem.Challenge.rw_tangentrows_k07_whole_quotients_and_orde.Holds := by
  w_on; o_law
  refine HandSHeadRun.head_imp (r := Tg.R0) (q := view Tg.R0.prog [0, 83]) (H := Tg.hookM 5) (ob := Tg.ob) (M := 6000) (loose := Tg.namesAll) (d := HandSHeadRun.topDef Tg.R0.prog 83) (kwd := []) Tg.ob_eq Tg.run
    (by kernel_rfl) (by kernel_rfl) (by kernel_rfl) (by rfl) (by first | assumption | decide +kernel) (by decide +kernel) ⟨rfl, rfl, rfl, rfl, rfl, by decide +kernel⟩ ?hw ?hc
  case hw => w_witness2
  case hc =>
    refine L2.walk_ofE (l := PySem.Challenge.rw_tangentrows_k07_whole_quotients_and_orde) (n := 63) (k := 15) (x := "_law_script") (CX := L2.CX0) rfl (by decide) (by kernel_rfl) ⟨rfl, by decide, by decide⟩ ?F (fun _ _ _ _ z => z)
    intro w mg fa h Y G hmg0
    obtain ⟨K, KX, c⟩ := Y
    have hmg : mg ("law" : PySem.Str) = some (.ref fa) := by
      have e : (HandSHeadRun.topDef Tg.R0.prog 83).name = ("law" : PySem.Str) := by kernel_rfl
      rw [← e]
      exact hmg0
    obtain ⟨fd, hb, hF⟩ := Tg.facts (w := w) Tg.pg0 KX G hmg c
    exact ⟨K, fd, Tg.sp_law K, KX, hb, fun H a ns hl _ hS => ⟨a, ns, rfl, hS, fun _ => rfl⟩, hF⟩
