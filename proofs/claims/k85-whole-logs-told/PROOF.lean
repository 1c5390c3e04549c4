import PyProof.Rows.All
import Wide.All
import OpenK.AllK
import Wide.FinOn
import PyProof.LongRange
import PyProof.ListMulRoad
import PyProof.FactsAll.tuple_2
import KE.DataMinMax
import HandS.ForExc
import HandS.Comp
import HandS.Flow
import HandS.TupMul
import HandS.SetFor
import HandS.ExcIs
import HandS.IsInst
import HandS.Wide
import HandS.CallLocal
import HandS.CallSlots
import HandS.Defaults
import HandS.Deep
import HandS.Head0
import HandS.Head1
import HandS.Head2
import HandS.HeadEnd
import HandS.HeadHook1
import HandS.HeadHook2
import HandS.HeadHook3
import HandS.HeadHook4
import PySem.Challenge.RW_farrows_k85_whole_logs_told
set_option Elab.async false
set_option linter.all false
set_option maxRecDepth 100000
set_option maxHeartbeats 0
/-! FwMath: rows as cell functions; the one plain form. Plain Lean, no program in sight. -/
namespace Fw
abbrev C := Option Int
/-- a wheel at any place -/
def rg (xs : List C) (k : Int) : C := xs.getD (k % (xs.length : Int)).toNat none
/-- what a row is made of -/
structure Fm where
  l : List C
  m : List C
  f : Int
  r : List C
  deriving DecidableEq
def Fm.at (F : Fm) (p : Int) : C :=
  if p < F.f then rg F.l (p - F.f) else if p < F.f + (F.m.length : Int) then F.m.getD (p - F.f).toNat none else rg F.r (p - F.f - (F.m.length : Int))
def cells (f : Int → C) (a : Int) (n : Nat) : List C := (List.range n).map fun (k : Nat) => f (a + (k : Int))
theorem cells_len (f : Int → C) (a : Int) (n : Nat) : (cells f a n).length = n := by simp [cells]
theorem cells_at {f : Int → C} {a : Int} {n k : Nat} (h : k < n) : (cells f a n).getD k none = f (a + (k : Int)) := by
  simp [cells, List.getD_eq_getElem?_getD, h]
theorem cells_get {f : Int → C} {a : Int} {n k : Nat} (h : k < n) : (cells f a n)[k]? = some (f (a + (k : Int))) := by
  simp [cells, h]
theorem cells_congr {f g : Int → C} {a : Int} {n : Nat} (h : ∀ k : Nat, k < n → f (a + (k : Int)) = g (a + (k : Int))) : cells f a n = cells g a n := by
  unfold cells
  apply List.map_congr_left
  intro k hk
  exact h k (List.mem_range.mp hk)
theorem cells_succ (f : Int → C) (a : Int) (n : Nat) : cells f a (n + 1) = cells f a n ++ [f (a + (n : Int))] := by
  simp [cells, List.range_succ]

/-! ### periods -/
def Per (g : Int → C) (n : Int) : Prop := ∀ p, g (p + n) = g p
theorem Per.mul {g : Int → C} {n : Int} (h : Per g n) : ∀ q : Nat, Per g ((q : Int) * n)
  | 0 => fun p => by simp
  | q + 1 => fun p => by
    have e : p + ((q + 1 : Nat) : Int) * n = (p + (q : Int) * n) + n := by rw [Int.natCast_add, Int.add_mul]; simp [Int.add_assoc]
    rw [e, h, Per.mul h q]
theorem Per.gcd {g : Int → C} (m n : Nat) : Per g (m : Int) → Per g (n : Int) → Per g ((Nat.gcd m n : Nat) : Int) := by
  induction m, n using Nat.gcd.induction with
  | H0 n => intro _ h; simpa using h
  | H1 m n hm ih =>
    intro h1 h2
    rw [Nat.gcd_rec]
    refine ih (fun p => ?_) h1
    have e : ((n : Nat) : Int) = ((n / m : Nat) : Int) * (m : Int) + ((n % m : Nat) : Int) := by
      have := Nat.div_add_mod n m
      rw [Nat.mul_comm] at this
      exact_mod_cast this.symm
    have h3 := h1.mul (n / m) (p + ((n % m : Nat) : Int))
    have h4 := h2 p
    rw [e] at h4
    rw [← h3, ← h4]
    congr 1
    omega
theorem rg_lt {xs : List C} {k : Int} (h0 : 0 ≤ k) (h : k < xs.length) : rg xs k = xs.getD k.toNat none := by
  unfold rg; rw [Int.emod_eq_of_lt h0 h]
theorem rg_per (xs : List C) : Per (rg xs) (xs.length : Int) := fun p => by
  unfold rg; rw [Int.add_emod_right]
/-- agreeing on one round from b on is agreeing from b on -/
theorem agreeR {f g : Int → C} {b : Int} {n : Nat} (hn : 0 < n) (hf : ∀ p, b ≤ p → f (p + n) = f p) (hg : ∀ p, b ≤ p → g (p + n) = g p)
    (h : ∀ p, b ≤ p → p < b + n → f p = g p) : ∀ p, b ≤ p → f p = g p := by
  have key : ∀ k : Nat, ∀ p, b ≤ p → (p - b).toNat ≤ k → f p = g p := by
    intro k
    induction k with
    | zero => intro p h1 h2; exact h p h1 (by omega)
    | succ k ih =>
      intro p h1 h2
      by_cases hp : p < b + n
      · exact h p h1 hp
      · have := ih (p - n) (by omega) (by omega)
        have e : p = (p - n) + n := by omega
        rw [e, hf _ (by omega), hg _ (by omega)]
        exact this
  intro p hp
  exact key _ p hp (Nat.le_refl _)
theorem agreeL {f g : Int → C} {b : Int} {n : Nat} (hn : 0 < n) (hf : ∀ p, p < b → f (p - n) = f p) (hg : ∀ p, p < b → g (p - n) = g p)
    (h : ∀ p, p < b → b - n ≤ p → f p = g p) : ∀ p, p < b → f p = g p := by
  have key : ∀ k : Nat, ∀ p, p < b → (b - p).toNat ≤ k → f p = g p := by
    intro k
    induction k with
    | zero => intro p h1 h2; omega
    | succ k ih =>
      intro p h1 h2
      by_cases hp : b - n ≤ p
      · exact h p h1 hp
      · have := ih (p + n) (by omega) (by omega)
        have e : p = (p + n) - n := by omega
        rw [e, hf _ (by omega), hg _ (by omega)]
        exact this
  intro p hp
  exact key _ p hp (Nat.le_refl _)
/-- a period of the right tail is one of a function that is n-periodic everywhere and agrees there -/
theorem per_of_tailR {g : Int → C} {n : Nat} (hn : 0 < n) (hg : Per g n) {q : Int} {b : Int} (h : ∀ p, b ≤ p → g (p + q) = g p) : Per g q := fun p => by
  have e := hg.mul (b - p).toNat
  have hb : b ≤ p + ((b - p).toNat : Int) * (n : Int) := by
    have h1 : ((b - p).toNat : Int) * 1 ≤ ((b - p).toNat : Int) * (n : Int) := Int.mul_le_mul_of_nonneg_left (by omega) (by omega)
    omega
  have h2 := h _ hb
  rw [e p] at h2
  rw [← h2, ← e (p + q)]
  congr 1
  omega
theorem per_of_tailL {g : Int → C} {n : Nat} (hn : 0 < n) (hg : Per g n) {q : Int} {b : Int} (h : ∀ p, p < b → g (p - q) = g p) : Per g q := fun p => by
  have e := hg.mul (p + q - b + 1).toNat
  have hb : p + q - ((p + q - b + 1).toNat : Int) * (n : Int) < b := by
    have h1 : ((p + q - b + 1).toNat : Int) * 1 ≤ ((p + q - b + 1).toNat : Int) * (n : Int) := Int.mul_le_mul_of_nonneg_left (by omega) (by omega)
    omega
  have h2 := h _ hb
  have e1 := e (p + q - ((p + q - b + 1).toNat : Int) * (n : Int))
  have e2 := e (p - ((p + q - b + 1).toNat : Int) * (n : Int))
  rw [Int.sub_add_cancel] at e1 e2
  rw [e1, e2, ← h2]
  congr 1
  omega

/-! ### the least round -/
def rep (k : Nat) (ys : List C) : List C := (List.replicate k ys).flatten
theorem rep_len (k : Nat) (ys : List C) : (rep k ys).length = k * ys.length := by
  induction k with
  | zero => simp [rep]
  | succ k ih =>
    have : rep (k + 1) ys = ys ++ rep k ys := by simp [rep, List.replicate_succ]
    rw [this, List.length_append, ih, Nat.add_mul]; omega
theorem rep_get {ys : List C} : ∀ {k i : Nat}, i < k * ys.length → (rep k ys)[i]? = ys[i % ys.length]? := by
  intro k
  induction k with
  | zero => intro i h; simp at h
  | succ k ih =>
    intro i h
    have e : rep (k + 1) ys = ys ++ rep k ys := by simp [rep, List.replicate_succ]
    rw [e]
    by_cases hi : i < ys.length
    · rw [List.getElem?_append_left hi, Nat.mod_eq_of_lt hi]
    · rw [List.getElem?_append_right (by omega), ih (by rw [Nat.add_mul] at h; omega)]
      congr 1
      exact (Nat.mod_eq_sub_mod (by omega)).symm
/-- n values, told again and again, are xs -/
def okR (xs : List C) (n : Nat) : Prop := xs.length % n = 0 ∧ xs = rep (xs.length / n) (xs.take n)
instance (xs : List C) (n : Nat) : Decidable (okR xs n) := by unfold okR; exact inferInstance
def lenGo (xs : List C) : Nat → Nat → Nat
  | 0, n => n
  | k + 1, n => if okR xs n then n else lenGo xs k (n + 1)
def leastLen (xs : List C) : Nat := lenGo xs (xs.length - 1) 1
theorem lenGo_hit {xs : List C} : ∀ {k n j : Nat}, n ≤ j → j < n + k → okR xs j → (∀ i, n ≤ i → i < j → ¬ okR xs i) → lenGo xs k n = j := by
  intro k
  induction k with
  | zero => intro n j h1 h2; omega
  | succ k ih =>
    intro n j h1 h2 h3 h4
    unfold lenGo
    by_cases e : n = j
    · subst e; rw [if_pos h3]
    · rw [if_neg (h4 n (Nat.le_refl _) (by omega))]
      exact ih (by omega) (by omega) h3 fun i a b => h4 i (by omega) b
theorem lenGo_none {xs : List C} : ∀ {k n : Nat}, (∀ i, n ≤ i → i < n + k → ¬ okR xs i) → lenGo xs k n = n + k := by
  intro k
  induction k with
  | zero => intro n _; rfl
  | succ k ih =>
    intro n h
    unfold lenGo
    rw [if_neg (h n (Nat.le_refl _) (by omega)), ih fun i a b => h i (by omega) (by omega)]
    omega
theorem leastLen_hit {xs : List C} {j : Nat} (h1 : 1 ≤ j) (h2 : j < xs.length) (h3 : okR xs j) (h4 : ∀ i, 1 ≤ i → i < j → ¬ okR xs i) : leastLen xs = j :=
  lenGo_hit h1 (by omega) h3 h4
theorem leastLen_none {xs : List C} (h0 : xs ≠ []) (h : ∀ i, 1 ≤ i → i < xs.length → ¬ okR xs i) : leastLen xs = xs.length := by
  have hl : 0 < xs.length := List.length_pos_iff.mpr h0
  unfold leastLen
  rw [lenGo_none fun i a b => h i a (by omega)]
  omega
theorem okR_self {xs : List C} (h0 : xs ≠ []) : okR xs xs.length := by
  have hl : 0 < xs.length := List.length_pos_iff.mpr h0
  refine ⟨Nat.mod_self _, ?_⟩
  rw [Nat.div_self hl, List.take_length]
  simp [rep]
theorem okR_per {xs : List C} {n : Nat} (hn : 0 < n) (h0 : xs ≠ []) : okR xs n ↔ n ∣ xs.length ∧ Per (rg xs) n := by
  have hl : 0 < xs.length := List.length_pos_iff.mpr h0
  constructor
  · rintro ⟨h1, h2⟩
    have hd : n ∣ xs.length := Nat.dvd_of_mod_eq_zero h1
    refine ⟨hd, ?_⟩
    have hle : n ≤ xs.length := Nat.le_of_dvd hl hd
    have ht : (xs.take n).length = n := by rw [List.length_take]; omega
    have hm : xs.length / n * n = xs.length := Nat.div_mul_cancel hd
    have hg : ∀ i : Nat, i < xs.length → xs[i]? = xs[i % n]? := fun i hi => by
      have h3 : (rep (xs.length / n) (xs.take n))[i]? = (xs.take n)[i % (xs.take n).length]? := rep_get (by rw [ht, hm]; exact hi)
      rw [← h2, ht] at h3
      rw [h3, List.getElem?_take_of_lt (Nat.mod_lt _ hn)]
    intro p
    unfold rg
    rw [List.getD_eq_getElem?_getD, List.getD_eq_getElem?_getD]
    have hi1 : ((p + n) % (xs.length : Int)).toNat < xs.length := by
      have := Int.emod_lt_of_pos (p + n) (b := (xs.length : Int)) (by omega)
      have := Int.emod_nonneg (p + n) (b := (xs.length : Int)) (by omega)
      omega
    have hi2 : (p % (xs.length : Int)).toNat < xs.length := by
      have := Int.emod_lt_of_pos p (b := (xs.length : Int)) (by omega)
      have := Int.emod_nonneg p (b := (xs.length : Int)) (by omega)
      omega
    rw [hg _ hi1, hg _ hi2]
    have hdi : (n : Int) ∣ (xs.length : Int) := Int.natCast_dvd_natCast.mpr hd
    have e : ∀ q : Int, (((q % (xs.length : Int)).toNat % n : Nat) : Int) = q % (n : Int) := fun q => by
      rw [Int.natCast_emod, Int.toNat_of_nonneg (Int.emod_nonneg q (by omega)), Int.emod_emod_of_dvd q hdi]
    have e1 : (((p + n) % (xs.length : Int)).toNat % n : Nat) = ((p % (xs.length : Int)).toNat % n : Nat) := by
      have h5 := e (p + n)
      have h6 := e p
      rw [Int.add_emod_right] at h5
      omega
    rw [e1]
  · rintro ⟨hd, hp⟩
    have hle : n ≤ xs.length := Nat.le_of_dvd hl hd
    have hm : xs.length / n * n = xs.length := Nat.div_mul_cancel hd
    have ht : (xs.take n).length = n := by rw [List.length_take]; omega
    refine ⟨Nat.mod_eq_zero_of_dvd hd, ?_⟩
    apply List.ext_getElem?
    intro i
    by_cases hi : i < xs.length
    · rw [rep_get (by rw [ht, hm]; exact hi), ht, List.getElem?_take_of_lt (Nat.mod_lt _ hn)]
      have h1 : rg xs (i : Int) = xs.getD i none := by rw [rg_lt (by omega) (by omega)]; rfl
      have h2 : rg xs ((i % n : Nat) : Int) = xs.getD (i % n) none := by
        have := Nat.mod_le i n
        rw [rg_lt (by omega) (by omega)]; rfl
      have h3 := hp.mul (i / n) ((i % n : Nat) : Int)
      have h4 : ((i % n : Nat) : Int) + ((i / n : Nat) : Int) * (n : Int) = (i : Int) := by
        have := Nat.mod_add_div i n
        rw [Nat.mul_comm] at this
        exact_mod_cast this
      rw [h4, h1, h2] at h3
      have hi2 : i % n < xs.length := Nat.lt_of_lt_of_le (Nat.mod_lt _ hn) hle
      rw [List.getD_eq_getElem?_getD, List.getD_eq_getElem?_getD, List.getElem?_eq_getElem hi, List.getElem?_eq_getElem hi2] at h3
      rw [List.getElem?_eq_getElem hi, List.getElem?_eq_getElem hi2]
      exact congrArg some h3
    · rw [List.getElem?_eq_none (by omega), List.getElem?_eq_none (by rw [rep_len, ht, hm]; omega)]
theorem leastLen_ok {xs : List C} (h0 : xs ≠ []) : 1 ≤ leastLen xs ∧ leastLen xs ≤ xs.length ∧ okR xs (leastLen xs) ∧ ∀ i, 1 ≤ i → okR xs i → leastLen xs ≤ i := by
  have hl : 0 < xs.length := List.length_pos_iff.mpr h0
  have key : ∀ k : Nat, (∃ j, 1 ≤ j ∧ j < 1 + k ∧ okR xs j ∧ ∀ i, 1 ≤ i → i < j → ¬ okR xs i) ∨ ∀ i, 1 ≤ i → i < 1 + k → ¬ okR xs i := by
    intro k
    induction k with
    | zero => exact .inr fun i a b => by omega
    | succ k ih =>
      rcases ih with ⟨j, a, b, c, d⟩ | ih
      · exact .inl ⟨j, a, by omega, c, d⟩
      · by_cases h : okR xs (1 + k)
        · exact .inl ⟨1 + k, by omega, by omega, h, fun i a b => ih i a b⟩
        · refine .inr fun i a b => ?_
          by_cases e : i = 1 + k
          · rw [e]; exact h
          · exact ih i a (by omega)
  rcases key (xs.length - 1) with ⟨j, a, b, c, d⟩ | h
  · rw [leastLen_hit a (by omega) c d]
    refine ⟨a, by omega, c, fun i h1 h2 => ?_⟩
    by_cases e : j ≤ i
    · exact e
    · exact absurd h2 (d i h1 (by omega))
  · rw [leastLen_none h0 fun i a b => h i a (by omega)]
    refine ⟨hl, Nat.le_refl _, okR_self h0, fun i h1 h2 => ?_⟩
    by_cases e : xs.length ≤ i
    · exact e
    · exact absurd h2 (h i h1 (by omega))
theorem leastLen_per {xs : List C} (h0 : xs ≠ []) : Per (rg xs) (leastLen xs) := ((okR_per (leastLen_ok h0).1 h0).mp (leastLen_ok h0).2.2.1).2
theorem leastLen_dvd_len {xs : List C} (h0 : xs ≠ []) : leastLen xs ∣ xs.length := ((okR_per (leastLen_ok h0).1 h0).mp (leastLen_ok h0).2.2.1).1
/-- it goes into each period -/
theorem leastLen_dvd {xs : List C} (h0 : xs ≠ []) {n : Nat} (hn : 0 < n) (h : Per (rg xs) n) : leastLen xs ∣ n := by
  have hl : 0 < xs.length := List.length_pos_iff.mpr h0
  have hp := leastLen_per h0
  have h1 := Per.gcd _ _ hp h
  have hg : 0 < Nat.gcd (leastLen xs) n := Nat.gcd_pos_of_pos_right _ hn
  have h2 : okR xs (Nat.gcd (leastLen xs) n) := (okR_per hg h0).mpr ⟨Nat.dvd_trans (Nat.gcd_dvd_left _ _) (leastLen_dvd_len h0), h1⟩
  have h3 := (leastLen_ok h0).2.2.2 _ hg h2
  have h4 : Nat.gcd (leastLen xs) n = leastLen xs := Nat.le_antisymm (Nat.le_of_dvd (leastLen_ok h0).1 (Nat.gcd_dvd_left _ _)) h3
  rw [← h4]
  exact Nat.gcd_dvd_right _ _
end Fw
namespace Fw
/-! ### a row's tails -/
structure Fm.Ok (F : Fm) : Prop where
  l0 : F.l ≠ []
  r0 : F.r ≠ []
theorem Fm.at_l {F : Fm} {p : Int} (h : p < F.f) : F.at p = rg F.l (p - F.f) := by unfold Fm.at; rw [if_pos h]
theorem Fm.at_m {F : Fm} {p : Int} (h : F.f ≤ p) (h2 : p < F.f + (F.m.length : Int)) : F.at p = F.m.getD (p - F.f).toNat none := by
  unfold Fm.at; rw [if_neg (by omega), if_pos h2]
theorem Fm.at_r {F : Fm} {p : Int} (h : F.f + (F.m.length : Int) ≤ p) : F.at p = rg F.r (p - F.f - (F.m.length : Int)) := by
  unfold Fm.at; rw [if_neg (by omega), if_neg (by omega)]
/-- n-periodic from b on; n-periodic ahead of b -/
def PR (f : Int → C) (b : Int) (n : Int) : Prop := ∀ p, b ≤ p → f (p + n) = f p
def PL (f : Int → C) (b : Int) (n : Int) : Prop := ∀ p, p < b → f (p - n) = f p
theorem Fm.tailR {F : Fm} {n : Int} (h : Per (rg F.r) n) (h0 : 0 ≤ n) : PR F.at (F.f + (F.m.length : Int)) n := fun p hp => by
  rw [Fm.at_r (by omega), Fm.at_r hp, ← h (p - F.f - _)]
  congr 1
  omega
theorem Fm.tailL {F : Fm} {n : Int} (h : Per (rg F.l) n) (h0 : 0 ≤ n) : PL F.at F.f n := fun p hp => by
  rw [Fm.at_l (by omega), Fm.at_l hp, ← h (p - n - F.f)]
  congr 1
  omega
/-- the least eventual periods, to the right and to the left -/
structure LR (f : Int → C) (r : Nat) : Prop where
  pos : 0 < r
  ex : ∃ b, PR f b r
  dv : ∀ n b, 0 < n → PR f b ((n : Nat) : Int) → r ∣ n
structure LL (f : Int → C) (l : Nat) : Prop where
  pos : 0 < l
  ex : ∃ b, PL f b l
  dv : ∀ n b, 0 < n → PL f b ((n : Nat) : Int) → l ∣ n
theorem LR.uniq {f : Int → C} {r s : Nat} (a : LR f r) (b : LR f s) : r = s := by
  obtain ⟨x, hx⟩ := a.ex
  obtain ⟨y, hy⟩ := b.ex
  exact Nat.dvd_antisymm (a.dv _ _ b.pos hy) (b.dv _ _ a.pos hx)
theorem LL.uniq {f : Int → C} {r s : Nat} (a : LL f r) (b : LL f s) : r = s := by
  obtain ⟨x, hx⟩ := a.ex
  obtain ⟨y, hy⟩ := b.ex
  exact Nat.dvd_antisymm (a.dv _ _ b.pos hy) (b.dv _ _ a.pos hx)
/-- a function whose right tail is a ring -/
theorem lr_of {f : Int → C} {xs : List C} {b : Int} (h0 : xs ≠ []) (h : ∀ p, b ≤ p → f p = rg xs (p - b)) : LR f (leastLen xs) ∧ PR f b (leastLen xs) := by
  have hl : 0 < xs.length := List.length_pos_iff.mpr h0
  have hp := leastLen_per h0
  have hb : PR f b (leastLen xs) := fun p q => by
    rw [h p q, h _ (by omega), ← hp (p - b)]
    congr 1
    omega
  refine ⟨⟨(leastLen_ok h0).1, ⟨b, hb⟩, fun n b' hn hq => leastLen_dvd h0 hn ?_⟩, hb⟩
  refine per_of_tailR hl (rg_per xs) (b := max b b' - b) fun p hp' => ?_
  have h1 := hq (p + b) (by omega)
  rw [h _ (by omega), h _ (by omega)] at h1
  have e1 : p + b + (n : Int) - b = p + n := by omega
  have e2 : p + b - b = p := by omega
  rw [e1, e2] at h1
  exact h1
theorem ll_of {f : Int → C} {xs : List C} {b : Int} (h0 : xs ≠ []) (h : ∀ p, p < b → f p = rg xs (p - b)) : LL f (leastLen xs) ∧ PL f b (leastLen xs) := by
  have hl : 0 < xs.length := List.length_pos_iff.mpr h0
  have hp := leastLen_per h0
  have hb : PL f b (leastLen xs) := fun p q => by
    rw [h p q, h _ (by omega), ← hp (p - _ - b)]
    congr 1
    omega
  refine ⟨⟨(leastLen_ok h0).1, ⟨b, hb⟩, fun n b' hn hq => leastLen_dvd h0 hn ?_⟩, hb⟩
  refine per_of_tailL hl (rg_per xs) (b := min b b' - b) fun p hp' => ?_
  have h1 := hq (p + b) (by omega)
  rw [h _ (by omega), h _ (by omega)] at h1
  have e1 : p + b - (n : Int) - b = p - n := by omega
  have e2 : p + b - b = p := by omega
  rw [e1, e2] at h1
  exact h1
theorem cells_ne {f : Int → C} {a : Int} {n : Nat} (hn : 0 < n) : cells f a n ≠ [] := fun e => by
  have := congrArg List.length e
  rw [cells_len] at this
  simp at this
  omega
/-- what comes round from b on is the ring of one round there -/
theorem ringR {f : Int → C} {b : Int} {n : Nat} (hn : 0 < n) (h : PR f b n) : ∀ p, b ≤ p → f p = rg (cells f b n) (p - b) := by
  refine agreeR hn h (fun p hp => ?_) fun p h1 h2 => ?_
  · have e := rg_per (cells f b n) (p - b)
    rw [cells_len] at e
    rw [← e]
    congr 1
    omega
  · rw [rg_lt (by omega) (by rw [cells_len]; omega), cells_at (by omega)]
    congr 1
    omega
theorem ringL {f : Int → C} {b : Int} {n : Nat} (hn : 0 < n) (h : PL f b n) : ∀ p, p < b → f p = rg (cells f (b - n) n) (p - b) := by
  refine agreeL hn h (fun p hp => ?_) fun p h1 h2 => ?_
  · have e := rg_per (cells f (b - n) n) (p - n - b)
    rw [cells_len] at e
    rw [← e]
    congr 1
    omega
  · have e := rg_per (cells f (b - n) n) (p - b)
    rw [cells_len] at e
    rw [← e, rg_lt (by omega) (by rw [cells_len]; omega), cells_at (by omega)]
    congr 1
    omega
/-- a row of a function's own cells has them -/
theorem at_cells {f : Int → C} {a b : Int} {l r : Nat} (hl : 0 < l) (hr : 0 < r) (hab : a ≤ b) (h1 : PL f a l) (h2 : PR f b r) :
    Fm.at ⟨cells f (a - l) l, cells f a (b - a).toNat, a, cells f b r⟩ = f := by
  funext p
  have hm : (((cells f a (b - a).toNat).length : Nat) : Int) = b - a := by rw [cells_len]; omega
  by_cases q1 : p < a
  · rw [Fm.at_l (show p < a from q1)]
    exact (ringL hl h1 p q1).symm
  · by_cases q2 : p < b
    · rw [Fm.at_m (show a ≤ p by omega) (show p < a + _ by rw [hm]; omega)]
      show (cells f a (b - a).toNat).getD (p - a).toNat none = f p
      rw [cells_at (by omega)]
      congr 1
      omega
    · rw [Fm.at_r (show a + _ ≤ p by rw [hm]; omega)]
      show rg (cells f b r) (p - a - _) = f p
      rw [hm, ringR hr h2 p (by omega)]
      congr 1
      omega
theorem least_cellsR {f : Int → C} {b : Int} {r : Nat} (h : LR f r) (h2 : PR f b r) : leastLen (cells f b r) = r := by
  obtain ⟨h3, _⟩ := lr_of (cells_ne h.pos) (ringR h.pos h2)
  exact h3.uniq h
theorem least_cellsL {f : Int → C} {b : Int} {l : Nat} (h : LL f l) (h2 : PL f b l) : leastLen (cells f (b - l) l) = l := by
  obtain ⟨h3, _⟩ := ll_of (cells_ne h.pos) (ringL h.pos h2)
  exact h3.uniq h

/-! ### plain rows -/
def Fm.Rnd (R : Fm) : Prop := R.m = [] ∧ R.l = R.r
def Fm.e (R : Fm) : Int := R.f + (R.m.length : Int)
structure Pl (R : Fm) : Prop where
  ok : R.Ok
  ll : leastLen R.l = R.l.length
  lr : leastLen R.r = R.r.length
  cs : (R.m = [] ∧ R.f = 0 ∧ R.l = R.r) ∨ (R.at (R.e - 1) ≠ R.at (R.e - 1 + (R.r.length : Int)) ∧ (R.m = [] ∨ R.at R.f ≠ R.at (R.f - (R.l.length : Int))))
theorem Pl.LRr {R : Fm} (h : Pl R) : LR R.at R.r.length ∧ PR R.at R.e R.r.length := by
  have := lr_of (f := R.at) (b := R.e) h.ok.r0 fun p hp => by
    rw [Fm.at_r hp]
    congr 1
    unfold Fm.e
    omega
  rw [h.lr] at this
  exact this
theorem Pl.LLl {R : Fm} (h : Pl R) : LL R.at R.l.length ∧ PL R.at R.f R.l.length := by
  have := ll_of (f := R.at) (b := R.f) h.ok.l0 fun p hp => Fm.at_l hp
  rw [h.ll] at this
  exact this
theorem Fm.l_eq {R : Fm} (h : R.Ok) : R.l = cells R.at (R.f - (R.l.length : Int)) R.l.length := by
  apply List.ext_getElem?
  intro i
  have hl : 0 < R.l.length := List.length_pos_iff.mpr h.l0
  by_cases hi : i < R.l.length
  · rw [cells_get hi, Fm.at_l (by omega), ← rg_per R.l (R.f - _ + (i : Int) - R.f), rg_lt (by omega) (by omega), List.getD_eq_getElem?_getD]
    have e : (R.f - (R.l.length : Int) + (i : Int) - R.f + (R.l.length : Int)).toNat = i := by omega
    rw [e, List.getElem?_eq_getElem hi]
    rfl
  · rw [List.getElem?_eq_none (by omega), List.getElem?_eq_none (by rw [cells_len]; omega)]
theorem Fm.r_eq {R : Fm} (h : R.Ok) : R.r = cells R.at R.e R.r.length := by
  apply List.ext_getElem?
  intro i
  have hl : 0 < R.r.length := List.length_pos_iff.mpr h.r0
  by_cases hi : i < R.r.length
  · rw [cells_get hi, Fm.at_r (by unfold Fm.e; omega), rg_lt (by unfold Fm.e; omega) (by unfold Fm.e; omega), List.getD_eq_getElem?_getD]
    have e : (R.e + (i : Int) - R.f - (R.m.length : Int)).toNat = i := by unfold Fm.e; omega
    rw [e, List.getElem?_eq_getElem hi]
    rfl
  · rw [List.getElem?_eq_none (by omega), List.getElem?_eq_none (by rw [cells_len]; omega)]
theorem Fm.m_eq {R : Fm} : R.m = cells R.at R.f R.m.length := by
  apply List.ext_getElem?
  intro i
  by_cases hi : i < R.m.length
  · rw [cells_get hi, Fm.at_m (by omega) (by omega), List.getD_eq_getElem?_getD]
    have e : (R.f + (i : Int) - R.f).toNat = i := by omega
    rw [e, List.getElem?_eq_getElem hi]
    rfl
  · rw [List.getElem?_eq_none (by omega), List.getElem?_eq_none (by rw [cells_len]; omega)]
theorem Pl.round {R : Fm} (h : Pl R) (c : R.m = [] ∧ R.f = 0 ∧ R.l = R.r) : Per R.at R.r.length := fun p => by
  have hz : ∀ q, R.at q = rg R.r q := fun q => by
    by_cases hq : q < 0
    · rw [Fm.at_l (by omega), c.2.2, c.2.1, Int.sub_zero]
    · rw [Fm.at_r (by rw [c.1, c.2.1]; simpa using hq), c.1, c.2.1]
      simp
  rw [hz, hz]
  exact rg_per R.r p
/-- two plain rows of the same cells are one -/
theorem Pl.uniq {R S : Fm} (h : Pl R) (k : Pl S) (e : R.at = S.at) : R = S := by
  have er : R.r.length = S.r.length := h.LRr.1.uniq (e ▸ k.LRr.1)
  have el : R.l.length = S.l.length := h.LLl.1.uniq (e ▸ k.LLl.1)
  have fin : R.f = S.f → R.m.length = S.m.length → R = S := fun e1 e2 => by
    have a1 := Fm.l_eq h.ok
    have a2 := Fm.r_eq h.ok
    have a3 := Fm.m_eq (R := R)
    have ee : R.e = S.e := by unfold Fm.e; rw [e1, e2]
    rw [e1, el, e, ← Fm.l_eq k.ok] at a1
    rw [ee, er, e, ← Fm.r_eq k.ok] at a2
    rw [e1, e2, e, ← Fm.m_eq (R := S)] at a3
    cases R; cases S
    simp only at a1 a2 a3 e1
    subst a1 a2 a3 e1
    rfl
  rcases h.cs with c | ⟨c1, c2⟩
  · rcases k.cs with d | ⟨d1, d2⟩
    · exact fin (by rw [c.2.1, d.2.1]) (by rw [c.1, d.1])
    · have p := h.round c (S.e - 1)
      rw [er, e] at p
      exact absurd p.symm d1
  · rcases k.cs with d | ⟨d1, d2⟩
    · have p := k.round d (R.e - 1)
      rw [← er, ← e] at p
      exact absurd p.symm c1
    · have hR := h.LRr.2
      have hS := k.LRr.2
      have e1 : R.e = S.e := by
        have q1 : ¬ S.e ≤ R.e - 1 := fun z => c1 (by have := hS (R.e - 1) z; rw [← er, ← e] at this; exact this.symm)
        have q2 : ¬ R.e ≤ S.e - 1 := fun z => d1 (by have := hR (S.e - 1) z; rw [er, e] at this; exact this.symm)
        omega
      have hRl := h.LLl.2
      have hSl := k.LLl.2
      have e2 : R.f = S.f := by
        have q1 : ¬ R.f < S.f := fun z => by
          have n1 : R.m ≠ [] := fun w => by unfold Fm.e at e1; rw [w] at e1; simp at e1; omega
          rcases c2 with c2 | c2
          · exact n1 c2
          · have := hSl R.f z
            rw [← el, ← e] at this
            exact c2 this.symm
        have q2 : ¬ S.f < R.f := fun z => by
          have n1 : S.m ≠ [] := fun w => by unfold Fm.e at e1; rw [w] at e1; simp at e1; omega
          rcases d2 with d2 | d2
          · exact n1 d2
          · have := hRl S.f z
            rw [el, e] at this
            exact d2 this.symm
        omega
      exact fin e2 (by unfold Fm.e at e1; omega)
/-- a plain row whose middle is empty and whose wheels are alike lies at nought -/
theorem Pl.rnd {R : Fm} (h : Pl R) (q : R.Rnd) : R.f = 0 := by
  rcases h.cs with c | ⟨c1, _⟩
  · exact c.2.1
  · refine absurd ?_ c1
    have e : R.e = R.f := by unfold Fm.e; rw [q.1]; simp
    have hl : 0 < R.r.length := List.length_pos_iff.mpr h.ok.r0
    rw [e, Fm.at_l (by omega), Fm.at_r (by rw [q.1]; simp; omega), q.1, q.2, ← rg_per R.r (R.f - 1 - R.f)]
    congr 1
    simp
    omega
theorem Pl.rnd_per {R : Fm} (h : Pl R) (q : R.Rnd) : Per R.at R.r.length := h.round ⟨q.1, h.rnd q, q.2⟩
/-! ### what the search for the plain form finds -/
/-- f comes round ahead of a by L, from b on by R; l and r are the least such -/
structure Tw (f : Int → C) (a b : Int) (l r : Nat) : Prop where
  ab : a ≤ b
  ll : LL f l
  lr : LR f r
  pl : PL f a l
  pr : PR f b r
section
variable {f : Int → C} {a b : Int} {l r : Nat}
theorem Tw.mono (t : Tw f a b l r) {n : Nat} {c : Int} (hn : 0 < n) (h : ∀ p, f (p + n) = f p) : ∀ p, f (p + r) = f p :=
  per_of_tailR hn h (b := b) t.pr
theorem Tw.all (t : Tw f a b l r) (h : ∀ p, a - l - r ≤ p → f (p + r) = f p) : ∀ p, f (p + r) = f p := fun p => by
  by_cases hp : a - l - r ≤ p
  · exact h p hp
  · have hl := t.ll.pos
    have hL : ∀ q : Nat, ∀ x : Int, x + (q : Int) * l ≤ a - 1 → f (x + (q : Int) * l) = f x := by
      intro q
      induction q with
      | zero => intro x _; simp
      | succ q ih =>
        intro x hx
        have e : x + ((q + 1 : Nat) : Int) * l = x + (q : Int) * l + l := by rw [Int.natCast_add, Int.add_mul]; simp [Int.add_assoc]
        rw [e] at hx ⊢
        have := t.pl (x + (q : Int) * l + l) (by omega)
        rw [Int.add_sub_cancel] at this
        rw [← this]
        exact ih x (by omega)
    have hq : ∃ q : Nat, a - l - r ≤ p + (q : Int) * l ∧ p + (q : Int) * l < a - r := by
      have key : ∀ k : Nat, ∀ x : Int, x < a - r → (a - r - x).toNat ≤ k → ∃ q : Nat, a - l - r ≤ x + (q : Int) * l ∧ x + (q : Int) * l < a - r := by
        intro k
        induction k with
        | zero => intro x h1 h2; omega
        | succ k ih =>
          intro x h1 h2
          by_cases h3 : a - l - r ≤ x
          · exact ⟨0, by simpa using h3, by simpa using h1⟩
          · obtain ⟨q, q1, q2⟩ := ih (x + l) (by omega) (by omega)
            have e : x + ((q + 1 : Nat) : Int) * l = x + l + (q : Int) * l := by rw [Int.natCast_add, Int.add_mul]; omega
            exact ⟨q + 1, by rw [e]; exact q1, by rw [e]; exact q2⟩
      exact key _ p (by omega) (Nat.le_refl _)
    obtain ⟨q, q1, q2⟩ := hq
    have h1 := hL q p (by omega)
    have h2 := hL q (p + r) (by omega)
    have h3 := h _ q1
    rw [← h1, ← h2, ← h3]
    congr 1
    omega
/-- it comes round everywhere -/
theorem Tw.round (t : Tw f a b l r) (h : ∀ p, a - l - r ≤ p → f (p + r) = f p) :
    Pl ⟨cells f 0 r, [], 0, cells f 0 r⟩ ∧ Fm.at ⟨cells f 0 r, [], 0, cells f 0 r⟩ = f := by
  have hp := t.all h
  have hr := t.lr.pos
  have e : Fm.at ⟨cells f 0 r, [], 0, cells f 0 r⟩ = f := by
    funext p
    have hz : rg (cells f 0 r) p = f p := by
      by_cases hp0 : 0 ≤ p
      · have := ringR (b := 0) hr (fun p _ => hp p) p hp0
        rw [this, Int.sub_zero]
      · have q0 : PL f 0 r := fun p _ => by have := hp (p - r); rw [Int.sub_add_cancel] at this; exact this.symm
        refine (agreeL (f := f) (g := rg (cells f 0 r)) (b := 0) (n := r) hr q0 (fun p _ => ?_) (fun p h1 h2 => ?_) p (by omega)).symm
        · have e := rg_per (cells f 0 r) (p - r)
          rw [cells_len, Int.sub_add_cancel] at e
          exact e.symm
        · have e := rg_per (cells f 0 r) p
          rw [cells_len] at e
          rw [← e, rg_lt (by omega) (by rw [cells_len]; omega), cells_at (by omega), ← hp p]
          congr 1
          omega
    by_cases hp0 : p < 0
    · rw [Fm.at_l (show p < 0 from hp0)]
      show rg (cells f 0 r) (p - 0) = f p
      rw [Int.sub_zero]; exact hz
    · rw [Fm.at_r (show (0 : Int) + (([] : List C).length : Int) ≤ p by simp; omega)]
      show rg (cells f 0 r) (p - 0 - ((([] : List C).length : Nat) : Int)) = f p
      simp
      exact hz
  have hle : leastLen (cells f 0 r) = r := least_cellsR t.lr (fun p _ => hp p)
  exact ⟨⟨⟨cells_ne hr, cells_ne hr⟩, by rw [cells_len]; exact hle, by rw [cells_len]; exact hle, .inl ⟨rfl, rfl, rfl⟩⟩, e⟩
/-- it does not: then the cells ahead don't come round somewhere from a on -/
theorem Tw.some (t : Tw f a b l r) {B : Int} (hne : f (B - 1) ≠ f (B - 1 + r)) : ∃ p, a ≤ p ∧ f p ≠ f (p - l) := by
  by_cases h : ∃ p, a ≤ p ∧ f p ≠ f (p - l)
  · exact h
  · have q : ∀ p, f (p - l) = f p := fun p => by
      by_cases hp : p < a
      · exact t.pl p hp
      · by_cases z : f p = f (p - l)
        · exact z.symm
        · exact absurd ⟨p, by omega, z⟩ h
    have q2 : ∀ p, f (p + l) = f p := fun p => by have := q (p + l); rw [Int.add_sub_cancel] at this; exact this.symm
    exact absurd (t.mono (c := 0) t.ll.pos q2 (B - 1)).symm hne
/-- the least such place -/
theorem least_ge {P : Int → Prop} {a : Int} (h : ∃ p, a ≤ p ∧ P p) : ∃ E, a ≤ E ∧ P E ∧ ∀ p, a ≤ p → p < E → ¬ P p := by
  obtain ⟨p, hp, hP⟩ := h
  have key : ∀ k : Nat, (∃ E, a ≤ E ∧ P E ∧ ∀ p, a ≤ p → p < E → ¬ P p) ∨ ∀ p, a ≤ p → p < a + k → ¬ P p := by
    intro k
    induction k with
    | zero => exact .inr fun p h1 h2 => by omega
    | succ k ih =>
      rcases ih with h | h
      · exact .inl h
      · by_cases q : P (a + k)
        · exact .inl ⟨a + k, by omega, q, h⟩
        · refine .inr fun p h1 h2 => ?_
          by_cases e : p = a + k
          · rw [e]; exact q
          · exact h p h1 (by omega)
  rcases key ((p - a).toNat + 1) with h | h
  · exact h
  · exact absurd hP (h p hp (by omega))
theorem Tw.plain (t : Tw f a b l r) {B E : Int} (hB : ∀ p, B ≤ p → f (p + r) = f p) (hne : f (B - 1) ≠ f (B - 1 + r)) (hE : a ≤ E) (hE1 : f E ≠ f (E - l)) (hE2 : ∀ p, a ≤ p → p < E → f p = f (p - l)) :
    Pl ⟨cells f (min B E - l) l, cells f (min B E) (B - min B E).toNat, min B E, cells f B r⟩ ∧
    Fm.at ⟨cells f (min B E - l) l, cells f (min B E) (B - min B E).toNat, min B E, cells f B r⟩ = f := by
  have hr := t.lr.pos
  have hl := t.ll.pos
  have pl : PL f (min B E) l := fun p hp => by
    by_cases q : p < a
    · exact t.pl p q
    · exact (hE2 p (by omega) (by omega)).symm
  have e := at_cells hl hr (Int.min_le_left B E) pl hB
  refine ⟨⟨⟨cells_ne hl, cells_ne hr⟩, by rw [cells_len]; exact least_cellsL t.ll pl, by rw [cells_len]; exact least_cellsR t.lr hB, .inr ?_⟩, e⟩
  rw [e]
  have ee : Fm.e ⟨cells f (min B E - l) l, cells f (min B E) (B - min B E).toNat, min B E, cells f B r⟩ = B := by
    show min B E + (((cells f (min B E) (B - min B E).toNat).length : Nat) : Int) = B
    rw [cells_len]
    omega
  rw [ee]
  refine ⟨by rw [cells_len]; exact hne, ?_⟩
  by_cases q : B ≤ E
  · refine .inl (List.eq_nil_of_length_eq_zero ?_)
    rw [cells_len]
    omega
  · refine .inr ?_
    show f (min B E) ≠ f (min B E - (((cells f (min B E - l) l).length : Nat) : Int))
    rw [cells_len, show min B E = E by omega]
    exact hE1
/-- going down from b: where it stops -/
theorem Tw.down (t : Tw f a b l r) : (∀ p, a - l - r ≤ p → f (p + r) = f p) ∨ ∃ B, a - l - r < B ∧ B ≤ b ∧ (∀ p, B ≤ p → f (p + r) = f p) ∧ f (B - 1) ≠ f (B - 1 + r) := by
  have key : ∀ k : Nat, (∃ B, a - l - r < B ∧ B ≤ b ∧ (∀ p, B ≤ p → f (p + r) = f p) ∧ f (B - 1) ≠ f (B - 1 + r)) ∨ ∀ p, b - k ≤ p → a - l - r ≤ p → f (p + r) = f p := by
    intro k
    induction k with
    | zero => exact .inr fun p h1 _ => t.pr p (by omega)
    | succ k ih =>
      rcases ih with h | h
      · exact .inl h
      · by_cases q : f (b - k - 1) = f (b - k - 1 + r)
        · refine .inr fun p h1 h2 => ?_
          by_cases e : b - k ≤ p
          · exact h p e h2
          · have : p = b - k - 1 := by omega
            rw [this]; exact q.symm
        · by_cases z : a - l - r < b - k
          · have hab := t.ab
            exact .inl ⟨b - k, z, by omega, fun p hp => h p hp (by omega), q⟩
          · exact .inr fun p h1 h2 => h p (by omega) h2
  rcases key (b - (a - l - r)).toNat with h | h
  · exact .inr h
  · have hab := t.ab
    exact .inl fun p hp => h p (by omega) hp
theorem Tw.exists (t : Tw f a b l r) : ∃ R, Pl R ∧ R.at = f := by
  rcases t.down with h | ⟨B, _, _, h3, h4⟩
  · exact ⟨_, t.round h⟩
  · obtain ⟨E, e1, e2, e3⟩ := least_ge (t.some h4)
    exact ⟨_, t.plain h3 h4 e1 e2 fun p h1 h2 => Classical.not_not.mp (e3 p h1 h2)⟩
end
/-- the plain row of a cell function -/
noncomputable def plf (f : Int → C) : Fm := open Classical in if h : ∃ R, Pl R ∧ R.at = f then Classical.choose h else ⟨[none], [], 0, [none]⟩
theorem plf_of {f : Int → C} {R : Fm} (h : Pl R) (e : R.at = f) : plf f = R := by
  have hx : ∃ R, Pl R ∧ R.at = f := ⟨R, h, e⟩
  unfold plf
  rw [dif_pos hx]
  have := Classical.choose_spec hx
  exact this.1.uniq h (this.2.trans e.symm)
theorem Pl.plf {R : Fm} (h : Pl R) : Fw.plf R.at = R := plf_of h rfl
/-- a row's two tails -/
theorem Fm.tw {F : Fm} (h : F.Ok) : Tw F.at F.f F.e (leastLen F.l) (leastLen F.r) := by
  have h1 := ll_of (f := F.at) (b := F.f) h.l0 fun p hp => Fm.at_l hp
  have h2 := lr_of (f := F.at) (b := F.e) h.r0 fun p hp => by
    rw [Fm.at_r hp]
    congr 1
    unfold Fm.e
    omega
  exact ⟨by unfold Fm.e; omega, h1.1, h2.1, h1.2, h2.2⟩
theorem Fm.plf_spec {F : Fm} (h : F.Ok) : Pl (plf F.at) ∧ (plf F.at).at = F.at := by
  obtain ⟨R, h1, h2⟩ := (Fm.tw h).exists
  rw [plf_of h1 h2]
  exact ⟨h1, h2⟩
end Fw
namespace Fw
/-! ### where a plain row lies -/
theorem Tw.bounds {f : Int → C} {a b : Int} {l r : Nat} (t : Tw f a b l r) {R : Fm} (k : Pl R) (e : R.at = f) :
    R.l.length = l ∧ R.r.length = r ∧ (R.m.length : Int) ≤ b - a ∧ (R.Rnd ∨ (a - l - r < R.f ∧ R.e ≤ b ∧ (R.m = [] ∨ a ≤ R.f) ∧ f (R.e - 1) ≠ f (R.e - 1 + r))) := by
  have h1 : R.l.length = l := k.LLl.1.uniq (e ▸ t.ll)
  have h2 : R.r.length = r := k.LRr.1.uniq (e ▸ t.lr)
  have hab := t.ab
  refine ⟨h1, h2, ?_⟩
  rcases k.cs with c | ⟨c1, c2⟩
  · exact ⟨by rw [c.1]; simp; omega, .inl ⟨c.1, c.2.2⟩⟩
  · rw [h2, e] at c1
    rw [h1, e] at c2
    have q1 : R.e ≤ b := by
      by_cases z : b ≤ R.e - 1
      · exact absurd (t.pr _ z).symm c1
      · omega
    have q2 : a - l - r < R.e := by
      by_cases z : R.e - 1 < a - l - r
      · have hr := k.LRr.2
        rw [h2, e] at hr
        exact absurd (t.all (fun p hp => hr p (by omega)) _).symm c1
      · omega
    have q3 : R.m = [] ∨ a ≤ R.f := by
      rcases c2 with c2 | c2
      · exact .inl c2
      · by_cases z : R.f < a
        · exact absurd (t.pl _ z).symm c2
        · exact .inr (by omega)
    have q5 : R.e = R.f + (R.m.length : Int) := rfl
    have q4 : R.m = [] → R.f = R.e := fun z => by rw [q5, z]; simp
    have hl := t.ll.pos
    have hr := t.lr.pos
    refine ⟨?_, .inr ⟨?_, q1, q3, c1⟩⟩
    · rcases q3 with z | z
      · rw [z]; simp; omega
      · omega
    · rcases q3 with z | z
      · rw [q4 z]; exact q2
      · omega
theorem Tw.plf {f : Int → C} {a b : Int} {l r : Nat} (t : Tw f a b l r) : Pl (plf f) ∧ (plf f).at = f := by
  obtain ⟨R, h1, h2⟩ := t.exists
  rw [plf_of h1 h2]
  exact ⟨h1, h2⟩
/-- periods that are known, not the least ones -/
theorem tw_of {f : Int → C} {a b : Int} {L R : Nat} (ab : a ≤ b) (hL : 0 < L) (hR : 0 < R) (h1 : PL f a L) (h2 : PR f b R) :
    ∃ l r, l ∣ L ∧ r ∣ R ∧ Tw f a b l r := by
  have a1 := ll_of (cells_ne hL) (ringL hL h1)
  have a2 := lr_of (cells_ne hR) (ringR hR h2)
  exact ⟨_, _, a1.1.dv _ _ hL h1, a2.1.dv _ _ hR h2, ab, a1.1, a2.1, a1.2, a2.2⟩

/-! ### several rows at once -/
def lcmL (ns : List Nat) : Nat := ns.foldl Nat.lcm 1
theorem lcm_go {ns : List Nat} : ∀ {a : Nat}, (a ∣ ns.foldl Nat.lcm a) ∧ ∀ n ∈ ns, n ∣ ns.foldl Nat.lcm a := by
  induction ns with
  | nil => intro a; exact ⟨Nat.dvd_refl _, fun n h => by simp at h⟩
  | cons m ns ih =>
    intro a
    have h := ih (a := Nat.lcm a m)
    refine ⟨Nat.dvd_trans (Nat.dvd_lcm_left a m) h.1, fun n hn => ?_⟩
    rcases List.mem_cons.mp hn with rfl | hn
    · exact Nat.dvd_trans (Nat.dvd_lcm_right a _) h.1
    · exact h.2 n hn
theorem dvd_lcmL {ns : List Nat} {n : Nat} (h : n ∈ ns) : n ∣ lcmL ns := lcm_go.2 n h
theorem lcmL_dvd_go {N : Nat} {ns : List Nat} : ∀ {a : Nat}, a ∣ N → (∀ n ∈ ns, n ∣ N) → ns.foldl Nat.lcm a ∣ N := by
  induction ns with
  | nil => intro a h _; exact h
  | cons m ns ih =>
    intro a h h2
    exact ih (Nat.lcm_dvd h (h2 m List.mem_cons_self)) fun n hn => h2 n (List.mem_cons_of_mem _ hn)
theorem lcmL_dvd {N : Nat} {ns : List Nat} (h : ∀ n ∈ ns, n ∣ N) : lcmL ns ∣ N := lcmL_dvd_go (Nat.one_dvd _) h
theorem lcmL_pos {ns : List Nat} (h : ∀ n ∈ ns, 0 < n) : 0 < lcmL ns := by
  unfold lcmL
  have key : ∀ (ns : List Nat) (a : Nat), 0 < a → (∀ n ∈ ns, 0 < n) → 0 < ns.foldl Nat.lcm a := by
    intro ns
    induction ns with
    | nil => intro a h _; exact h
    | cons m ns ih =>
      intro a h h2
      exact ih _ (Nat.lcm_pos h (h2 m List.mem_cons_self)) fun n hn => h2 n (List.mem_cons_of_mem _ hn)
  exact key ns 1 Nat.one_pos h
theorem lcm_eq (m n : Nat) : m / Nat.gcd m n * n = Nat.lcm m n := by
  unfold Nat.lcm
  obtain ⟨k, hk⟩ := Nat.gcd_dvd_left m n
  by_cases h : Nat.gcd m n = 0
  · rw [h]; simp
  · have hg : 0 < Nat.gcd m n := Nat.pos_of_ne_zero h
    have e1 : m / Nat.gcd m n = k := Nat.div_eq_of_eq_mul_right hg hk
    rw [e1]
    have e2 : m * n = Nat.gcd m n * (k * n) := by rw [← Nat.mul_assoc, ← hk]
    exact (Nat.div_eq_of_eq_mul_right hg e2).symm
open Classical in
noncomputable def own (Fs : List Fm) : List Fm := Fs.filter fun F => decide (¬ F.Rnd)
def minD : List Int → Int
  | [] => 0
  | x :: xs => xs.foldl min x
def maxD : List Int → Int
  | [] => 0
  | x :: xs => xs.foldl max x
theorem foldl_min {xs : List Int} : ∀ {x : Int}, xs.foldl min x ≤ x ∧ (∀ y ∈ xs, xs.foldl min x ≤ y) ∧ (xs.foldl min x = x ∨ xs.foldl min x ∈ xs) := by
  induction xs with
  | nil => intro x; exact ⟨Int.le_refl _, fun y h => by simp at h, .inl rfl⟩
  | cons z xs ih =>
    intro x
    obtain ⟨h1, h2, h3⟩ := ih (x := min x z)
    have q1 := Int.min_le_left x z
    have q2 := Int.min_le_right x z
    refine ⟨Int.le_trans h1 q1, fun y hy => ?_, ?_⟩
    · rcases List.mem_cons.mp hy with rfl | hy
      · exact Int.le_trans h1 q2
      · exact h2 y hy
    · rcases h3 with h3 | h3
      · by_cases c : x ≤ z
        · left; show xs.foldl min (min x z) = x; rw [h3]; omega
        · right; show xs.foldl min (min x z) ∈ _; rw [h3]; exact List.mem_cons.mpr (.inl (by omega))
      · right; exact List.mem_cons_of_mem _ h3
theorem foldl_max {xs : List Int} : ∀ {x : Int}, x ≤ xs.foldl max x ∧ (∀ y ∈ xs, y ≤ xs.foldl max x) ∧ (xs.foldl max x = x ∨ xs.foldl max x ∈ xs) := by
  induction xs with
  | nil => intro x; exact ⟨Int.le_refl _, fun y h => by simp at h, .inl rfl⟩
  | cons z xs ih =>
    intro x
    obtain ⟨h1, h2, h3⟩ := ih (x := max x z)
    have q1 := Int.le_max_left x z
    have q2 := Int.le_max_right x z
    refine ⟨Int.le_trans q1 h1, fun y hy => ?_, ?_⟩
    · rcases List.mem_cons.mp hy with rfl | hy
      · exact Int.le_trans q2 h1
      · exact h2 y hy
    · rcases h3 with h3 | h3
      · by_cases c : z ≤ x
        · left; show xs.foldl max (max x z) = x; rw [h3]; omega
        · right; show xs.foldl max (max x z) ∈ _; rw [h3]; exact List.mem_cons.mpr (.inl (by omega))
      · right; exact List.mem_cons_of_mem _ h3
theorem minD_le {xs : List Int} {y : Int} (h : y ∈ xs) : minD xs ≤ y := by
  cases xs with
  | nil => simp at h
  | cons x xs =>
    rcases List.mem_cons.mp h with rfl | h
    · exact foldl_min.1
    · exact foldl_min.2.1 y h
theorem le_maxD {xs : List Int} {y : Int} (h : y ∈ xs) : y ≤ maxD xs := by
  cases xs with
  | nil => simp at h
  | cons x xs =>
    rcases List.mem_cons.mp h with rfl | h
    · exact foldl_max.1
    · exact foldl_max.2.1 y h
theorem minD_mem {xs : List Int} (h : xs ≠ []) : minD xs ∈ xs := by
  cases xs with
  | nil => exact absurd rfl h
  | cons x xs =>
    rcases (foldl_min (xs := xs) (x := x)).2.2 with e | e
    · exact List.mem_cons.mpr (.inl e)
    · exact List.mem_cons_of_mem _ e
theorem maxD_mem {xs : List Int} (h : xs ≠ []) : maxD xs ∈ xs := by
  cases xs with
  | nil => exact absurd rfl h
  | cons x xs =>
    rcases (foldl_max (xs := xs) (x := x)).2.2 with e | e
    · exact List.mem_cons.mpr (.inl e)
    · exact List.mem_cons_of_mem _ e
theorem minD_uniq {xs : List Int} {m : Int} (h1 : m ∈ xs) (h2 : ∀ y ∈ xs, m ≤ y) : minD xs = m := by
  have a := minD_le h1
  have b := h2 _ (minD_mem (List.ne_nil_of_mem h1))
  omega
theorem maxD_uniq {xs : List Int} {m : Int} (h1 : m ∈ xs) (h2 : ∀ y ∈ xs, y ≤ m) : maxD xs = m := by
  have a := le_maxD h1
  have b := h2 _ (maxD_mem (List.ne_nil_of_mem h1))
  omega
noncomputable def loF (Fs : List Fm) : Int := minD ((own Fs).map fun F => F.f)
noncomputable def hiF (Fs : List Fm) : Int := maxD ((own Fs).map fun F => F.e)
def lenL (Fs : List Fm) : Nat := lcmL (Fs.map fun F => F.l.length)
def lenR (Fs : List Fm) : Nat := lcmL (Fs.map fun F => F.r.length)
/-- what a rule tells of some rows -/
def wv (Fs : List Fm) (rule : List C → C) : Int → C := fun p => rule (Fs.map fun F => F.at p)
theorem mem_own {Fs : List Fm} {F : Fm} : F ∈ own Fs ↔ F ∈ Fs ∧ ¬ F.Rnd := by unfold own; rw [List.mem_filter]; simp
theorem lo_le_hi (Fs : List Fm) : loF Fs ≤ hiF Fs := by
  unfold loF hiF
  cases h : own Fs with
  | nil => simp [minD, maxD]
  | cons F t =>
    have a := minD_le (xs := (F :: t).map fun F => F.f) (y := F.f) (List.mem_map.mpr ⟨F, List.mem_cons_self, rfl⟩)
    have b := le_maxD (xs := (F :: t).map fun F => F.e) (y := F.e) (List.mem_map.mpr ⟨F, List.mem_cons_self, rfl⟩)
    have c : F.f ≤ F.e := by unfold Fm.e; omega
    omega
theorem PL.mulP {f : Int → C} {a n : Int} (h : PL f a n) (hn : 0 ≤ n) : ∀ q : Nat, PL f a ((q : Int) * n)
  | 0 => fun p _ => by simp
  | q + 1 => fun p hp => by
    have e : p - ((q + 1 : Nat) : Int) * n = (p - (q : Int) * n) - n := by rw [Int.natCast_add, Int.add_mul]; omega
    have z : 0 ≤ (q : Int) * n := Int.mul_nonneg (by omega) hn
    rw [e, h _ (by omega), PL.mulP h hn q p hp]
theorem PR.mulP {f : Int → C} {a n : Int} (h : PR f a n) (hn : 0 ≤ n) : ∀ q : Nat, PR f a ((q : Int) * n)
  | 0 => fun p _ => by simp
  | q + 1 => fun p hp => by
    have e : p + ((q + 1 : Nat) : Int) * n = (p + (q : Int) * n) + n := by rw [Int.natCast_add, Int.add_mul]; omega
    have z : 0 ≤ (q : Int) * n := Int.mul_nonneg (by omega) hn
    rw [e, h _ (by omega), PR.mulP h hn q p hp]
theorem PL.dvd {f : Int → C} {a : Int} {n N : Nat} (h : PL f a n) (d : n ∣ N) : PL f a N := by
  obtain ⟨q, rfl⟩ := d
  have := h.mulP (by omega) q
  rw [show ((n * q : Nat) : Int) = (q : Int) * (n : Int) by rw [Int.natCast_mul, Int.mul_comm]]
  exact this
theorem PR.dvd {f : Int → C} {a : Int} {n N : Nat} (h : PR f a n) (d : n ∣ N) : PR f a N := by
  obtain ⟨q, rfl⟩ := d
  have := h.mulP (by omega) q
  rw [show ((n * q : Nat) : Int) = (q : Int) * (n : Int) by rw [Int.natCast_mul, Int.mul_comm]]
  exact this
theorem lenL_pos {Fs : List Fm} (h : ∀ F ∈ Fs, Pl F) : 0 < lenL Fs := lcmL_pos fun n hn => by
  obtain ⟨F, hF, rfl⟩ := List.mem_map.mp hn
  exact List.length_pos_iff.mpr (h F hF).ok.l0
theorem lenR_pos {Fs : List Fm} (h : ∀ F ∈ Fs, Pl F) : 0 < lenR Fs := lcmL_pos fun n hn => by
  obtain ⟨F, hF, rfl⟩ := List.mem_map.mp hn
  exact List.length_pos_iff.mpr (h F hF).ok.r0
theorem each_pl {Fs : List Fm} (h : ∀ F ∈ Fs, Pl F) : ∀ F ∈ Fs, PL F.at (loF Fs) (lenL Fs) := fun F hF => by
  refine PL.dvd (n := F.l.length) (fun p hp => ?_) (dvd_lcmL (List.mem_map.mpr ⟨F, hF, rfl⟩))
  by_cases q : F.Rnd
  · have z := (h F hF).rnd_per q (p - F.r.length)
    rw [Int.sub_add_cancel] at z
    rw [q.2]
    exact z.symm
  · have z : loF Fs ≤ F.f := minD_le (List.mem_map.mpr ⟨F, mem_own.mpr ⟨hF, q⟩, rfl⟩)
    exact (h F hF).LLl.2 p (by omega)
theorem each_pr {Fs : List Fm} (h : ∀ F ∈ Fs, Pl F) : ∀ F ∈ Fs, PR F.at (hiF Fs) (lenR Fs) := fun F hF => by
  refine PR.dvd (n := F.r.length) (fun p hp => ?_) (dvd_lcmL (List.mem_map.mpr ⟨F, hF, rfl⟩))
  by_cases q : F.Rnd
  · exact (h F hF).rnd_per q p
  · have z : F.e ≤ hiF Fs := le_maxD (List.mem_map.mpr ⟨F, mem_own.mpr ⟨hF, q⟩, rfl⟩)
    exact (h F hF).LRr.2 p (by omega)
theorem wv_pl {Fs : List Fm} (h : ∀ F ∈ Fs, Pl F) (rule : List C → C) : PL (wv Fs rule) (loF Fs) (lenL Fs) := fun p hp => by
  unfold wv
  congr 1
  apply List.map_congr_left
  intro F hF
  exact each_pl h F hF p hp
theorem wv_pr {Fs : List Fm} (h : ∀ F ∈ Fs, Pl F) (rule : List C → C) : PR (wv Fs rule) (hiF Fs) (lenR Fs) := fun p hp => by
  unfold wv
  congr 1
  apply List.map_congr_left
  intro F hF
  exact each_pr h F hF p hp
/-- the woven row, with a middle of any length -/
noncomputable def sprd (Fs : List Fm) (rule : List C → C) : Fm :=
  ⟨cells (wv Fs rule) (loF Fs - lenL Fs) (lenL Fs), cells (wv Fs rule) (loF Fs) (hiF Fs - loF Fs).toNat, loF Fs, cells (wv Fs rule) (hiF Fs) (lenR Fs)⟩
theorem sprd_at {Fs : List Fm} (h : ∀ F ∈ Fs, Pl F) (rule : List C → C) : (sprd Fs rule).at = wv Fs rule :=
  at_cells (lenL_pos h) (lenR_pos h) (lo_le_hi Fs) (wv_pl h rule) (wv_pr h rule)
theorem sprd_ok {Fs : List Fm} (h : ∀ F ∈ Fs, Pl F) (rule : List C → C) : (sprd Fs rule).Ok := ⟨cells_ne (lenL_pos h), cells_ne (lenR_pos h)⟩
/-- the plain row of it: its wheels go into the common ones; it lies about where they lie -/
theorem wv_plf {Fs : List Fm} (h : ∀ F ∈ Fs, Pl F) (rule : List C → C) :
    Pl (plf (wv Fs rule)) ∧ (plf (wv Fs rule)).at = wv Fs rule ∧ (plf (wv Fs rule)).l.length ∣ lenL Fs ∧ (plf (wv Fs rule)).r.length ∣ lenR Fs ∧
    ((plf (wv Fs rule)).m.length : Int) ≤ hiF Fs - loF Fs ∧ ((plf (wv Fs rule)).Rnd ∨ (loF Fs - lenL Fs - lenR Fs < (plf (wv Fs rule)).f ∧ (plf (wv Fs rule)).e ≤ hiF Fs)) := by
  obtain ⟨l, r, d1, d2, t⟩ := tw_of (lo_le_hi Fs) (lenL_pos h) (lenR_pos h) (wv_pl h rule) (wv_pr h rule)
  obtain ⟨h1, h2⟩ := t.plf
  obtain ⟨e1, e2, e3, e4⟩ := t.bounds h1 h2
  have b1 := Nat.le_of_dvd (lenL_pos h) d1
  have b2 := Nat.le_of_dvd (lenR_pos h) d2
  refine ⟨h1, h2, by rw [e1]; exact d1, by rw [e2]; exact d2, e3, ?_⟩
  rcases e4 with e4 | ⟨e4, e5, _⟩
  · exact .inl e4
  · exact .inr ⟨by omega, e5⟩
/-- own windows within some bounds -/
def Win (lo hi : Int) (R : Fm) : Prop := R.Rnd ∨ (lo ≤ R.f ∧ R.e ≤ hi)
theorem win_lo {Fs : List Fm} {lo hi : Int} (h : ∀ F ∈ Fs, Win lo hi F) : hiF Fs - loF Fs ≤ max 0 (hi - lo) ∧ ((loF Fs = 0 ∧ hiF Fs = 0 ∧ ∀ F ∈ Fs, F.Rnd) ∨ (lo ≤ loF Fs ∧ hiF Fs ≤ hi)) := by
  by_cases q : own Fs = []
  · have e1 : loF Fs = 0 := by unfold loF; rw [q]; rfl
    have e2 : hiF Fs = 0 := by unfold hiF; rw [q]; rfl
    refine ⟨by omega, .inl ⟨e1, e2, fun F hF => ?_⟩⟩
    by_cases z : F.Rnd
    · exact z
    · have : F ∈ own Fs := mem_own.mpr ⟨hF, z⟩
      rw [q] at this; simp at this
  · have n1 : (own Fs).map (fun F => F.f) ≠ [] := fun z => q (List.map_eq_nil_iff.mp z)
    have n2 : (own Fs).map (fun F => F.e) ≠ [] := fun z => q (List.map_eq_nil_iff.mp z)
    obtain ⟨F, hF, e1⟩ := List.mem_map.mp (minD_mem n1)
    obtain ⟨G, hG, e2⟩ := List.mem_map.mp (maxD_mem n2)
    have a1 : loF Fs = F.f := e1.symm
    have a2 : hiF Fs = G.e := e2.symm
    rcases h F (mem_own.mp hF).1 with z | ⟨b1, _⟩
    · exact absurd z (mem_own.mp hF).2
    · rcases h G (mem_own.mp hG).1 with z | ⟨_, b2⟩
      · exact absurd z (mem_own.mp hG).2
      · exact ⟨by omega, .inr ⟨by omega, by omega⟩⟩
theorem win_wv {Fs : List Fm} {lo hi : Int} (h : ∀ F ∈ Fs, Pl F) (w : ∀ F ∈ Fs, Win lo hi F) (rule : List C → C) : Win (lo - lenL Fs - lenR Fs) hi (plf (wv Fs rule)) := by
  obtain ⟨p1, p2, p3, p4, p5, p6⟩ := wv_plf h rule
  rcases p6 with z | ⟨z1, z2⟩
  · exact .inl z
  · rcases (win_lo w).2 with ⟨e1, e2, e3⟩ | ⟨e1, e2⟩
    · left
      -- all come round: so does what is told
      have per : Per (wv Fs rule) (lenR Fs) := fun p => by
        unfold wv
        congr 1
        apply List.map_congr_left
        intro F hF
        have hp := ((h F hF).rnd_per (e3 F hF))
        obtain ⟨q, hq⟩ := dvd_lcmL (List.mem_map.mpr ⟨F, hF, rfl⟩ : F.r.length ∈ Fs.map fun F => F.r.length)
        have h2 := hp.mul q p
        rw [show ((q : Nat) : Int) * ((F.r.length : Nat) : Int) = ((lenR Fs : Nat) : Int) by unfold lenR; rw [hq, Int.natCast_mul, Int.mul_comm]] at h2
        exact h2
      rcases p1.cs with c | ⟨c1, _⟩
      · exact ⟨c.1, c.2.2⟩
      · rw [p2] at c1
        have := per_of_tailR (lenR_pos h) per (q := ((plf (wv Fs rule)).r.length : Int)) (b := (plf (wv Fs rule)).e) (fun p hp => by have := p1.LRr.2 p hp; rw [p2] at this; exact this)
        exact absurd (this _).symm c1
    · exact .inr ⟨by omega, by omega⟩
end Fw

/-! FwRules: rules that the hand layer lacks: ranges of any size, tuple * int, min and max with default=, count of flat items, C() without __init__, methods that may raise, an exception kept behind its suite. -/
namespace Fx
open PySem PySem.Spec PyProof.Rows L2

/-! ### ranges of any size -/
theorem turn_long {P : Program} {w : World} {K : PySem.W.Frag} {tg : Expr} (it : Addr) (lo : Int) (n : Nat) : Turn P w K tg (Itr lo n) [it] it (fun i h => IsLongIter h it (lo + (i : Nat) * 1) ((n : Int) - (i : Nat)) 1) where
  mem := by simp
  obj := fun i h st b hb => by
    have e : b = it := by simpa using hb
    subst e
    exact ⟨_, st, fun v z => by
      have z' : Data.fields _ = Data.cell v := z
      cases z'⟩
  keep := fun i h h' st k => k it (by simp) _ st
  item := by
    intro X hP hw hK hc i pins s σ H E I hf st hg
    subst hP hw hK
    obtain ⟨f0, f1, f2, f3, f4, f5⟩ := hf it (by simp)
    have W := Walks.longrange (prog := X.prog) (w := X.w) (I.ok.hd hc) it lo 1 n
    refine W.item i s _ _ hg st fun v h' tk hv st' kk => ?_
    obtain ⟨t, rfl⟩ := hv
    have I1 : Inv X pins σ H { s with heap := h', toks := tk } := I.turned (fun b o hb e => kk b o (by simpa using hb) e) f0 f1 f3 f4 f5
    refine ⟨_, rfl, go_of (s := { s with heap := h', toks := tk }) (n := "longrange_iterator") st' rfl rfl (by decide) ⟨.int (lo + i), H, I1, ⟨t, ?_⟩, ⟨rfl, rfl⟩, st', fun b hb => (hf b hb).1⟩⟩
    rw [Int.mul_one]
  done := by
    intro X hP hw hK hc i pins s σ H E I hf st hg
    subst hP hw hK
    obtain ⟨f0, f1, f2, f3, f4, f5⟩ := hf it (by simp)
    exact wpAny_pyNext_long_end (I.ok.hd hc) st (by have : n ≤ i := hg; omega) fun h' eb => ⟨rfl, I.turned (t' := s.toks) (fun b o hb e => eb b o hb e) f0 f1 f3 f4 f5⟩
  self := fun _ _ _ _ _ st h => wpAny_pyIter_longiter st h
section
variable {X : Cx} {tg : Expr}
theorem range_any {pins : List (Addr × Obj)} {σ : L2.St} {H : Hp} {s : Shared} {R : It → Hp → Prop} {E : Value → Shared → Prop} {lo hi : Int} {t u v : Tok} {tk : Nat} (I : Inv X pins σ H s)
    (q : R (Itr lo (hi - lo).toNat) H) : wpAny (model X.prog X.w) X.A (pyIter (.ref s.heap.objs.size)) (PIE X pins σ tg R) E { s with heap := s.heap.push { cls := .type "range", data := .fields #[.int lo t, .int hi u, .int 1 v] }, toks := tk } := by
  have I1 : Inv X pins σ H { s with heap := s.heap.push { cls := .type "range", data := .fields #[.int lo t, .int hi u, .int 1 v] }, toks := tk } := I.kept fun b o e => Heap.get?_push_of_some _ e
  have e1 : lo + ((0 : Nat) : Int) * 1 = lo := by simp
  have e2 : (((hi - lo).toNat : Nat) : Int) - ((0 : Nat) : Int) = Builtin.Range.rangeSize lo hi 1 := by rw [rangeSize_one]; split <;> omega
  cases hb : Builtin.Range.small lo hi 1 with
  | true =>
    refine wpAny_pyIter_range (IsRange.new ..) hb ?_
    refine ⟨(s.heap.push { cls := .type "range", data := .fields #[.int lo t, .int hi u, .int 1 v] }).objs.size, [(s.heap.push { cls := .type "range", data := .fields #[.int lo t, .int hi u, .int 1 v] }).objs.size], _, _, H, rfl,
      I1.kept (t' := tk) fun b o e => Heap.get?_push_of_some _ e, turn_range _ lo (hi - lo).toNat, ?_, fun b hb => ?_, q⟩
    · show IsRangeIter _ _ (lo + ((0 : Nat) : Int) * 1) ((((hi - lo).toNat : Nat) : Int) - ((0 : Nat) : Int)) 1
      rw [e1, e2]
      exact Heap.get?_push_size _ rfl
    · have e : b = (s.heap.push { cls := .type "range", data := .fields #[.int lo t, .int hi u, .int 1 v] }).objs.size := by simpa using hb
      subst e
      exact I1.fpOk (Nat.le_refl _) (I1.hok.fresh (Nat.le_refl _))
  | false =>
    refine wpAny_pyIter_longrange (IsRange.new ..) hb ?_
    refine ⟨(s.heap.push { cls := .type "range", data := .fields #[.int lo t, .int hi u, .int 1 v] }).objs.size, [(s.heap.push { cls := .type "range", data := .fields #[.int lo t, .int hi u, .int 1 v] }).objs.size], _, _, H, rfl,
      I1.kept (t' := tk) fun b o e => Heap.get?_push_of_some _ e, turn_long _ lo (hi - lo).toNat, ?_, fun b hb => ?_, q⟩
    · show IsLongIter _ _ (lo + ((0 : Nat) : Int) * 1) ((((hi - lo).toNat : Nat) : Int) - ((0 : Nat) : Int)) 1
      rw [e1, e2]
      exact Heap.get?_push_size _ rfl
    · have e : b = (s.heap.push { cls := .type "range", data := .fields #[.int lo t, .int hi u, .int 1 v] }).objs.size := by simpa using hb
      subst e
      exact I1.fpOk (Nat.le_refl _) (I1.hok.fresh (Nat.le_refl _))
def iAny1 (ta : TA) : TI := fun σ H R => ta σ H fun vs H1 => ∃ j : Int, vs = [.int j] ∧ R (Itr 0 j.toNat) H1
def iAny2 (ta : TA) : TI := fun σ H R => ta σ H fun vs H1 => ∃ i j : Int, vs = [.int i, .int j] ∧ R (Itr i (j - i).toNat) H1
theorem pi_any1 {a : Expr} {ta : TA} {p pos : Pos} (hg : Gl X "range") (hm : X.mg "range" = none) (ha : PA X [a] ta) (hs : starEach [a] X.env = [(false, eval a X.env)] := by rfl) : PI X tg (.Call (.Name "range" p) [a] [] pos) (iAny1 ta) := by
  refine ⟨fun pins s σ H R I h => ?_⟩
  refine Call_ (ld_blt I hg hm boot_range (PyProof.Rows.callWith_type1 (thn (ha.run pos pins s σ H _ I h) fun us s1 ⟨vs, H1, I1, r1, q1⟩ => ?_) hs rfl))
  obtain ⟨j, e, q⟩ := q1
  subst e
  cases r1 with
  | cons r rr =>
    cases rr
    obtain ⟨t, rfl⟩ := r
    exact call_range_1 (range_any I1 (by simpa using q))
theorem pi_any2 {a b : Expr} {ta : TA} {p pos : Pos} (hg : Gl X "range") (hm : X.mg "range" = none) (ha : PA X [a, b] ta) (hs : starEach [a, b] X.env = [(false, eval a X.env), (false, eval b X.env)] := by rfl) (hs2 : starEach [b] X.env = [(false, eval b X.env)] := by rfl) :
    PI X tg (.Call (.Name "range" p) [a, b] [] pos) (iAny2 ta) := by
  refine ⟨fun pins s σ H R I h => ?_⟩
  refine Call_ (ld_blt I hg hm boot_range (PyProof.Rows.callWith_type1 (thn (ha.run pos pins s σ H _ I h) fun us s1 ⟨vs, H1, I1, r1, q1⟩ => ?_) (by rw [hs, hs2]) (by rw [hs2]; rfl)))
  obtain ⟨i, j, e, q⟩ := q1
  subst e
  cases r1 with
  | cons r rr =>
    cases rr with
    | cons r' rr =>
      cases rr
      obtain ⟨t, rfl⟩ := r
      obtain ⟨t', rfl⟩ := r'
      exact call_range_2 (range_any I1 q)

/-! ### tuple * int -/
def rRepA (K : PySem.W.Frag) : R2 := fun x y H Q => ∃ l k xs, x = .ref l ∧ y = .int k ∧ SqT K H l xs ∧ xs ≠ [] ∧ 2 ≤ k ∧ k ≤ 1000000 ∧ xs.length * k.toNat ≤ 1000000 ∧ ∀ p, H p = none → Q (.ref p) (upd H p (.tup (List.replicate k.toNat xs).flatten))
theorem op_repA : OpR X (binaryOp .Mult) (rRepA X.K) := by
  intro pins s σ H x y v u Q I rx ry h
  obtain ⟨l, k, xs, rfl, rfl, hT, hne, h1, h2, hz, q⟩ := h
  cases rx
  obtain ⟨t, rfl⟩ := ry
  obtain ⟨its, r, ⟨⟨cls, dd, data, sl⟩, ho, hc, n, hd⟩, hs⟩ := I.tuple hT
  simp only at hc hd
  subst hc hd
  have hle : its.length = xs.length := r.length.symm
  have hn : its ≠ [] := fun e => hne (by
    rw [e] at hle
    exact List.eq_nil_of_length_eq_zero hle.symm)
  have hi : its.toArray.isEmpty = false := by
    cases its with
    | nil => exact absurd rfl hn
    | cons a b => rfl
  have hsz0 : its.toArray.size = xs.length := by rw [List.size_toArray, hle]
  have hm : ((its.toArray.size : Nat) : Int) * k ≤ 1000000 := by
    rw [hsz0]
    have a1 : ((xs.length : Nat) : Int) * k = ((xs.length * k.toNat : Nat) : Int) := by rw [Int.natCast_mul, Int.toNat_of_nonneg (by omega)]
    omega
  have hz2 : k.toNat * xs.length ≤ 1000000 := by rw [Nat.mul_comm]; exact hz
  have flen : (List.replicate k.toNat its).flatten.length ≤ sizeLine := by
    rw [PyProof.Rows.lm_len_rep_flat, hle, sizeLine_eq]
    omega
  have c0 : (decide (k < -(2 ^ 63)) || decide (k ≥ 2 ^ 63)) = false := by
    rw [decide_eq_false (by omega), decide_eq_false (by omega)] <;> rfl
  have c1 : (its.toArray.isEmpty || k == 1) = false := by
    rw [hi, Bool.false_or]
    exact beq_eq_false_iff_ne.mpr (by omega)
  have c2 : (decide (k ≤ 0) || its.toArray.isEmpty) = false := by
    rw [hi, Bool.or_false]
    exact decide_eq_false (by omega)
  have c4 : Builtin.Tuple.tupleTooMany (((its.toArray.size : Nat) : Int) * k) = false := by
    unfold Builtin.Tuple.tupleTooMany
    rw [sizeLine_eq]
    exact decide_eq_false (by omega)
  refine wpAny_binaryOp_repeat_ref (T := "tuple") (U := "int") (by decide) ⟨_, ho, rfl⟩ (fun s' => typeIs_int s' k t) noFill_tuple_mul F.fills_int_mul F.slot_int_rmul repeat_tuple F.slot_int_index.lookup
    (call_meets F.slot_int_rmul (typeIs_int s k t) F.entry_int_rmul (F.args_int_rmul_2 _ _) (int_rmul_tuple k t l its.toArray n dd sl)
      ⟨ho, rfl, ⟨_, ho, rfl⟩, call_meets F.slot_tuple_mul ⟨_, ho, rfl⟩ F.entry_tuple_mul (F.args_tuple_mul_2 _ _) (tuple_mulW l its.toArray n dd sl k t c0 c1 c2 (by omega) c4 (by rw [size_rep, List.size_toArray]; exact flen)) ⟨ho, ?_⟩⟩)
  rw [size_rep]
  refine ⟨.ref s.heap.objs.size, _, I.laid (t' := s.toks) (o := .tup (List.replicate k.toNat xs).flatten) (fun b ob q => Heap.get?_push_of_some _ q) (Nat.le_refl _) ?_, rfl, q _ (I.hok.fresh (Nat.le_refl _))⟩
  exact ⟨by rw [PyProof.Rows.lm_len_rep_flat, sizeLine_eq]; omega, _, r.rep k.toNat, IsTup.new _ _⟩

/-! ### xs.count(y), flat items -/
def rCntV (K : PySem.W.Frag) : V → List V → Hp → VK → Prop := fun x xs H Q => ∃ (p : Addr) (ys : List V) (y : V), x = .ref p ∧ xs = [y] ∧ SqL K H p ys ∧ flatV y = true ∧ ys.all flatV = true ∧ Q (.int (ys.countP fun z => eqV z y : Nat)) H
theorem count_eqU {x : V} : ∀ {xs : List V} {us : List Value}, Vals xs us → xs.all flatV = true → us.countP (eqU x) = xs.countP fun y => eqV y x
  | _, _, .nil, _ => rfl
  | y :: xs, u :: us, .cons r t, f => by
    rw [List.all_cons, Bool.and_eq_true] at f
    rw [List.countP_cons, List.countP_cons, eqU_of r f.1, count_eqU t f.2]
theorem mt_count : MtR X "list.count" (rCntV X.K) := by
  intro pins s σ H x xs v us Q I rx rxs h
  obtain ⟨p, ys, y, rfl, rfl, hs, fy, fs, q⟩ := h
  cases rx
  obtain ⟨u, rfl, ru⟩ := rxs.one
  obtain ⟨its, rv, ⟨⟨cls, dd, data, sl⟩, n, ho, hc, hdn, hd⟩, hlen⟩ := I.list hs
  simp only at hc hd
  subst hc hd
  refine call_meets PySem.F.slot_list_count ⟨_, ho, rfl⟩ PySem.F.entry_list_count (PySem.F.args_list_count_2 _ _)
    (SeqAt.list_countAt p its.toArray n dd sl u (eqU y)) ⟨ho, fun z hz => mem_eqAt ru fy rv fs z (by simpa using hz), ?_⟩
  have ec : its.toArray.toList.countP (eqU y) = ys.countP fun z => eqV z y := by
    rw [show its.toArray.toList = its by simp]
    exact count_eqU rv fs
  refine ⟨.int (ys.countP fun z => eqV z y : Nat), H, I.tok _, ⟨s.toks, ?_⟩, q⟩
  rw [ec]

/-! ### min(xs, default=0), max(..) of ints -/
def mnD : List Int → Int
  | [] => 0
  | x :: xs => xs.foldl min x
def mxD : List Int → Int
  | [] => 0
  | x :: xs => xs.foldl max x
theorem alike_ints (ns : List Int) : PySem.W.AlikeAll (ns.map PyData.int) := by
  refine ⟨fun x hx y hy => ?_, fun x hx => ?_⟩
  · obtain ⟨i, _, rfl⟩ := List.mem_map.mp hx
    obtain ⟨j, _, rfl⟩ := List.mem_map.mp hy
    rfl
  · obtain ⟨i, _, rfl⟩ := List.mem_map.mp hx
    intro z
    cases z
theorem depth_ints (ns : List Int) : PyData.depthAll (ns.map PyData.int) ≤ 1 := by
  induction ns with
  | nil => decide
  | cons n ns ih =>
    show max (PyData.depth (.int n)) (PyData.depthAll (ns.map PyData.int)) ≤ 1
    have h : PyData.depth (.int n) ≤ 1 := by first | decide | exact Nat.zero_le _ | simp [PyData.depth]
    omega
theorem reads_ints {h : Heap} : ∀ {ns : List Int} {us : List Value}, Vals (ns.map V.int) us → ∃ as, ReadsAll h us (ns.map PyData.int) as
  | [], [], _ => ⟨_, .nil⟩
  | n :: ns, u :: us, .cons r t => by
    obtain ⟨as, q⟩ := reads_ints (h := h) t
    obtain ⟨t', rfl⟩ := r
    exact ⟨_, .cons (Reads.int n t') q⟩
theorem reads_int_inv {h : Heap} {v : Value} {i : Int} {as : List Addr} (r : Reads h v (.int i) as) : ∃ t, v = .int i t := by
  cases r
  exact ⟨_, rfl⟩
def tMinD (K : PySem.W.Frag) (b : Bool) (ta : TE) : TE := fun σ H Q => ta σ H fun x H1 => ∃ (a : Addr) (ns : List Int), [x] = [V.ref a] ∧ SqL K H1 a (ns.map V.int) ∧ Q (.int (if b then mnD ns else mxD ns)) H1
theorem minD_call (hc : X.calm = true) (hu : X.A.units + 2 < cLine) {pins : List (Addr × Obj)} {s : Shared} {σ : L2.St} {H : Hp} {a : Addr} {ns : List Int} {t : Tok} {Q : VK} (I : Inv X pins σ H s) (hs : SqL X.K H a (ns.map V.int)) (q : Q (.int (mnD ns)) H) :
    wpAny (model X.prog X.w) X.A (call (.builtin "min") [.ref a] [(Str.ofString "default", .int 0 t)]) (EP X pins σ Q) X.xe s := by
  obtain ⟨its, r, p, hz⟩ := I.list hs
  obtain ⟨as, hr⟩ := reads_ints (h := s.heap) r
  refine PySem.W.min_list_default (I.ok.hd hc) p.isList (by simpa using hr) (alike_ints ns) (by have := depth_ints ns; omega) (fun e h' tk k => ?_) fun y ys i v h' tk bs e hv hR k => ?_
  · have e' : ns = [] := List.map_eq_nil_iff.mp e
    subst e'
    exact ⟨.int 0, H, I.kept k, ⟨t, rfl⟩, q⟩
  · cases ns with
    | nil => cases e
    | cons n ns =>
      rw [List.map_cons] at e
      injection e with e1 e2
      subst e1 e2
      rw [PySem.W.minD_ints] at hR
      obtain ⟨t', rfl⟩ := reads_int_inv hR
      exact ⟨.int (ns.foldl min n), H, I.kept k, ⟨t', rfl⟩, q⟩
theorem maxD_call (hc : X.calm = true) (hu : X.A.units + 2 < cLine) {pins : List (Addr × Obj)} {s : Shared} {σ : L2.St} {H : Hp} {a : Addr} {ns : List Int} {t : Tok} {Q : VK} (I : Inv X pins σ H s) (hs : SqL X.K H a (ns.map V.int)) (q : Q (.int (mxD ns)) H) :
    wpAny (model X.prog X.w) X.A (call (.builtin "max") [.ref a] [(Str.ofString "default", .int 0 t)]) (EP X pins σ Q) X.xe s := by
  obtain ⟨its, r, p, hz⟩ := I.list hs
  obtain ⟨as, hr⟩ := reads_ints (h := s.heap) r
  refine PySem.W.max_list_default (I.ok.hd hc) p.isList (by simpa using hr) (alike_ints ns) (by have := depth_ints ns; omega) (fun e h' tk k => ?_) fun y ys i v h' tk bs e hv hR k => ?_
  · have e' : ns = [] := List.map_eq_nil_iff.mp e
    subst e'
    exact ⟨.int 0, H, I.kept k, ⟨t, rfl⟩, q⟩
  · cases ns with
    | nil => cases e
    | cons n ns =>
      rw [List.map_cons] at e
      injection e with e1 e2
      subst e1 e2
      rw [PySem.W.maxD_ints] at hR
      obtain ⟨t', rfl⟩ := reads_int_inv hR
      exact ⟨.int (ns.foldl max n), H, I.kept k, ⟨t', rfl⟩, q⟩
theorem pe_minD {e : Expr} {te : TE} {p pos kp cp : Pos} {j : Nat} (hc : X.calm = true) (hu : X.A.units + 2 < cLine) (hg : Gl X "min") (hm : X.mg "min" = none) (he : PE X e te)
    (hse : starEach [e] X.env = (false, eval e X.env) :: starEach [] X.env := by rfl) (hs : backTo pos (starEach [e] X.env) = (false, eval e X.env) :: backTo pos (starEach [] X.env) := by rfl) (hpl : (backTo pos (starEach [e] X.env)).any (·.1) = false := by rfl) :
    PE X (.Call (.Name "min" p) [e] [⟨some "default", .Constant (.int 0) j cp, kp⟩] pos) (tMinD X.K true te) := by
  refine ⟨fun pins s σ H Q I h => ?_⟩
  refine wpAny_Call_Name_kw (ld_blt I hg hm (show bootBuiltins "min" = some (.builtin "min") by decide +kernel) (PyProof.Rows.callWith_kw (thn ((pa_cons he pa_nil hse).run pos pins s σ H (fun vs H1 => ∃ (a : Addr) (ns : List Int), vs = [.ref a] ∧ SqL X.K H1 a (ns.map V.int) ∧ Q (.int (mnD ns)) H1) I ?_) fun us s1 ⟨vs, H1, I1, r1, a, ns, e1, q1, q2⟩ => ?_) hs hpl rfl rfl))
  · show te σ H _
    exact h
  · subst e1
    cases r1 with
    | cons r rr =>
      cases rr
      cases r
      refine thn ((pk_cons (nm := some "default") (kpos := kp) pe_int pk_nil : PK X [⟨some "default", .Constant (.int 0) j cp, kp⟩] _).run pos pins s1 σ H1 (fun vs H2 => vs = [.int 0] ∧ H2 = H1) I1 ⟨rfl, rfl⟩) fun ws s2 ⟨zs, H2, I2, r2, e2, e3⟩ => ?_
      subst e2 e3
      cases r2 with
      | cons r rr =>
        cases rr
        obtain ⟨t, rfl⟩ := r
        exact minD_call hc hu I2 q1 q2
theorem pe_maxD {e : Expr} {te : TE} {p pos kp cp : Pos} {j : Nat} (hc : X.calm = true) (hu : X.A.units + 2 < cLine) (hg : Gl X "max") (hm : X.mg "max" = none) (he : PE X e te)
    (hse : starEach [e] X.env = (false, eval e X.env) :: starEach [] X.env := by rfl) (hs : backTo pos (starEach [e] X.env) = (false, eval e X.env) :: backTo pos (starEach [] X.env) := by rfl) (hpl : (backTo pos (starEach [e] X.env)).any (·.1) = false := by rfl) :
    PE X (.Call (.Name "max" p) [e] [⟨some "default", .Constant (.int 0) j cp, kp⟩] pos) (tMinD X.K false te) := by
  refine ⟨fun pins s σ H Q I h => ?_⟩
  refine wpAny_Call_Name_kw (ld_blt I hg hm (show bootBuiltins "max" = some (.builtin "max") by decide +kernel) (PyProof.Rows.callWith_kw (thn ((pa_cons he pa_nil hse).run pos pins s σ H (fun vs H1 => ∃ (a : Addr) (ns : List Int), vs = [.ref a] ∧ SqL X.K H1 a (ns.map V.int) ∧ Q (.int (mxD ns)) H1) I ?_) fun us s1 ⟨vs, H1, I1, r1, a, ns, e1, q1, q2⟩ => ?_) hs hpl rfl rfl))
  · show te σ H _
    exact h
  · subst e1
    cases r1 with
    | cons r rr =>
      cases rr
      cases r
      refine thn ((pk_cons (nm := some "default") (kpos := kp) pe_int pk_nil : PK X [⟨some "default", .Constant (.int 0) j cp, kp⟩] _).run pos pins s1 σ H1 (fun vs H2 => vs = [.int 0] ∧ H2 = H1) I1 ⟨rfl, rfl⟩) fun ws s2 ⟨zs, H2, I2, r2, e2, e3⟩ => ?_
      subst e2 e3
      cases r2 with
      | cons r rr =>
        cases rr
        obtain ⟨t, rfl⟩ := r
        exact maxD_call hc hu I2 q1 q2

/-! ### C() of a class without __init__ -/
structure Mk0 (K : PySem.W.Frag) (C : Addr) : Prop where
  makes : PySem.W.makesIn K C = true
  init : PySem.W.findIn K (.ref C) "__init__" = some (some (.builtin "object.__init__"))
  kp : PySem.W.keepIn K (.ref C) = true
def tNew0 (C : Addr) : TE := fun _ H Q => ∀ x dx, H x = none → H dx = none → dx ≠ x → Q (.ref x) (upd (upd H dx (.own x)) x (.ins C dx []))
theorem run_new0 {pins : List (Addr × Obj)} {σ : L2.St} {H : Hp} {s : Shared} {Q : VK} {C : Addr} (M : Mk0 X.K C) (I : Inv X pins σ H s) (h : tNew0 C σ H Q) :
    wpAny (model X.prog X.w) X.A (call (.ref C) []) (EP X pins σ Q) X.xe s := by
  have hq := h (s.heap.objs.size + 1) s.heap.objs.size (I.hok.fresh (Nat.le_succ _)) (I.hok.fresh (Nat.le_refl _)) (Nat.ne_of_lt (Nat.lt_succ_self _))
  have I2 := Inv.made (C := C) I
  refine wpAny_call (make_map0 I.kIn M.makes M.init (fun self => PySem.W.Looks.of_pure (PySem.W.oi_bind self)) ?_)
  have hx : ((s.heap.push PySem.W.emptyDict).push (PySem.W.instObj C s.heap.objs.size)).get? (s.heap.objs.size + 1) = some (PySem.W.instObj C s.heap.objs.size) := by
    have := Heap.get?_push_size (s.heap.push PySem.W.emptyDict) (o := PySem.W.instObj C s.heap.objs.size) rfl
    rwa [Heap.size_push] at this
  have Y := PySem.W.makes_of (M := model X.prog X.w) I.kIn M.makes
  have t1 : PySem.W.Looks (model X.prog X.w) ((s.heap.push PySem.W.emptyDict).push (PySem.W.instObj C s.heap.objs.size)) (typeOf (.ref (s.heap.objs.size + 1))) (.ref C) := (PySem.W.Looks.ld hx).andThen .now
  have t2 : PySem.W.Looks (model X.prog X.w) ((s.heap.push PySem.W.emptyDict).push (PySem.W.instObj C s.heap.objs.size)) (isInstance (.ref (s.heap.objs.size + 1)) (.type "object")) true :=
    t1.andThen (Y.top.keeps fun b o e => Heap.get?_push_of_some _ (Heap.get?_push_of_some _ e))
  obtain ⟨hh, g, d, t, os⟩ := s
  refine codeAny_call_builtin PySem.W.oi_plain PySem.W.entry_oi (@PySem.W.check_slot (model X.prog X.w) _ _ _ "object.__init__" "object" "__init__" (.ref (hh.objs.size + 1)) [] [] _ PySem.W.oi_kind PySem.W.oi_split t2 (PySem.W.oi_args (.ref (hh.objs.size + 1))) ?_)
  rw [PySem.W.oi_run]
  exact wpAny_pure (And.intro rfl ⟨V.ref (hh.objs.size + 1), _, I2, rfl, hq⟩)
theorem pe_new0 {C : Addr} {x : Str} {p pos : Pos} (M : Mk0 X.K C) (hg : Gl X x) (hm : X.mg x = some (.ref C)) (hdb : (x == ("__debug__" : Str)) = false := by decide) : PE X (.Call (.Name x p) [] [] pos) (tNew0 C) := by
  refine ⟨fun pins s σ H Q I h => ?_⟩
  refine wpAny_Call_Name_kw (ld_glob I hg hm ?_ hdb)
  exact PySem.W.callWith_K0 I.kIn M.kp (run_new0 M I h)

/-! ### methods, by a wish that knows the slots -/
section
variable {CX : CXT} {k : Nat} {f C : Addr} {fd : FuncData} {ps : List Str} {sp : Sp} {dvs : List V} {ds : List Value} {E : L2.St → XK} {x m : Str} {p pos apos : Pos} {e o : Expr} {es : List Expr} {ta : TE} {t : TA}
def tMethW (C : Addr) (m : Str) (sp : Sp) (dvs : List V) (E : L2.St → XK) (ta : TE) (t : TA) : TE := fun σ H Q => ta σ H fun x H1 => ∃ a dx fs, x = .ref a ∧ H1 a = some (.ins C dx fs) ∧ fs.lookup m = none ∧
  t σ H1 fun vs H2 => sp (x :: (vs ++ dvs)) H2 Q (E σ)
theorem run_fnW {pins : List (Addr × Obj)} {σ : L2.St} {H : Hp} {s : Shared} {Q : VK} {us : List Value} {vs : List V} (F : FnOk X.prog X.w X.K X.mg X.base CX k f fd ps sp) (hr : Room k X.A) (hb : Binds X.K fd ps ds) (hd : Vals dvs ds) (hx : PassesAt CX X σ (E σ))
    (I : Inv X pins σ H s) (r : Vals vs us) (h : sp (vs ++ dvs) H Q (E σ)) : wpAny (model X.prog X.w) X.A (call (.ref f) us) (EP X pins σ Q) X.xe s := by
  have r2 : Vals (vs ++ dvs) (us ++ ds) := r.append hd
  have hl : (us ++ ds).length = ps.length := by rw [← r2.length]; exact F.len _ _ _ _ h
  refine wpAny_call (codeAny_mono (F.run X.A X.stack s H ⟨us, []⟩ (us ++ ds) (vs ++ dvs) Q (E σ) hr I.env0 (hb s us I.kIn hl) r2 h) fun r s' hq => ?_)
  cases r with
  | error e => exact hx pins H s e s' I hq
  | ok fl =>
    cases fl with
    | ret u => exact I.after hq
    | next => exact False.elim hq
    | brk => exact False.elim hq
    | cont => exact False.elim hq
theorem pe_methW {pl : Sem Bool} (he : PE X o ta) (c : Cls X.K C) (hm : Meth X.K C m f) (F : FnOk X.prog X.w X.K X.mg X.base CX k f fd ps sp) (hr : Room k X.A) (hb : Binds X.K fd ps ds) (hd : Vals dvs ds) (hx : ∀ σ, PassesAt CX X σ (E σ)) (ha : PA X (e :: es) t)
    (hst : starEach (e :: es) X.env = (false, eval e X.env) :: starEach es X.env := by rfl) (hpl : (backTo pos (starEach es X.env)).any (·.1) = false := by rfl)
    (ht : eval (.Call (.Attribute o m apos) (e :: es) [] pos) X.env = (do
      let ov ← eval o X.env
      standAt apos.atName
      let (f, first) ← holding [ov] (getMethod ov m pl)
      callWith pos f first (backTo pos (starEach (e :: es) X.env)) (backToKw pos (keywordEach [] X.env))) := by rfl) :
    PE X (.Call (.Attribute o m apos) (e :: es) [] pos) (tMethW C m sp dvs E ta t) := by
  refine ⟨fun pins s σ H Q I h => ?_⟩
  refine PySem.W.methodCall_KW (pl := pl) (thn (he.run pins s σ H _ I h) fun u s1 ⟨x, H1, I1, rx, a, dx, fs, ex, ea, l, q⟩ => ?_) ht
  subst ex
  obtain rfl : u = Value.ref a := rx
  refine getmeth_ok I1 ea c hm l ?_
  refine PySem.W.callWith_K (first := [.ref a]) (h₀ := X.base) I.ok.mod.kin hm.kp (thn (ha.run pos pins s1 σ H1 _ I1 q) fun us s2 ⟨vs, H2, I2, r, q2⟩ => ⟨I2.kIn, ?_⟩) hst hpl
  exact run_fnW (us := .ref a :: us) (vs := .ref a :: vs) F hr hb hd (hx σ) I2 (.cons rfl r) q2
end
end
end Fx

/-! FwExc: an exception that is kept behind its suite: from the catch on it is tracked. -/
namespace Fx
open PySem PySem.Spec PyProof.Rows L2
def ExcAt (a C : Addr) : Heap → Prop := fun h => ∃ oe vs, h.get? a = some oe ∧ Zc (.ref C) none oe ∧ oe.data = .fields vs
section
variable {X : Cx} {pins : List (Addr × Obj)} {σ : L2.St} {H : Hp} {s : Shared}
theorem inv_track {a C : Addr} (I : Inv X pins σ H s) (he : ExcAt a C s.heap) (na : H a = none) (nL : a ≠ X.env.locals) (n0 : X.s_0.heap.get? a = none) (np : ∀ p ∈ X.pn ++ pins, p.1 ≠ a) :
    Inv X pins σ (upd H a (.ext (ExcAt a C))) s := by
  obtain ⟨oe, vs, h1, h2, h3⟩ := id he
  have old : ∀ b u, H b = some u → upd H a (.ext (ExcAt a C)) b = some u := fun b u e => by rw [upd_ne (ne_of_none e na)]; exact e
  refine ⟨I.ok, I.os, I.bare, ⟨I.base.keep, I.base.slot, fun b o e n hx => ?_, I.base.there, fun b xs e => old _ _ (I.base.tups b xs e), fun b o u e => old _ _ (I.base.frzs b o u e), fun b ps e => ?_⟩, I.loc, I.cell, ?_, fun x c e => ?_, fun p hp => ?_, fun b u e => ?_, I.len⟩
  · have : b ≠ a := fun z => by rw [z, n0] at e; cases e
    rw [upd_ne this]
    exact I.base.free b o e n hx
  · obtain ⟨m, q⟩ := I.base.tbls b ps e
    exact ⟨m, old _ _ q⟩
  · rw [upd_ne (Ne.symm nL)]
    exact I.free
  · have : c ≠ a := fun z => by
      obtain ⟨v, o, q1, q2⟩ := I.cell x c e
      rw [z, h1] at q1
      cases q1
      rw [h3] at q2
      cases q2
    rw [upd_ne this]
    exact I.freeC x c e
  · obtain ⟨e, n, ne, nf, d⟩ := I.pin p hp
    exact ⟨e, by rw [upd_ne (np p hp)]; exact n, ne, nf, d⟩
  · by_cases hb : b = a
    · subst hb
      rw [upd_same] at e
      cases e
      refine ⟨he, ⟨oe, h1⟩, fun g1 g2 q k => ?_⟩
      obtain ⟨o, ws, e1, e2, e3⟩ := q
      exact ⟨o, ws, k _ e1, e2, e3⟩
    · rw [upd_ne hb] at e
      exact (I.hok b u e).stay (fun c v _ q => q) (fun c q => old _ _ q) fun c xs q => old _ _ q
/-- the context of a suite whose exception is tracked -/
abbrev Cx.suiteT (X : Cx) (a : Addr) (pn : List (Addr × Obj)) : Cx := { X with A := X.A.mark (some (.ref a)), calm := false, pn := pn, xe := fun _ _ => False }
theorem ok_suiteT {X : Cx} (ok : X.Ok) (a : Addr) (pn : List (Addr × Obj)) : (Cx.suiteT X a pn).Ok :=
  ⟨ok.mod, ok.kind, ok.glob, ok.blt, ok.above, ok.inj, ok.has, ok.cab, (fun z => absurd (show false = true from z) Bool.false_ne_true), ok.frames, ok.stk, ok.exf, ok.bs, ok.bsz, ok.noex, ok.exfs, ok.funs, ok.frf⟩
theorem inv_suiteT (I : Inv X pins σ H s) (a : Addr) : Inv (Cx.suiteT X a (X.pn ++ pins)) [] σ H s :=
  ⟨ok_suiteT I.ok _ _, I.os, I.bare, I.base, I.loc, I.cell, I.free, I.freeC, fun p hp => I.pin p (by rw [List.append_nil] at hp; exact hp), I.hok, I.len⟩
theorem inv_unsuiteT {a : Addr} {pn' : List (Addr × Obj)} (I : Inv (Cx.suiteT X a (X.pn ++ pins)) pn' σ H s) (ok : X.Ok) : Inv X pins σ H s :=
  ⟨ok, I.os, I.bare, I.base, I.loc, I.cell, I.free, I.freeC, fun p hp => I.pin p (List.mem_append_left _ hp), I.hok, I.len⟩
end
/-- what the clause 'except x as n' wishes: an own exception without a dict, that the clause takes; the suite finds it tracked -/
def wAsT (K : PySem.W.Frag) (c : Value) (i : Nat) (ts : TS) (D : Ends) : WX := fun cls d σ H =>
  ∃ C, cls = .ref C ∧ d = none ∧ PySem.W.exmOne K cls c = some true ∧ ∀ a, H a = none → ts { nx := fun σ' H' => D.nx (σ'.set i none) H', rt := D.rt, bk := fun σ' H' => D.bk (σ'.set i none) H', ct := fun σ' H' => D.ct (σ'.set i none) H' } (σ.set i (some (.ref a))) (upd H a (.ext (ExcAt a C)))
section
variable {X : Cx} {x n : Str} {c : Value} {i : Nat} {body suite : List Stmt} {b_0 : Stmt} {np pos pos' : Pos} {tb : WX → TS} {ts : TS}
theorem ps_try_asT (hs : X.stack = X.env :: X.outer) (hf : X.env.frame = some X.env.locals) (hex : X.ex = []) (hN : X.N.Nodup) (hi : X.N[i]? = some n) (hln : X.env.kindOf n = some .local) (hc : Names X x c)
    (hb : ∀ (W : WX) (pn : List (Addr × Obj)) (xe : Value → Shared → Prop), Takes (X.tr pn xe) W → PassesOwn (model X.prog X.w) X.A X.env xe → PSs (X.tr pn xe) body (tb W))
    (hsu : ∀ (a : Addr) (pn : List (Addr × Obj)), PSs (Cx.suiteT X a pn) (b_0 :: suite) ts) :
    PS X (.Try body [.ExceptHandler (some (.Name x np)) (some n) (b_0 :: suite) pos'] [] [] pos) (fun D σ H => tb (wAsT X.K c i ts D) D σ H) := by
  refine ⟨fun pins s σ H D I h => ?_⟩
  have ok := I.ok
  have hfr : X.A.frames = some (X.env :: X.outer) := by rw [ok.frames, hs]
  have hloc : Loc X.env.scope n := .inl hln
  refine wpAny_Try_except ?_
  refine wpAny_mono ((hb (wAsT X.K c i ts D) (X.pn ++ pins) (fun e s₁ => wpAny (model X.prog X.w) X.A (noteFrame e X.env) (fun _ s₂ => wpAny (model X.prog X.w) X.A (setFlight e none) (fun _ s₃ =>
    wpAny (model X.prog X.w) X.A (handleBy e X.env [.ExceptHandler (some (.Name x np)) (some n) (b_0 :: suite) pos']) (SP X pins D) X.xe s₃) X.xe s₂) X.xe s₁) (fun u s' xx => ?_) PassesOwn.looking).run [] s σ H D (I.toTry _) h) (fun f s1 hsp => ?_) (fun e s1 he => he)
  · -- the catch
    obtain ⟨a, B, sI, pins', σ', H', cls, d, rfl, J', nb, up, sky, na, os, ag, C, e1, e2, hb1, hyes⟩ := xx
    subst e1 e2
    have J : Inv X pins σ' H' sI := J'.ofTry ok
    have sky' : Sky B (X.env :: X.outer) a (Zc (.ref C) none) X.env.locals s'.heap := by rw [← hs]; exact sky
    show wpAny (model X.prog X.w) X.A (noteFrame (.ref a) X.env) _ _ _
    refine Sky.land Zc.steady hfr hf sky' fun h3 fl3 up3 => ?_
    have J3 : Inv X pins σ' H' { s' with heap := h3 } := J.landed nb fl3.1 (up.trans up3) os ag
    obtain ⟨oe3, vs3, he3, hz3, hd3⟩ := fl3.there
    have notFr : ∀ {h : Heap} {o : Obj} {vs : Array Value}, h.FunFrames B (X.env :: X.outer) → h.get? a = some o → o.data = .fields vs → a ∉ frs (X.env :: X.outer) := fun {h o vs} ff e dd hm => by
      obtain ⟨_, o', e', hnf⟩ := ff.mem hm
      rw [e] at e'; cases e'
      exact hnf _ dd
    have nfr := notFr fl3.2.2.1 he3 hd3
    have nL : a ≠ X.env.locals := fun z => nfr (List.mem_filterMap.mpr ⟨X.env, List.mem_cons_self, by rw [hf, z]⟩)
    have nF : a ∉ X.fs := fun hm => by
      obtain ⟨e, he, q⟩ := List.mem_filterMap.mp hm
      exact nfr (List.mem_filterMap.mpr ⟨e, List.mem_cons_of_mem _ he, q⟩)
    have nI : sI.heap.get? a = none := by
      cases q : sI.heap.get? a with
      | none => rfl
      | some o =>
        have z := nb a o q (by rw [hs]; exact nfr)
        rw [fl3.2.1] at z
        cases z
    have n0 : X.s_0.heap.get? a = none := by
      cases q : X.s_0.heap.get? a with
      | none => rfl
      | some o =>
        obtain ⟨o', z⟩ := J.base.there a o q (by rw [hex]; simp)
        rw [nI] at z
        cases z
    have npin : ∀ p ∈ X.pn ++ pins, p.1 ≠ a := fun p hp z => by
      have := (J.pin p hp).1
      rw [z, nI] at this
      cases this
    have S3 := J3.suite he3 hd3 na nL nF
    refine wpAny_handleBy_cons (codeAny_handlers_test ?_) (by intro q; cases q)
    have LT : PySem.W.Looks (model X.prog X.w) h3 (typeOf (.ref a)) (.ref C) := fun A Q E s k q => wpAny_typeOf_ref (k _ _ he3) (by rw [hz3.1]; exact q)
    have LM := PySem.W.exm_one (M := model X.prog X.w) (J3.kIn) LT hb1
    have test : ∀ {Q : Value → Shared → Prop} {E : Value → Shared → Prop}, Q c { s' with heap := h3 } → wpAny (model X.prog X.w) (X.A.mark (some (.ref a))) (eval (.Name x np) X.env) Q E { s' with heap := h3 } := fun {Q E} q => by
      obtain ⟨hg, hdbg, hm | ⟨hm, hv, hnn⟩⟩ := hc
      · exact ld_glob (X := X.suite a ((a, oe3) :: (X.pn ++ pins))) S3 hg hm q hdbg
      · exact ld_blt (X := X.suite a ((a, oe3) :: (X.pn ++ pins))) S3 hg hm hv q hnn hdbg
    refine test (LM.here ?_)
    refine codeAny_handlers_suite_as ?_
    refine HandSPX.lands_againZ fl3 fun h4 fl4 up4 => ?_
    have J4 : Inv X pins σ' H' { s' with heap := h4 } := J.landed nb fl4.1 ((up.trans up3).trans up4) os ag
    obtain ⟨oe4, vs4, he4, hz4, hd4⟩ := fl4.there
    have J5 := inv_track J4 ⟨oe4, vs4, he4, hz4, hd4⟩ na nL n0 npin
    have S4 := inv_suiteT J5 a
    refine store_ok (X := Cx.suiteT X a (X.pn ++ pins)) (v := .ref a) S4 hN hi hloc rfl (fun s5 S5 => ?_) (.inr hln)
    refine wpAny_mono ((hsu a (X.pn ++ pins)).run [] s5 _ _ _ S5 (hyes a na)) (fun f s6 hsp => ?_) (fun _ _ z => False.elim z)
    have end_ : ∀ {σ6 : L2.St} {H6 : Hp} {Q : Shared → Prop}, Inv (Cx.suiteT X a (X.pn ++ pins)) [] σ6 H6 s6 → (∀ s7, Inv X pins (σ6.set i none) H6 s7 → Q s7) →
        wpAny (model X.prog X.w) X.A (do bindName X.env n .none; unbindBehindTheSuite X.env n pos') (fun _ s7 => Q s7) X.xe s6 := fun {σ6 H6 Q} S6 hq => gone_ok (inv_unsuiteT S6 ok) hN hi hln hq
    cases f with
    | next =>
      obtain ⟨σ6, H6, S6, q6⟩ := hsp
      exact end_ S6 fun s7 J7 => ⟨_, _, J7, q6⟩
    | brk =>
      obtain ⟨σ6, H6, S6, q6⟩ := hsp
      exact end_ S6 fun s7 J7 => ⟨_, _, J7, q6⟩
    | cont =>
      obtain ⟨σ6, H6, S6, q6⟩ := hsp
      exact end_ S6 fun s7 J7 => ⟨_, _, J7, q6⟩
    | ret u =>
      obtain ⟨v6, σ6, H6, S6, r6, q6⟩ := hsp
      exact end_ S6 fun s7 J7 => ⟨_, _, _, J7, r6, q6⟩
  · cases f with
    | next =>
      obtain ⟨σ', H', J', q⟩ := hsp
      exact wpAny_execs_nil ⟨σ', H', J'.ofTry ok, q⟩
    | brk =>
      obtain ⟨σ', H', J', q⟩ := hsp
      exact ⟨σ', H', J'.ofTry ok, q⟩
    | cont =>
      obtain ⟨σ', H', J', q⟩ := hsp
      exact ⟨σ', H', J'.ofTry ok, q⟩
    | ret u =>
      obtain ⟨v, σ', H', J', r, q⟩ := hsp
      exact ⟨v, σ', H', J'.ofTry ok, r, q⟩
end
/-- isinstance(e, T) of a tracked exception -/
def rIsX (K : PySem.W.Frag) : List V → Hp → VK → Prop := fun xs H Q => ∃ (a D : Addr) (c : V) (cv : Value) (b : Bool), xs = [.ref a, c] ∧ H a = some (.ext (ExcAt a D)) ∧ ExcC K D ∧ ClsV c cv ∧ PySem.W.kitOne K (.ref D) cv = some b ∧ Q (.bl b) H
theorem call_isX {X : Cx} : CallR X (.builtin "isinstance") (rIsX X.K) := by
  intro pins s σ H xs us Q I r h
  obtain ⟨a, D, c, cv, b, rfl, ha, C, k, e, q⟩ := h
  obtain ⟨u1, u2, rfl, r1, r2⟩ := vals2 r
  have e2 := k.eq r2
  subst e2
  cases r1
  obtain ⟨⟨oe, vs, h1, h2, h3⟩, _⟩ := (show ObjOk X.prog X.w H s.heap a (.ext (ExcAt a D)) from I.hok a _ ha)
  have J : PySem.W.InstAt s.heap a oe D none := by
    obtain ⟨oc, od, oda, osl⟩ := oe
    obtain ⟨g1, g2⟩ := h2
    dsimp only at g1 g2 h3
    subst g1 g2 h3
    exact ⟨h1, rfl, rfl, trivial⟩
  exact PySem.W.kia_one (PySem.W.handS_kitx_exc C.hg C.hk C.hs C.hd C.ha C.hn C.ht C.hm) I.kIn J e (fun z => nomatch z) fun tk => ⟨.bl b, H, I.kept (t' := tk) fun _ _ z => z, rfl, q⟩
end Fx

/-! FwDe: values by descriptions that stay true while the heap grows; what readings evaluate to, without a heap in sight. -/
namespace Fx
open PySem PySem.Spec PyProof.Rows L2 Fw
def cv : C → V
  | none => .non
  | some i => .int i
/-- a value: an atom; a tuple, a list of such; a Row; the script; an own exception -/
inductive De where
  | v (x : V)
  | tup (ds : List De)
  | lst (ds : List De)
  | row (F : Fm)
  | scr (ns : List Int)
  | exc (C : Addr)
  | obj (C : Addr)
  | log (p : Addr) (Vs : List Fm) (n : Nat)
/-- what the text's addresses are -/
structure Tx where
  K : PySem.W.Frag
  R : Addr
  L : Addr
def rowF (a b : Addr) (f : Int) (c : Addr) : List (Str × V) := [("left", .ref a), ("middle", .ref b), ("first", .int f), ("right", .ref c)]
def RowAt (T : Tx) (H : Hp) (F : Fm) (v : V) : Prop :=
  ∃ p dx a b c, v = .ref p ∧ H p = some (.ins T.R dx (rowF a b F.f c)) ∧ H a = some (.tup (F.l.map cv)) ∧ H b = some (.tup (F.m.map cv)) ∧ H c = some (.tup (F.r.map cv))
def RowsAt (T : Tx) (H : Hp) : List Fm → List V → Prop
  | [], vs => vs = []
  | F :: Fs, vs => ∃ v r, vs = v :: r ∧ RowAt T H F v ∧ RowsAt T H Fs r
def logF (a : Addr) (n : Int) : List (Str × V) := [("rows", .ref a), ("at", .int n)]
/-- a log: its rows, the one that is on -/
def LogAt (T : Tx) (H : Hp) (p : Addr) (Vs : List Fm) (n : Nat) : Prop :=
  ∃ dx a vs, H p = some (.ins T.L dx (logF a n)) ∧ H a = some (.lst vs) ∧ RowsAt T H Vs vs
mutual
def Is (T : Tx) (H : Hp) : De → V → Prop
  | .v x, v => v = x
  | .tup ds, v => ∃ p vs, v = .ref p ∧ H p = some (.tup vs) ∧ IsA T H ds vs
  | .lst ds, v => ∃ p vs, v = .ref p ∧ H p = some (.lst vs) ∧ IsA T H ds vs
  | .row F, v => RowAt T H F v
  | .scr ns, v => ∃ a, v = .ref a ∧ SqL T.K H a (ns.map V.int)
  | .exc C, v => ∃ a, v = .ref a ∧ H a = some (.ext (ExcAt a C))
  | .obj C, v => ∃ a dx, v = .ref a ∧ H a = some (.ins C dx [])
  | .log p Vs n, v => v = .ref p ∧ LogAt T H p Vs n
def IsA (T : Tx) (H : Hp) : List De → List V → Prop
  | [], vs => vs = []
  | d :: ds, vs => ∃ v r, vs = v :: r ∧ Is T H d v ∧ IsA T H ds r
end
section
variable {T : Tx} {H H' : Hp}
theorem same_l {K : PySem.W.Frag} {a : Addr} {xs : List V} (e : Same H H') (h : SqL K H a xs) : SqL K H' a xs := e.seq h
theorem same_t {K : PySem.W.Frag} {a : Addr} {xs : List V} (e : Same H H') (h : SqT K H a xs) : SqT K H' a xs := by
  rcases h with (h | ⟨o, h⟩) | h
  · exact .inl (.inl (e _ _ h))
  · exact .inl (.inr ⟨o, e _ _ h⟩)
  · exact .inr h
theorem same_new {p : Addr} {o : HO} (h : H p = none) : Same H (upd H p o) := fun b u e => by
  rw [upd_ne (ne_of_none e h)]; exact e
theorem rowAt_mono (e : Same H H') {F : Fm} {v : V} (h : RowAt T H F v) : RowAt T H' F v := by
  obtain ⟨p, dx, a, b, c, h0, h1, h2, h3, h4⟩ := h
  exact ⟨p, dx, a, b, c, h0, e _ _ h1, e _ _ h2, e _ _ h3, e _ _ h4⟩
theorem rowsAt_mono (e : Same H H') : ∀ {Fs : List Fm} {vs : List V}, RowsAt T H Fs vs → RowsAt T H' Fs vs
  | [], vs, h => h
  | F :: Fs, vs, h => by
    obtain ⟨v, r, h1, h2, h3⟩ := h
    exact ⟨v, r, h1, rowAt_mono e h2, rowsAt_mono e h3⟩
theorem logAt_mono (e : Same H H') {p : Addr} {Vs : List Fm} {n : Nat} (h : LogAt T H p Vs n) : LogAt T H' p Vs n := by
  obtain ⟨dx, a, vs, h1, h2, h3⟩ := h
  exact ⟨dx, a, vs, e _ _ h1, e _ _ h2, rowsAt_mono e h3⟩
mutual
theorem Is.mono (e : Same H H') : ∀ {d : De} {v : V}, Is T H d v → Is T H' d v
  | .v _, _, h => h
  | .tup ds, v, h => by
    unfold Is at h ⊢
    obtain ⟨p, vs, h1, h2, h3⟩ := h
    exact ⟨p, vs, h1, e _ _ h2, IsA.mono e h3⟩
  | .lst ds, v, h => by
    unfold Is at h ⊢
    obtain ⟨p, vs, h1, h2, h3⟩ := h
    exact ⟨p, vs, h1, e _ _ h2, IsA.mono e h3⟩
  | .row F, v, h => by
    unfold Is at h ⊢
    exact rowAt_mono e h
  | .scr ns, v, h => by
    unfold Is at h ⊢
    obtain ⟨a, h1, h2⟩ := h
    exact ⟨a, h1, same_l e h2⟩
  | .exc C, v, h => by
    unfold Is at h ⊢
    obtain ⟨a, h1, h2⟩ := h
    exact ⟨a, h1, e _ _ h2⟩
  | .obj C, v, h => by
    unfold Is at h ⊢
    obtain ⟨a, dx, h1, h2⟩ := h
    exact ⟨a, dx, h1, e _ _ h2⟩
  | .log p Vs n, v, h => by
    unfold Is at h ⊢
    exact ⟨h.1, logAt_mono e h.2⟩
theorem IsA.mono (e : Same H H') : ∀ {ds : List De} {vs : List V}, IsA T H ds vs → IsA T H' ds vs
  | [], vs, h => h
  | d :: ds, vs, h => by
    unfold IsA at h ⊢
    obtain ⟨v, r, h1, h2, h3⟩ := h
    exact ⟨v, r, h1, Is.mono e h2, IsA.mono e h3⟩
end
theorem is_v {x v : V} : Is T H (.v x) v ↔ v = x := by unfold Is; exact Iff.rfl
theorem is_tup {ds : List De} {v : V} : Is T H (.tup ds) v ↔ ∃ p vs, v = .ref p ∧ H p = some (.tup vs) ∧ IsA T H ds vs := by rw [Is]
theorem is_lst {ds : List De} {v : V} : Is T H (.lst ds) v ↔ ∃ p vs, v = .ref p ∧ H p = some (.lst vs) ∧ IsA T H ds vs := by rw [Is]
theorem is_row {F : Fm} {v : V} : Is T H (.row F) v ↔ RowAt T H F v := by rw [Is]
theorem is_scr {ns : List Int} {v : V} : Is T H (.scr ns) v ↔ ∃ a, v = .ref a ∧ SqL T.K H a (ns.map V.int) := by rw [Is]
theorem is_exc {C : Addr} {v : V} : Is T H (.exc C) v ↔ ∃ a, v = .ref a ∧ H a = some (.ext (ExcAt a C)) := by rw [Is]
theorem is_obj {C : Addr} {v : V} : Is T H (.obj C) v ↔ ∃ a dx, v = .ref a ∧ H a = some (.ins C dx []) := by rw [Is]
theorem is_log {p : Addr} {Vs : List Fm} {n : Nat} {v : V} : Is T H (.log p Vs n) v ↔ v = .ref p ∧ LogAt T H p Vs n := by rw [Is]
theorem isA_nil {vs : List V} : IsA T H [] vs ↔ vs = [] := by unfold IsA; exact Iff.rfl
theorem isA_cons {d : De} {ds : List De} {vs : List V} : IsA T H (d :: ds) vs ↔ ∃ v r, vs = v :: r ∧ Is T H d v ∧ IsA T H ds r := by rw [IsA]
theorem isA_len : ∀ {ds : List De} {vs : List V}, IsA T H ds vs → vs.length = ds.length
  | [], vs, h => by rw [isA_nil.mp h]; rfl
  | d :: ds, vs, h => by
    obtain ⟨v, r, rfl, _, h3⟩ := isA_cons.mp h
    rw [List.length_cons, List.length_cons, isA_len h3]
theorem isA_get : ∀ {ds : List De} {vs : List V} {i : Nat} {d : De}, IsA T H ds vs → ds[i]? = some d → ∃ v, vs[i]? = some v ∧ Is T H d v
  | [], _, i, _, _, e => by simp at e
  | d :: ds, vs, 0, _, h, e => by
    obtain ⟨v, r, rfl, h2, _⟩ := isA_cons.mp h
    simp at e; subst e
    exact ⟨v, rfl, h2⟩
  | d :: ds, vs, i + 1, d', h, e => by
    obtain ⟨v, r, rfl, _, h3⟩ := isA_cons.mp h
    obtain ⟨v', q, z⟩ := isA_get (i := i) h3 (by simpa using e)
    exact ⟨v', by simpa using q, z⟩
theorem isA_get' {ds : List De} {vs : List V} {i : Nat} {v : V} (h : IsA T H ds vs) (e : vs[i]? = some v) : ∃ d, ds[i]? = some d ∧ Is T H d v := by
  have hi : i < ds.length := by rw [← isA_len h]; exact (List.getElem?_eq_some_iff.mp e).1
  obtain ⟨v', q, z⟩ := isA_get h (List.getElem?_eq_getElem hi)
  rw [e] at q
  cases q
  exact ⟨_, List.getElem?_eq_getElem hi, z⟩
theorem isA_app : ∀ {ds es : List De} {vs ws : List V}, IsA T H ds vs → IsA T H es ws → IsA T H (ds ++ es) (vs ++ ws)
  | [], _, vs, _, h, k => by rw [isA_nil.mp h]; exact k
  | d :: ds, _, vs, _, h, k => by
    obtain ⟨v, r, rfl, h2, h3⟩ := isA_cons.mp h
    exact isA_cons.mpr ⟨v, _, rfl, h2, isA_app h3 k⟩
theorem isA_take : ∀ {ds : List De} {vs : List V} (n : Nat), IsA T H ds vs → IsA T H (ds.take n) (vs.take n)
  | _, _, 0, _ => by simp [isA_nil]
  | [], vs, n + 1, h => by rw [isA_nil.mp h]; exact isA_nil.mpr rfl
  | d :: ds, vs, n + 1, h => by
    obtain ⟨v, r, rfl, h2, h3⟩ := isA_cons.mp h
    exact isA_cons.mpr ⟨v, _, rfl, h2, isA_take n h3⟩
theorem isA_drop : ∀ {ds : List De} {vs : List V} (n : Nat), IsA T H ds vs → IsA T H (ds.drop n) (vs.drop n)
  | _, _, 0, h => h
  | [], vs, n + 1, h => by rw [isA_nil.mp h]; exact isA_nil.mpr rfl
  | d :: ds, vs, n + 1, h => by
    obtain ⟨v, r, rfl, h2, h3⟩ := isA_cons.mp h
    exact isA_drop n h3
theorem isA_rep {ds : List De} {vs : List V} (h : IsA T H ds vs) : ∀ n : Nat, IsA T H (List.replicate n ds).flatten (List.replicate n vs).flatten
  | 0 => isA_nil.mpr rfl
  | n + 1 => by
    rw [List.replicate_succ, List.replicate_succ, List.flatten_cons, List.flatten_cons]
    exact isA_app h (isA_rep h n)
theorem isA_vs {α : Type} {g : α → V} : ∀ {xs : List α} {vs : List V}, IsA T H (xs.map fun x => De.v (g x)) vs ↔ vs = xs.map g
  | [], vs => isA_nil
  | x :: xs, vs => by
    rw [List.map_cons, List.map_cons, isA_cons]
    constructor
    · rintro ⟨v, r, rfl, h2, h3⟩
      rw [is_v.mp h2, isA_vs.mp h3]
    · rintro rfl
      exact ⟨_, _, rfl, is_v.mpr rfl, isA_vs.mpr rfl⟩
theorem rowsAt_isA : ∀ {Fs : List Fm} {vs : List V}, RowsAt T H Fs vs ↔ IsA T H (Fs.map De.row) vs
  | [], vs => by rw [List.map_nil, isA_nil]; exact Iff.rfl
  | F :: Fs, vs => by
    rw [List.map_cons, isA_cons]
    constructor
    · rintro ⟨v, r, h1, h2, h3⟩
      exact ⟨v, r, h1, is_row.mpr h2, rowsAt_isA.mp h3⟩
    · rintro ⟨v, r, h1, h2, h3⟩
      exact ⟨v, r, h1, is_row.mp h2, rowsAt_isA.mpr h3⟩
theorem isA_one {d : De} {v : V} (h : Is T H d v) : IsA T H [d] [v] := isA_cons.mpr ⟨v, [], rfl, h, isA_nil.mpr rfl⟩
theorem isA_snoc {ds : List De} {vs : List V} {d : De} {v : V} (h : IsA T H ds vs) (k : Is T H d v) : IsA T H (ds ++ [d]) (vs ++ [v]) := isA_app h (isA_one k)
end
/-- cells -/
abbrev dc (c : C) : De := .v (cv c)
abbrev dcs (cs : List C) : List De := cs.map fun c => .v (cv c)
abbrev di (i : Int) : De := .v (.int i)
abbrev db (b : Bool) : De := .v (.bl b)

/-! ### slots -/
abbrev Sl := List (Option De)
def Env (T : Tx) (H : Hp) (σ : L2.St) (S : Sl) : Prop := σ.length = S.length ∧ ∀ (i : Nat) (d : De), S[i]? = some (some d) → ∃ v, σ[i]? = some (some v) ∧ Is T H d v
section
variable {T : Tx} {H H' : Hp} {σ : L2.St} {S : Sl}
theorem Env.mono (e : Same H H') (h : Env T H σ S) : Env T H' σ S := ⟨h.1, fun i d q => by
  obtain ⟨v, h1, h2⟩ := h.2 i d q
  exact ⟨v, h1, h2.mono e⟩⟩
theorem Env.set {i : Nat} {d : De} {v : V} (h : Env T H σ S) (k : Is T H d v) : Env T H (σ.set i (some v)) (S.set i (some d)) := ⟨by simp [h.1], fun j d' q => by
  by_cases e : i = j
  · subst e
    have hi : i < S.length := by have := (List.getElem?_eq_some_iff.mp q).1; simpa using this
    rw [List.getElem?_set_self hi] at q
    cases q
    exact ⟨v, by rw [List.getElem?_set_self (by rw [h.1]; exact hi)], k⟩
  · rw [List.getElem?_set_ne e] at q
    obtain ⟨v', h1, h2⟩ := h.2 j d' q
    exact ⟨v', by rw [List.getElem?_set_ne e]; exact h1, h2⟩⟩
theorem Env.unset {i : Nat} {o : Option V} (h : Env T H σ S) : Env T H (σ.set i o) (S.set i none) := ⟨by simp [h.1], fun j d' q => by
  by_cases e : i = j
  · subst e
    have hi : i < S.length := by have := (List.getElem?_eq_some_iff.mp q).1; simpa using this
    rw [List.getElem?_set_self hi] at q
    cases q
  · rw [List.getElem?_set_ne e] at q
    obtain ⟨v', h1, h2⟩ := h.2 j d' q
    exact ⟨v', by rw [List.getElem?_set_ne e]; exact h1, h2⟩⟩
/-- less is known -/
theorem Env.less {S' : Sl} (h : Env T H σ S) (hl : S'.length = S.length) (k : ∀ (i : Nat) (d : De), S'[i]? = some (some d) → S[i]? = some (some d)) : Env T H σ S' := ⟨by rw [h.1, hl], fun i d q => h.2 i d (k i d q)⟩
def wipeS (S : Sl) : List Nat → Sl
  | [] => S
  | i :: r => (wipeS S r).set i none
theorem wipe_set (σ : L2.St) : ∀ vs : List Nat, ∀ i, wipe σ (i :: vs) = (wipe σ vs).set i none := fun vs i => by first | rfl | simp [wipe]
end
end Fx

/-! FwEv: readings evaluated over descriptions. -/
namespace Fx
open PySem PySem.Spec PyProof.Rows L2 Fw
variable {T : Tx} {S : Sl}
/-- a reading gives a value so described, whatever the heap, in a heap that has grown -/
def EvD (T : Tx) (te : TE) (S : Sl) (d : De) : Prop := ∀ σ H, Env T H σ S → ∀ Q : VK, (∀ v H', Same H H' → Is T H' d v → Q v H') → te σ H Q
def EvB (T : Tx) (tt : TT) (S : Sl) (b : Bool) : Prop := ∀ σ H, Env T H σ S → ∀ Q : Bool → Hp → Prop, (∀ H', Same H H' → Q b H') → tt σ H Q
def EvL (T : Tx) (ta : TA) (S : Sl) (ds : List De) : Prop := ∀ σ H, Env T H σ S → ∀ Q : List V → Hp → Prop, (∀ vs H', Same H H' → IsA T H' ds vs → Q vs H') → ta σ H Q
def EvO (T : Tx) (to : TO) (S : Sl) (o : Option Int) : Prop := ∀ σ H, Env T H σ S → ∀ Q : Option Int → Hp → Prop, (∀ H', Same H H' → Q o H') → to σ H Q
def D2 (T : Tx) (r : R2) (a b d : De) : Prop := ∀ H x y, Is T H a x → Is T H b y → ∀ Q : VK, (∀ v H', Same H H' → Is T H' d v → Q v H') → r x y H Q
def D1 (T : Tx) (r : V → Hp → VK → Prop) (a d : De) : Prop := ∀ H x, Is T H a x → ∀ Q : VK, (∀ v H', Same H H' → Is T H' d v → Q v H') → r x H Q
def DC (T : Tx) (r : List V → Hp → VK → Prop) (ds : List De) (d : De) : Prop := ∀ H xs, IsA T H ds xs → ∀ Q : VK, (∀ v H', Same H H' → Is T H' d v → Q v H') → r xs H Q
theorem evd_is {te : TE} {d e : De} (h : EvD T te S d) (q : d = e) : EvD T te S e := by rw [← q]; exact h
theorem evb_is {tt : TT} {b c : Bool} (h : EvB T tt S b) (q : b = c) : EvB T tt S c := by rw [← q]; exact h
section
variable {te ta tb tc : TE} {t u : TT} {a b c d : De} {ds es : List De} {r r' : R2} {x y : V} {i j : Int}
theorem evd_var {k : Nat} (h : S[k]? = some (some d)) : EvD T (tVar k) S d := fun σ H e Q q => by
  obtain ⟨v, h1, h2⟩ := e.2 k d h
  exact ⟨v, h1, q v H (Same.refl H) h2⟩
theorem evd_c : EvD T (tC x) S (.v x) := fun σ H e Q q => q x H (Same.refl H) (is_v.mpr rfl)
theorem evd_op (ha : EvD T ta S a) (hb : EvD T tb S b) (hr : D2 T r a b d) : EvD T (tOp r ta tb) S d := fun σ H e Q q =>
  ha σ H e _ fun v H1 e1 i1 => hb σ H1 (e.mono e1) _ fun w H2 e2 i2 => hr H2 v w (i1.mono e2) i2 Q fun z H3 e3 i3 => q z H3 ((e1.trans e2).trans e3) i3
theorem evd_un {r : V → Hp → VK → Prop} (ha : EvD T ta S a) (hr : D1 T r a d) : EvD T (tUn r ta) S d := fun σ H e Q q =>
  ha σ H e _ fun v H1 e1 i1 => hr H1 v i1 Q fun z H2 e2 i2 => q z H2 (e1.trans e2) i2
theorem evd_cb {r : List V → Hp → VK → Prop} {t : TA} (h : EvL T t S ds) (hr : DC T r ds d) : EvD T (tCB r t) S d := fun σ H e Q q =>
  h σ H e _ fun vs H1 e1 i1 => hr H1 vs i1 Q fun z H2 e2 i2 => q z H2 (e1.trans e2) i2
theorem evl_nil : EvL T tNil S [] := fun σ H e Q q => q [] H (Same.refl H) (isA_nil.mpr rfl)
theorem evl_cons {tr : TA} (h : EvD T ta S d) (k : EvL T tr S ds) : EvL T (tCons ta tr) S (d :: ds) := fun σ H e Q q =>
  h σ H e _ fun v H1 e1 i1 => k σ H1 (e.mono e1) _ fun vs H2 e2 i2 => q (v :: vs) H2 (e1.trans e2) (isA_cons.mpr ⟨v, vs, rfl, i1.mono e2, i2⟩)
theorem evd_tup {t : TA} (h : EvL T t S ds) (hl : ds.length ≤ 100000) : EvD T (tTup t) S (.tup ds) := fun σ H e Q q =>
  h σ H e _ fun vs H1 e1 i1 => ⟨by rw [isA_len i1, sizeLine_eq]; omega, fun p hp => q _ _ (e1.trans (same_new hp)) (is_tup.mpr ⟨p, vs, rfl, upd_same, i1.mono (same_new hp)⟩)⟩
theorem evd_lst {t : TA} (h : EvL T t S ds) (hl : ds.length ≤ 100000) : EvD T (tLst t) S (.lst ds) := fun σ H e Q q =>
  h σ H e _ fun vs H1 e1 i1 => ⟨by rw [isA_len i1, sizeLine_eq]; omega, fun p hp => q _ _ (e1.trans (same_new hp)) (is_lst.mpr ⟨p, vs, rfl, upd_same, i1.mono (same_new hp)⟩)⟩
theorem evd_if {k : Bool} (h : EvB T t S k) (h1 : k = true → EvD T ta S d) (h2 : k = false → EvD T tb S d) : EvD T (tIf t ta tb) S d := fun σ H e Q q =>
  h σ H e _ fun H1 e1 => by
    cases k with
    | true => exact h1 rfl σ H1 (e.mono e1) Q fun v H2 e2 i2 => q v H2 (e1.trans e2) i2
    | false => exact h2 rfl σ H1 (e.mono e1) Q fun v H2 e2 i2 => q v H2 (e1.trans e2) i2
theorem evd_not {k : Bool} (h : EvD T ta S (db k)) : EvD T (tNotV ta) S (db (!k)) := fun σ H e Q q =>
  h σ H e _ fun v H1 e1 i1 => ⟨k, is_v.mp i1, q _ H1 e1 (is_v.mpr rfl)⟩
theorem evd_and {k l : Bool} (h : EvD T ta S (db k)) (h2 : k = true → EvD T tb S (db l)) : EvD T (tAndV ta tb) S (db (k && l)) := fun σ H e Q q =>
  h σ H e _ fun v H1 e1 i1 => ⟨k, is_v.mp i1, by
    cases k with
    | true => exact h2 rfl σ H1 (e.mono e1) Q fun v H2 e2 i2 => q v H2 (e1.trans e2) i2
    | false => exact q _ H1 e1 (is_v.mpr rfl)⟩
theorem evd_or {k l : Bool} (h : EvD T ta S (db k)) (h2 : k = false → EvD T tb S (db l)) : EvD T (tOrV ta tb) S (db (k || l)) := fun σ H e Q q =>
  h σ H e _ fun v H1 e1 i1 => ⟨k, is_v.mp i1, by
    cases k with
    | false => exact h2 rfl σ H1 (e.mono e1) Q fun v H2 e2 i2 => q v H2 (e1.trans e2) i2
    | true => exact q _ H1 e1 (is_v.mpr rfl)⟩
/-! ### tests -/
theorem evb_test {k : Bool} (h : EvD T te S (db k)) : EvB T (tTest te) S k := fun σ H e Q q => h σ H e _ fun v H1 e1 i1 => ⟨k, is_v.mp i1, q H1 e1⟩
theorem evb_val {k : Bool} (h : EvD T te S (db k)) : EvB T (tB te) S k := fun σ H e Q q => h σ H e _ fun v H1 e1 i1 => ⟨k, is_v.mp i1, q H1 e1⟩
theorem evb_and {k l : Bool} (h : EvB T t S k) (h2 : k = true → EvB T u S l) : EvB T (tAnd t u) S (k && l) := fun σ H e Q q => h σ H e _ fun H1 e1 => by
  cases k with
  | true => exact h2 rfl σ H1 (e.mono e1) Q fun H2 e2 => q H2 (e1.trans e2)
  | false => exact q H1 e1
theorem evb_or {k l : Bool} (h : EvB T t S k) (h2 : k = false → EvB T u S l) : EvB T (tOr t u) S (k || l) := fun σ H e Q q => h σ H e _ fun H1 e1 => by
  cases k with
  | false => exact h2 rfl σ H1 (e.mono e1) Q fun H2 e2 => q H2 (e1.trans e2)
  | true => exact q H1 e1
theorem evb_not {k : Bool} (h : EvB T t S k) : EvB T (tNot t) S (!k) := fun σ H e Q q => h σ H e _ fun H1 e1 => q H1 e1
theorem evb_chain {k l : Bool} (ha : EvD T ta S a) (hb : EvD T tb S b) (hr : D2 T r a b (db k)) (hc : k = true → EvD T tc S c) (hr' : k = true → D2 T r' b c (db l)) : EvB T (tTest (tChain r r' ta tb tc)) S (k && l) := fun σ H e Q q =>
  ha σ H e _ fun v H1 e1 i1 => hb σ H1 (e.mono e1) _ fun w H2 e2 i2 => hr H2 v w (i1.mono e2) i2 _ fun z H3 e3 i3 => ⟨k, is_v.mp i3, by
    cases k with
    | true => exact hc rfl σ H3 (e.mono ((e1.trans e2).trans e3)) _ fun x H4 e4 i4 => hr' rfl H4 w x (i2.mono (e3.trans e4)) i4 _ fun z' H5 e5 i5 => ⟨l, is_v.mp i5, q H5 ((((e1.trans e2).trans e3).trans e4).trans e5)⟩
    | false => exact ⟨false, rfl, q H3 ((e1.trans e2).trans e3)⟩⟩
/-! ### operators -/
theorem d2_I0 {g : Int → Int → V} : D2 T (rI0 g) (di i) (di j) (.v (g i j)) := fun H x y hx hy Q q => ⟨i, j, is_v.mp hx, is_v.mp hy, q _ H (Same.refl H) (is_v.mpr rfl)⟩
theorem d2_I {P : Int → Int → Prop} {g : Int → Int → V} (hc : P i j) : D2 T (rI P g) (di i) (di j) (.v (g i j)) := fun H x y hx hy Q q => ⟨i, j, is_v.mp hx, is_v.mp hy, hc, q _ H (Same.refl H) (is_v.mpr rfl)⟩
theorem d2_eq (h : scal x y = true) : D2 T rEq (.v x) (.v y) (db (decide (x = y))) := fun H u w hx hy Q q => by
  rw [is_v.mp hx, is_v.mp hy]
  exact ⟨h, q _ H (Same.refl H) (is_v.mpr rfl)⟩
theorem d2_ne (h : scal x y = true) : D2 T rNe (.v x) (.v y) (db (!decide (x = y))) := fun H u w hx hy Q q => by
  rw [is_v.mp hx, is_v.mp hy]
  exact ⟨h, q _ H (Same.refl H) (is_v.mpr rfl)⟩
def rIsNo : R2 := fun x y H Q => y = .non ∧ Q (.bl (decide (x = .non))) H
theorem op_isNo {X : Cx} : OpR X (compareOp .Is) rIsNo := op_isN
theorem d2_isNo : D2 T rIsNo (.v x) (.v .non) (db (decide (x = .non))) := fun H u w hx hy Q q => by
  rw [is_v.mp hx, is_v.mp hy]
  exact ⟨rfl, q _ H (Same.refl H) (is_v.mpr rfl)⟩
/-- any thing that is an object is not None -/
def De.isRef : De → Bool
  | .v _ => false
  | _ => true
theorem is_ref {H : Hp} {v : V} (h : Is T H d v) (k : d.isRef = true) : ∃ p, v = .ref p := by
  cases d with
  | v x => cases k
  | tup ds => obtain ⟨p, _, e, _⟩ := is_tup.mp h; exact ⟨p, e⟩
  | lst ds => obtain ⟨p, _, e, _⟩ := is_lst.mp h; exact ⟨p, e⟩
  | row F => obtain ⟨p, _, _, _, _, e, _⟩ := is_row.mp h; exact ⟨p, e⟩
  | scr ns => obtain ⟨p, e, _⟩ := is_scr.mp h; exact ⟨p, e⟩
  | exc C => obtain ⟨p, e, _⟩ := is_exc.mp h; exact ⟨p, e⟩
  | obj C => obtain ⟨p, _, e, _⟩ := is_obj.mp h; exact ⟨p, e⟩
  | log p Vs n => exact ⟨p, (is_log.mp h).1⟩
theorem d2_isNoR (h : d.isRef = true) : D2 T rIsNo d (.v .non) (db false) := fun H u w hx hy Q q => by
  obtain ⟨p, rfl⟩ := is_ref hx h
  rw [is_v.mp hy]
  exact ⟨rfl, by rw [decide_eq_false (fun z => by cases z)]; exact q _ H (Same.refl H) (is_v.mpr rfl)⟩
theorem d1_neg : D1 T (rU fun i => .int (-i)) (di i) (di (-i)) := fun H x hx Q q => ⟨i, is_v.mp hx, q _ H (Same.refl H) (is_v.mpr rfl)⟩
/-! ### sequences -/
def De.sq (b : Bool) (ds : List De) : De := if b then .lst ds else .tup ds
theorem is_sq {b : Bool} {H : Hp} {v : V} {ds : List De} (h : Is T H (De.sq b ds) v) : ∃ p vs, v = .ref p ∧ (SqL T.K H p vs ∨ SqT T.K H p vs) ∧ IsA T H ds vs := by
  cases b with
  | true =>
    obtain ⟨p, vs, h1, h2, h3⟩ := is_lst.mp (show Is T H (.lst ds) v from h)
    exact ⟨p, vs, h1, .inl (SqL.of h2), h3⟩
  | false =>
    obtain ⟨p, vs, h1, h2, h3⟩ := is_tup.mp (show Is T H (.tup ds) v from h)
    exact ⟨p, vs, h1, .inr (SqT.of h2), h3⟩
theorem d2_ixL {k : Nat} (h : ds[k]? = some d) (e : i = (k : Int)) : D2 T (rIxL T.K) (.lst ds) (di i) d := fun H x y hx hy Q q => by
  obtain ⟨p, vs, h1, h2, h3⟩ := is_lst.mp hx
  obtain ⟨v, h4, h5⟩ := isA_get h3 h
  exact ⟨p, vs, i, v, h1, is_v.mp hy, SqL.of h2, by rw [e]; exact atI_nat h4, q v H (Same.refl H) h5⟩
theorem d2_ixT {k : Nat} (h : ds[k]? = some d) (e : i = (k : Int)) : D2 T (rIxT T.K) (.tup ds) (di i) d := fun H x y hx hy Q q => by
  obtain ⟨p, vs, h1, h2, h3⟩ := is_tup.mp hx
  obtain ⟨v, h4, h5⟩ := isA_get h3 h
  exact ⟨p, vs, i, v, h1, is_v.mp hy, SqT.of h2, by rw [e]; exact atI_nat h4, q v H (Same.refl H) h5⟩
theorem d2_ix {bb : Bool} {k : Nat} (h : ds[k]? = some d) (e : i = (k : Int)) : D2 T (rIx T.K) (De.sq bb ds) (di i) d := fun H x y hx hy Q q => by
  obtain ⟨p, vs, h1, h2, h3⟩ := is_sq hx
  obtain ⟨v, h4, h5⟩ := isA_get h3 h
  rcases h2 with h2 | h2
  · exact .inl ⟨p, vs, i, v, h1, is_v.mp hy, h2, by rw [e]; exact atI_nat h4, q v H (Same.refl H) h5⟩
  · exact .inr (.inl ⟨p, vs, i, v, h1, is_v.mp hy, h2, by rw [e]; exact atI_nat h4, q v H (Same.refl H) h5⟩)
theorem d2_ixLast {k : Nat} (h : ds[k]? = some d) (e : ds.length = k + 1) : D2 T (rIxL T.K) (.lst ds) (di (-1)) d := fun H x y hx hy Q q => by
  obtain ⟨p, vs, h1, h2, h3⟩ := is_lst.mp hx
  obtain ⟨v, h4, h5⟩ := isA_get h3 h
  refine ⟨p, vs, -1, v, h1, is_v.mp hy, SqL.of h2, ?_, q v H (Same.refl H) h5⟩
  unfold atI ixN
  have hl := isA_len h3
  rw [if_neg (by decide), if_pos (by omega)]
  show vs[((-1 : Int) + vs.length).toNat]? = some v
  rw [show ((-1 : Int) + vs.length).toNat = k by omega]
  exact h4
def rLenS (K : PySem.W.Frag) : List V → Hp → VK → Prop := fun xs H Q => ∃ p ys, xs = [.ref p] ∧ (SqL K H p ys ∨ SqT K H p ys) ∧ Q (.int ys.length) H
theorem call_lenS {X : Cx} : CallR X (.builtin "len") (rLenS X.K) := call_len_seq
theorem dc_len {bb : Bool} : DC T (rLenS T.K) [De.sq bb ds] (di ds.length) := fun H xs hx Q q => by
  obtain ⟨v, r, rfl, h1, h2⟩ := isA_cons.mp hx
  rw [isA_nil.mp h2]
  obtain ⟨p, vs, rfl, h3, h4⟩ := is_sq h1
  exact ⟨p, vs, rfl, h3, by rw [isA_len h4]; exact q _ H (Same.refl H) (is_v.mpr rfl)⟩
theorem dc_lenL : DC T (rLenS T.K) [.lst ds] (di ds.length) := dc_len (bb := true)
theorem dc_lenT : DC T (rLenS T.K) [.tup ds] (di ds.length) := dc_len (bb := false)
theorem dc_lenS {ns : List Int} : DC T (rLenS T.K) [.scr ns] (di ns.length) := fun H xs hx Q q => by
  obtain ⟨v, r, rfl, h1, h2⟩ := isA_cons.mp hx
  rw [isA_nil.mp h2]
  obtain ⟨a, rfl, h3⟩ := is_scr.mp h1
  exact ⟨a, _, rfl, .inl h3, by rw [List.length_map]; exact q _ H (Same.refl H) (is_v.mpr rfl)⟩
def rTupS (K : PySem.W.Frag) : List V → Hp → VK → Prop := fun xs H Q => ∃ p ys, xs = [.ref p] ∧ ((SqL K H p ys ∧ ∀ l, H l = none → Q (.ref l) (upd H l (.tup ys))) ∨ (SqT K H p ys ∧ Q (.ref p) H))
theorem call_tupS {X : Cx} : CallR X (.type "tuple") (rTupS X.K) := call_tuple_of
theorem dc_tup {bb : Bool} : DC T (rTupS T.K) [De.sq bb ds] (.tup ds) := fun H xs hx Q q => by
  obtain ⟨v, r, rfl, h1, h2⟩ := isA_cons.mp hx
  rw [isA_nil.mp h2]
  cases bb with
  | true =>
    obtain ⟨p, vs, rfl, h3, h4⟩ := is_lst.mp (show Is T H (.lst ds) v from h1)
    exact ⟨p, vs, rfl, .inl ⟨SqL.of h3, fun l hl => q _ _ (same_new hl) (is_tup.mpr ⟨l, vs, rfl, upd_same, h4.mono (same_new hl)⟩)⟩⟩
  | false =>
    obtain ⟨p, vs, rfl, h3, h4⟩ := is_tup.mp (show Is T H (.tup ds) v from h1)
    exact ⟨p, vs, rfl, .inr ⟨SqT.of h3, q _ H (Same.refl H) h1⟩⟩
theorem dc_tupL : DC T (rTupS T.K) [.lst ds] (.tup ds) := dc_tup (bb := true)
theorem dc_tupT : DC T (rTupS T.K) [.tup ds] (.tup ds) := dc_tup (bb := false)
def rListS (K : PySem.W.Frag) : List V → Hp → VK → Prop := fun xs H Q => ∃ p ys, xs = [.ref p] ∧ (SqL K H p ys ∨ SqT K H p ys) ∧ ∀ l, H l = none → Q (.ref l) (upd H l (.lst ys))
theorem call_listS {X : Cx} : CallR X (.type "list") (rListS X.K) := call_list_of
theorem dc_list {bb : Bool} : DC T (rListS T.K) [De.sq bb ds] (.lst ds) := fun H xs hx Q q => by
  obtain ⟨v, r, rfl, h1, h2⟩ := isA_cons.mp hx
  rw [isA_nil.mp h2]
  obtain ⟨p, vs, rfl, h3, h4⟩ := is_sq h1
  exact ⟨p, vs, rfl, h3, fun l hl => q _ _ (same_new hl) (is_lst.mpr ⟨l, vs, rfl, upd_same, h4.mono (same_new hl)⟩)⟩
theorem d2_cat (hl : ds.length + es.length ≤ 100000) : D2 T rCat (.lst ds) (.lst es) (.lst (ds ++ es)) := fun H x y hx hy Q q => by
  obtain ⟨p, vs, h1, h2, h3⟩ := is_lst.mp hx
  obtain ⟨p', vs', h1', h2', h3'⟩ := is_lst.mp hy
  exact ⟨p, p', vs, vs', h1, h1', h2, h2', by rw [isA_len h3, isA_len h3', sizeLine_eq]; omega, fun l hl' => q _ _ (same_new hl') (is_lst.mpr ⟨l, _, rfl, upd_same, (isA_app h3 h3').mono (same_new hl')⟩)⟩
theorem d2_repL (h0 : 0 ≤ i) (h1 : i ≤ 1000000) (hl : ds.length * i.toNat ≤ 1000000) : D2 T rRep (.lst ds) (di i) (.lst (List.replicate i.toNat ds).flatten) := fun H x y hx hy Q q => by
  obtain ⟨p, vs, h1, h2, h3⟩ := is_lst.mp hx
  exact ⟨p, i, vs, h1, is_v.mp hy, h2, by omega, by omega, by rw [isA_len h3, sizeLine_eq]; omega, fun l hl' => q _ _ (same_new hl') (is_lst.mpr ⟨l, _, rfl, upd_same, (isA_rep h3 _).mono (same_new hl')⟩)⟩
theorem d2_repT (h0 : 2 ≤ i) (h1 : i ≤ 1000000) (hne : ds ≠ []) (hl : ds.length * i.toNat ≤ 1000000) : D2 T (rRepA T.K) (.tup ds) (di i) (.tup (List.replicate i.toNat ds).flatten) := fun H x y hx hy Q q => by
  obtain ⟨p, vs, h1, h2, h3⟩ := is_tup.mp hx
  refine ⟨p, i, vs, h1, is_v.mp hy, SqT.of h2, fun z => hne ?_, h0, by omega, by rw [isA_len h3]; exact hl, fun l hl' => q _ _ (same_new hl') (is_tup.mpr ⟨l, _, rfl, upd_same, (isA_rep h3 _).mono (same_new hl')⟩)⟩
  have := isA_len h3
  rw [z] at this
  exact List.eq_nil_of_length_eq_zero this.symm
/-! ### == of data -/
mutual
def De.dat : De → Option PyData
  | .v .non => some .none
  | .v (.bl b) => some (.bool b)
  | .v (.int i) => some (.int i)
  | .v (.str s) => some (.str s)
  | .tup ds => (De.dats ds).map .tuple
  | .lst ds => (De.dats ds).map .list
  | _ => none
def De.dats : List De → Option (List PyData)
  | [] => some []
  | d :: ds => match De.dat d, De.dats ds with
    | some x, some xs => some (x :: xs)
    | _, _ => none
end
mutual
theorem dat_dp {H : Hp} : ∀ {d : De} {v : V} {x : PyData}, Is T H d v → d.dat = some x → Dp T.K H v x
  | .v y, v, x, h, e => by
    rw [is_v.mp h]
    cases y with
    | non => unfold De.dat at e; cases e; exact .non
    | bl b => unfold De.dat at e; cases e; exact .bl _
    | int i => unfold De.dat at e; cases e; exact .int _
    | str s => unfold De.dat at e; cases e; exact .str _
    | _ => simp [De.dat] at e
  | .tup ds, v, x, h, e => by
    obtain ⟨p, vs, rfl, h2, h3⟩ := is_tup.mp h
    unfold De.dat at e
    cases q : De.dats ds with
    | none => rw [q] at e; cases e
    | some xs =>
      rw [q] at e
      cases e
      exact .tup (SqT.of h2) (dats_dp h3 q)
  | .lst ds, v, x, h, e => by
    obtain ⟨p, vs, rfl, h2, h3⟩ := is_lst.mp h
    unfold De.dat at e
    cases q : De.dats ds with
    | none => rw [q] at e; cases e
    | some xs =>
      rw [q] at e
      cases e
      exact .lst (SqL.of h2) (dats_dp h3 q)
  | .row _, _, _, _, e => by simp [De.dat] at e
  | .scr _, _, _, _, e => by simp [De.dat] at e
  | .exc _, _, _, _, e => by simp [De.dat] at e
  | .obj _, _, _, _, e => by simp [De.dat] at e
  | .log _ _ _, _, _, _, e => by simp [De.dat] at e
theorem dats_dp {H : Hp} : ∀ {ds : List De} {vs : List V} {xs : List PyData}, IsA T H ds vs → De.dats ds = some xs → DpAll T.K H vs xs
  | [], vs, xs, h, e => by
    rw [isA_nil.mp h]
    unfold De.dats at e
    cases e
    exact .nil
  | d :: ds, vs, xs, h, e => by
    obtain ⟨v, r, rfl, h2, h3⟩ := isA_cons.mp h
    unfold De.dats at e
    cases q : d.dat with
    | none => rw [q] at e; simp at e
    | some x =>
      cases q2 : De.dats ds with
      | none => rw [q, q2] at e; simp at e
      | some ys =>
        rw [q, q2] at e
        cases e
        exact .cons (dat_dp h2 q) (dats_dp h3 q2)
end
theorem d2_eqD {p q : PyData} (ha : a.dat = some p) (hb : b.dat = some q) (h1 : SeqAt.shaped p = true) (h2 : SeqAt.shaped q = true) : D2 T (rEqD T.K) a b (db (PyData.eqv p q)) := fun H x y hx hy Q k =>
  ⟨p, q, dat_dp hx ha, dat_dp hy hb, h1, h2, k _ H (Same.refl H) (is_v.mpr rfl)⟩
theorem d2_neD {p q : PyData} (ha : a.dat = some p) (hb : b.dat = some q) (h1 : SeqAt.shaped p = true) (h2 : SeqAt.shaped q = true) : D2 T (rNeD T.K) a b (db (!PyData.eqv p q)) := fun H x y hx hy Q k =>
  ⟨p, q, dat_dp hx ha, dat_dp hy hb, h1, h2, k _ H (Same.refl H) (is_v.mpr rfl)⟩
end
end Fx

/-! FwEw: calls, rows, slices, comprehensions, statements over descriptions. -/
namespace Fx
open PySem PySem.Spec PyProof.Rows L2 Fw
variable {T : Tx} {S : Sl}
/-! ### what a list's growth leaves as it is -/
mutual
def De.noL : De → Bool
  | .v _ => true
  | .tup ds => De.noLs ds
  | .lst _ => false
  | .row _ => true
  | .scr _ => false
  | .exc _ => true
  | .obj _ => true
  | .log _ _ _ => false
def De.noLs : List De → Bool
  | [] => true
  | d :: ds => De.noL d && De.noLs ds
end
theorem noLs_of {ds : List De} (h : ∀ d ∈ ds, d.noL = true) : De.noLs ds = true := by
  induction ds with
  | nil => rfl
  | cons d ds ih =>
    show (De.noL d && De.noLs ds) = true
    rw [h d List.mem_cons_self, ih fun e he => h e (List.mem_cons_of_mem _ he)]
    rfl
section
variable {H : Hp} {D : Addr} {xs ys : List V}
theorem row_noL (hD : H D = some (.lst xs)) {F : Fm} {v : V} (h : RowAt T H F v) : RowAt T (upd H D (.lst ys)) F v := by
  obtain ⟨p, dx, a, b, c, h0, h1, h2, h3, h4⟩ := h
  have go : ∀ q o, H q = some o → o ≠ .lst xs → upd H D (.lst ys) q = some o := fun q o e n => by
    rw [upd_ne (fun z => by rw [z, hD] at e; exact n (Option.some.inj e).symm)]
    exact e
  exact ⟨p, dx, a, b, c, h0, go _ _ h1 (fun z => by cases z), go _ _ h2 (fun z => by cases z), go _ _ h3 (fun z => by cases z), go _ _ h4 (fun z => by cases z)⟩
mutual
theorem is_noL (hD : H D = some (.lst xs)) : ∀ {d : De} {v : V}, d.noL = true → Is T H d v → Is T (upd H D (.lst ys)) d v
  | .v _, v, _, h => is_v.mpr (is_v.mp h)
  | .tup ds, v, n, h => by
    obtain ⟨p, vs, h1, h2, h3⟩ := is_tup.mp h
    refine is_tup.mpr ⟨p, vs, h1, ?_, isA_noL hD (by unfold De.noL at n; exact n) h3⟩
    rw [upd_ne (fun z => by rw [z, hD] at h2; cases h2)]
    exact h2
  | .lst ds, v, n, h => by unfold De.noL at n; cases n
  | .row F, v, _, h => is_row.mpr (row_noL hD (is_row.mp h))
  | .scr _, v, n, h => by unfold De.noL at n; cases n
  | .exc C, v, _, h => by
    obtain ⟨a, h1, h2⟩ := is_exc.mp h
    refine is_exc.mpr ⟨a, h1, ?_⟩
    rw [upd_ne (fun z => by rw [z, hD] at h2; cases h2)]
    exact h2
  | .obj C, v, _, h => by
    obtain ⟨a, dx, h1, h2⟩ := is_obj.mp h
    refine is_obj.mpr ⟨a, dx, h1, ?_⟩
    rw [upd_ne (fun z => by rw [z, hD] at h2; cases h2)]
    exact h2
  | .log _ _ _, v, n, h => by unfold De.noL at n; cases n
theorem isA_noL (hD : H D = some (.lst xs)) : ∀ {ds : List De} {vs : List V}, De.noLs ds = true → IsA T H ds vs → IsA T (upd H D (.lst ys)) ds vs
  | [], vs, _, h => isA_nil.mpr (isA_nil.mp h)
  | d :: ds, vs, n, h => by
    obtain ⟨v, r, h1, h2, h3⟩ := isA_cons.mp h
    have n' : (De.noL d && De.noLs ds) = true := by unfold De.noLs at n; exact n
    rw [Bool.and_eq_true] at n'
    exact isA_cons.mpr ⟨v, r, h1, is_noL hD n'.1 h2, isA_noL hD n'.2 h3⟩
end
end
section
variable {te ta tb tc tl : TE} {tt u : TT} {a b c d : De} {ds es : List De} {i j : Int}
/-! ### calls -/
def SD (T : Tx) (sp : Sp) (ds : List De) (d : De) (E : XK) : Prop := ∀ H vs, IsA T H ds vs → ∀ Q : VK, (∀ v H', Same H H' → Is T H' d v → Q v H') → sp vs H Q E
theorem evd_call {sp : Sp} {E : XK} {t : TA} (h : EvL T t S ds) (k : SD T sp ds d E) : EvD T (tCall sp [] E t) S d := fun σ H e Q q =>
  h σ H e _ fun vs H1 e1 i1 => by
    show sp (vs ++ []) H1 Q E
    rw [List.append_nil]
    exact k H1 vs i1 Q fun v H2 e2 i2 => q v H2 (e1.trans e2) i2
theorem evd_callL {sp : Sp} {E : XK} {t : TA} {n : Nat} {f : Addr} (hf : S[n]? = some (some (.v (.ref f)))) (h : EvL T t S ds) (k : SD T sp ds d E) : EvD T (tCallL n f sp [] E t) S d := fun σ H e Q q => by
  obtain ⟨v, h1, h2⟩ := e.2 n _ hf
  rw [is_v.mp h2] at h1
  refine ⟨h1, h σ H e _ fun vs H1 e1 i1 => ?_⟩
  rw [List.append_nil]
  exact k H1 vs i1 Q fun v H2 e2 i2 => q v H2 (e1.trans e2) i2
/-- a promise by data: what the arguments are, when it holds, what comes -/
def spD {α : Type} (T : Tx) (args : α → List De) (pre : α → Prop) (res : α → De) : Sp := fun vs H Q _ => ∃ a, IsA T H (args a) vs ∧ pre a ∧ ∀ v H', Same H H' → Is T H' (res a) v → Q v H'
theorem sd_D {α : Type} {args : α → List De} {pre : α → Prop} {res : α → De} {E : XK} (a : α) (p : pre a) : SD T (spD T args pre res) (args a) (res a) E := fun H vs i Q q => ⟨a, i, p, q⟩
theorem spD_len {α : Type} {args : α → List De} {pre : α → Prop} {res : α → De} {n : Nat} (hn : ∀ a, (args a).length = n) : ∀ vs H Q E, spD T args pre res vs H Q E → vs.length = n := fun vs H Q E ⟨a, i, _⟩ => by rw [isA_len i, hn]
/-! ### rows -/
structure RC (T : Tx) : Prop where
  cls : Cls T.K T.R
  nl : NoAttr T.K T.R "left"
  nm : NoAttr T.K T.R "middle"
  nf : NoAttr T.K T.R "first"
  nr : NoAttr T.K T.R "right"
theorem rowF_left (a b : Addr) (f : Int) (c : Addr) : (rowF a b f c).lookup ("left" : Str) = some (.ref a) := rfl
theorem rowF_middle (a b : Addr) (f : Int) (c : Addr) : (rowF a b f c).lookup ("middle" : Str) = some (.ref b) := rfl
theorem rowF_first (a b : Addr) (f : Int) (c : Addr) : (rowF a b f c).lookup ("first" : Str) = some (.int f) := rfl
theorem rowF_right (a b : Addr) (f : Int) (c : Addr) : (rowF a b f c).lookup ("right" : Str) = some (.ref c) := rfl
theorem rowF_tells (a b : Addr) (f : Int) (c : Addr) : (rowF a b f c).lookup ("tells" : Str) = none := rfl
theorem rowF_told (a b : Addr) (f : Int) (c : Addr) : (rowF a b f c).lookup ("told" : Str) = none := rfl
theorem is_cells {H : Hp} {p : Addr} {cs : List C} (h : H p = some (.tup (cs.map cv))) : Is T H (.tup (dcs cs)) (.ref p) := is_tup.mpr ⟨p, _, rfl, h, isA_vs.mpr rfl⟩
theorem evd_left (rc : RC T) {F : Fm} (h : EvD T te S (.row F)) : EvD T (tFld T.K te "left") S (.tup (dcs F.l)) := fun σ H e Q q =>
  h σ H e _ fun v H1 e1 i1 => by
    obtain ⟨p, dx, a, b, c, h0, h1, h2, h3, h4⟩ := is_row.mp i1
    exact ⟨p, T.R, dx, _, _, h0, h1, rc.cls, rc.nl, rowF_left .., q _ H1 e1 (is_cells h2)⟩
theorem evd_middle (rc : RC T) {F : Fm} (h : EvD T te S (.row F)) : EvD T (tFld T.K te "middle") S (.tup (dcs F.m)) := fun σ H e Q q =>
  h σ H e _ fun v H1 e1 i1 => by
    obtain ⟨p, dx, a, b, c, h0, h1, h2, h3, h4⟩ := is_row.mp i1
    exact ⟨p, T.R, dx, _, _, h0, h1, rc.cls, rc.nm, rowF_middle .., q _ H1 e1 (is_cells h3)⟩
theorem evd_right (rc : RC T) {F : Fm} (h : EvD T te S (.row F)) : EvD T (tFld T.K te "right") S (.tup (dcs F.r)) := fun σ H e Q q =>
  h σ H e _ fun v H1 e1 i1 => by
    obtain ⟨p, dx, a, b, c, h0, h1, h2, h3, h4⟩ := is_row.mp i1
    exact ⟨p, T.R, dx, _, _, h0, h1, rc.cls, rc.nr, rowF_right .., q _ H1 e1 (is_cells h4)⟩
theorem evd_first (rc : RC T) {F : Fm} (h : EvD T te S (.row F)) : EvD T (tFld T.K te "first") S (di F.f) := fun σ H e Q q =>
  h σ H e _ fun v H1 e1 i1 => by
    obtain ⟨p, dx, a, b, c, h0, h1, h2, h3, h4⟩ := is_row.mp i1
    exact ⟨p, T.R, dx, _, _, h0, h1, rc.cls, rc.nf, rowF_first .., q _ H1 e1 (is_v.mpr rfl)⟩
theorem evd_meth {sp : Sp} {E : XK} {t : TA} {m : Str} {F : Fm} (hm : ∀ a b f c, (rowF a b f c).lookup m = none) (h : EvD T ta S (.row F)) (k : EvL T t S ds) (q : SD T sp (.row F :: ds) d E) : EvD T (tMeth T.R m sp [] E ta t) S d := fun σ H e Q w =>
  h σ H e _ fun v H1 e1 i1 => by
    obtain ⟨p, dx, a, b, c, h0, h1, h2, h3, h4⟩ := is_row.mp i1
    refine ⟨p, dx, _, h0, h1, hm .., k σ H1 (e.mono e1) _ fun vs H2 e2 i2 => ?_⟩
    rw [List.append_nil]
    exact q H2 _ (isA_cons.mpr ⟨v, vs, rfl, i1.mono e2, i2⟩) Q fun x H3 e3 i3 => w x H3 ((e1.trans e2).trans e3) i3
/-- o.m(..), o of a class without fields of its own -/
theorem evd_methO {sp : Sp} {E : XK} {t : TA} {m : Str} {U : Addr} (h : EvD T ta S (.obj U)) (k : EvL T t S ds) (q : SD T sp (.obj U :: ds) d E) : EvD T (tMeth U m sp [] E ta t) S d := fun σ H e Q w =>
  h σ H e _ fun v H1 e1 i1 => by
    obtain ⟨p, dx, h0, h1⟩ := is_obj.mp i1
    refine ⟨p, dx, _, h0, h1, rfl, k σ H1 (e.mono e1) _ fun vs H2 e2 i2 => ?_⟩
    rw [List.append_nil]
    exact q H2 _ (isA_cons.mpr ⟨v, vs, rfl, i1.mono e2, i2⟩) Q fun x H3 e3 i3 => w x H3 ((e1.trans e2).trans e3) i3
theorem evd_new0 {U : Addr} : EvD T (tNew0 U) S (.obj U) := fun σ H e Q q x dx hx hd ne => by
  have s : Same H (upd (upd H dx (.own x)) x (.ins U dx [])) := fun b o k => by
    rw [upd_ne (ne_of_none k hx), upd_ne (ne_of_none k hd)]; exact k
  exact q _ _ s (is_obj.mpr ⟨x, dx, rfl, upd_same⟩)
/-! ### slices -/
theorem evo_no : EvO T tNoPart S none := fun σ H e Q q => q H (Same.refl H)
theorem evo_some (h : EvD T te S (di i)) : EvO T (tPart te) S (some i) := fun σ H e Q q => h σ H e _ fun v H1 e1 i1 => ⟨i, is_v.mp i1, q H1 e1⟩
def cutD (ds : List De) (lo hi : Option Int) : List De := (ds.drop (HT.sIx ds.length 0 lo)).take (HT.sIx ds.length ds.length hi - HT.sIx ds.length 0 lo)
theorem isA_cut {H : Hp} {vs : List V} {lo hi : Option Int} (h : IsA T H ds vs) : IsA T H (cutD ds lo hi) (cutV vs lo hi) := by
  unfold cutD cutV
  rw [isA_len h]
  exact isA_take _ (isA_drop _ h)
theorem evd_slL {to tu : TO} {lo hi : Option Int} (h : EvD T te S (.lst ds)) (h1 : EvO T to S lo) (h2 : EvO T tu S hi) : EvD T (tSl (rSlL T.K) te to tu) S (.lst (cutD ds lo hi)) := fun σ H e Q q =>
  h σ H e _ fun v H1 e1 i1 => h1 σ H1 (e.mono e1) _ fun H2 e2 => h2 σ H2 (e.mono (e1.trans e2)) _ fun H3 e3 => by
    obtain ⟨p, vs, r1, r2, r3⟩ := is_lst.mp (i1.mono (e2.trans e3))
    exact ⟨p, vs, r1, SqL.of r2, fun l hl => q _ _ (((e1.trans e2).trans e3).trans (same_new hl)) (is_lst.mpr ⟨l, _, rfl, upd_same, (isA_cut r3).mono (same_new hl)⟩)⟩
theorem evd_slT {to tu : TO} {lo hi : Option Int} (h : EvD T te S (.tup ds)) (h1 : EvO T to S lo) (h2 : EvO T tu S hi) (hw : ¬ (HT.sIx ds.length 0 lo = 0 ∧ HT.sIx ds.length ds.length hi = ds.length)) : EvD T (tSl (rSlT T.K) te to tu) S (.tup (cutD ds lo hi)) := fun σ H e Q q =>
  h σ H e _ fun v H1 e1 i1 => h1 σ H1 (e.mono e1) _ fun H2 e2 => h2 σ H2 (e.mono (e1.trans e2)) _ fun H3 e3 => by
    obtain ⟨p, vs, r1, r2, r3⟩ := is_tup.mp (i1.mono (e2.trans e3))
    exact ⟨p, vs, r1, SqT.of r2, by rw [isA_len r3]; exact hw, fun l hl => q _ _ (((e1.trans e2).trans e3).trans (same_new hl)) (is_tup.mpr ⟨l, _, rfl, upd_same, (isA_cut r3).mono (same_new hl)⟩)⟩
theorem cut_take {k : Nat} (hk : k ≤ ds.length) (e : i = (k : Int)) : cutD ds none (some i) = ds.take k := by
  subst e
  unfold cutD
  rw [HT.sIx_none, HT.sIx_nat]
  simp only [List.drop_zero, Nat.sub_zero]
  rw [Nat.min_eq_left hk]
theorem cut_mid {k m : Nat} (hm : m ≤ ds.length) (e : i = (k : Int)) (e2 : j = (m : Int)) : cutD ds (some i) (some j) = (ds.drop k).take (m - k) := by
  subst e e2
  unfold cutD
  rw [HT.sIx_nat, HT.sIx_nat, Nat.min_eq_left hm]
  by_cases h : k ≤ ds.length
  · rw [Nat.min_eq_left h]
  · rw [Nat.min_eq_right (by omega), List.drop_eq_nil_of_le (Nat.le_refl _), List.drop_eq_nil_of_le (by omega)]
    simp
theorem cut_drop {k : Nat} (e : i = (k : Int)) : cutD ds (some i) none = ds.drop k := by
  subst e
  unfold cutD
  rw [HT.sIx_nat, HT.sIx_none]
  by_cases h : k ≤ ds.length
  · rw [Nat.min_eq_left h]
    exact List.take_of_length_le (by rw [List.length_drop]; exact Nat.le_refl _)
  · rw [Nat.min_eq_right (by omega), List.drop_eq_nil_of_le (Nat.le_refl _), List.drop_eq_nil_of_le (by omega)]
    simp
/-! ### comprehensions -/
theorem wipe_one (σ : L2.St) (n : Nat) (x : V) : wipe ((wipe σ [n]).set n (some x)) [n] = wipe σ [n] := by
  show ((σ.set n none).set n (some x)).set n none = σ.set n none
  rw [List.set_set, List.set_set]
theorem env_own {H : Hp} {σ : L2.St} {n : Nat} {x : V} (e : Env T H σ S) (k : Is T H d x) : Env T H ((wipe σ [n]).set n (some x)) (S.set n (some d)) := by
  have h := Env.set (i := n) (Env.unset (i := n) (o := none) e) k
  have e2 : (List.set S n none).set n (some d) = List.set S n (some d) := List.set_set ..
  rw [e2] at h
  exact h
/-- what a comprehension's list holds on the way -/
def Lw (T : Tx) (H0 : Hp) (D : Addr) (ds : Nat → List De) (i : Nat) (H : Hp) : Prop := H0 D = none ∧ Same H0 H ∧ ∃ vs, H D = some (.lst vs) ∧ IsA T H (ds i) vs
theorem lw_yes {H0 H : Hp} {D : Addr} {f : Nat → List De} {n : Nat} {σ : L2.St} (p : Lw T H0 D f n H) (hn : n ≤ 100000) (hl : (f n).length ≤ n) (hE : ∀ H', Same H0 H' → Env T H' σ S) (h : EvD T te S d) (e : f (n + 1) = f n ++ [d]) (hd : De.noLs (f (n + 1)) = true) :
    te σ H fun y H4 => ∃ acc, H4 D = some (.lst acc) ∧ acc.length < sizeLine ∧ Lw T H0 D f (n + 1) (upd H4 D (.lst (acc ++ [y]))) := by
  obtain ⟨p1, p2, vs, p3, p4⟩ := p
  refine h σ H (hE H p2) _ fun y H4 e4 i4 => ⟨vs, e4 _ _ p3, by rw [isA_len p4, sizeLine_eq]; omega, p1, fun b o q => ?_, _, upd_same, ?_⟩
  · rw [upd_ne (ne_of_none q p1)]
    exact e4 _ _ (p2 _ _ q)
  · have := isA_noL (ys := vs ++ [y]) (e4 _ _ p3) hd (by rw [e]; exact isA_snoc (p4.mono e4) i4)
    exact this
theorem evd_lcL {α : Type} {n : Nat} (xs : List α) (g h : α → De) (hs : EvD T tl S (.lst (xs.map g))) (hz : xs.length ≤ 100000) (he : ∀ x ∈ xs, EvD T te (S.set n (some (g x))) (h x)) (hn : ∀ x ∈ xs, (h x).noL = true) :
    EvD T (tLc (iList T.K tl) (gName n) tYes te [n]) S (.lst (xs.map h)) := fun σ H e Q q =>
  hs σ H e _ fun v H1 e1 i1 => by
    obtain ⟨p, vs, r1, r2, r3⟩ := is_lst.mp i1
    have hlen : vs.length = xs.length := by rw [isA_len r3, List.length_map]
    refine ⟨p, r1, ⟨vs, SqL.of r2⟩, fun D hD => lc_list (xs := vs) (Lw T H1 D (fun k => (xs.take k).map h)) ⟨hD, same_new hD, _, upd_same, isA_nil.mpr rfl⟩ (fun i H' _ pv => SqL.of (pv.2.1 _ _ r2)) (fun i x H' hx pv => ?_) (fun H' pv => ?_)⟩
    · have hi : i < vs.length := (List.getElem?_eq_some_iff.mp hx).1
      obtain ⟨d', hd', hI⟩ := isA_get' r3 hx
      obtain ⟨z, hz', hg⟩ : ∃ z, xs[i]? = some z ∧ g z = d' := by
        rw [List.getElem?_map] at hd'
        cases q : xs[i]? with
        | none => rw [q] at hd'; cases hd'
        | some z => rw [q] at hd'; exact ⟨z, rfl, Option.some.inj hd'⟩
      refine ⟨wipe_one σ n x, ?_⟩
      refine lw_yes pv (by omega) (by rw [List.length_map, List.length_take]; omega) (fun H'' s => env_own (e.mono (e1.trans s)) (by rw [← hg] at hI; exact hI.mono s)) (he z (List.mem_of_getElem? hz')) ?_ ?_
      · rw [List.take_add_one, hz', List.map_append]; rfl
      · refine noLs_of fun d'' hm => ?_
        obtain ⟨y, hy, rfl⟩ := List.mem_map.mp hm
        exact hn y (List.mem_of_mem_take hy)
    · obtain ⟨p1, p2, ws, p3, p4⟩ := pv
      have p5 : IsA T H' ((xs.take vs.length).map h) ws := p4
      rw [hlen, List.take_length] at p5
      exact q _ H' (e1.trans p2) (is_lst.mpr ⟨D, ws, rfl, p3, p5⟩)
theorem evd_lcT {α : Type} {n : Nat} (xs : List α) (g h : α → De) (hs : EvD T tl S (.tup (xs.map g))) (hz : xs.length ≤ 100000) (he : ∀ x ∈ xs, EvD T te (S.set n (some (g x))) (h x)) (hn : ∀ x ∈ xs, (h x).noL = true) :
    EvD T (tLc (iTup T.K tl) (gName n) tYes te [n]) S (.lst (xs.map h)) := fun σ H e Q q =>
  hs σ H e _ fun v H1 e1 i1 => by
    obtain ⟨p, vs, r1, r2, r3⟩ := is_tup.mp i1
    have hlen : vs.length = xs.length := by rw [isA_len r3, List.length_map]
    refine ⟨p, r1, ⟨vs, SqT.of r2⟩, fun D hD => lc_tup (xs := vs) (Lw T H1 D (fun k => (xs.take k).map h)) ⟨hD, same_new hD, _, upd_same, isA_nil.mpr rfl⟩ (fun i H' _ pv => SqT.of (pv.2.1 _ _ r2)) (fun i x H' hx pv => ?_) (fun H' pv => ?_)⟩
    · have hi : i < vs.length := (List.getElem?_eq_some_iff.mp hx).1
      obtain ⟨d', hd', hI⟩ := isA_get' r3 hx
      obtain ⟨z, hz', hg⟩ : ∃ z, xs[i]? = some z ∧ g z = d' := by
        rw [List.getElem?_map] at hd'
        cases q : xs[i]? with
        | none => rw [q] at hd'; cases hd'
        | some z => rw [q] at hd'; exact ⟨z, rfl, Option.some.inj hd'⟩
      refine ⟨wipe_one σ n x, ?_⟩
      refine lw_yes pv (by omega) (by rw [List.length_map, List.length_take]; omega) (fun H'' s => env_own (e.mono (e1.trans s)) (by rw [← hg] at hI; exact hI.mono s)) (he z (List.mem_of_getElem? hz')) ?_ ?_
      · rw [List.take_add_one, hz', List.map_append]; rfl
      · refine noLs_of fun d'' hm => ?_
        obtain ⟨y, hy, rfl⟩ := List.mem_map.mp hm
        exact hn y (List.mem_of_mem_take hy)
    · obtain ⟨p1, p2, ws, p3, p4⟩ := pv
      have p5 : IsA T H' ((xs.take vs.length).map h) ws := p4
      rw [hlen, List.take_length] at p5
      exact q _ H' (e1.trans p2) (is_lst.mpr ⟨D, ws, rfl, p3, p5⟩)
/-- with a test -/
theorem evd_lcF {α : Type} {n : Nat} (xs : List α) (g h : α → De) (pr : α → Bool) (hs : EvD T tl S (.lst (xs.map g))) (hz : xs.length ≤ 100000) (ht : ∀ x ∈ xs, EvB T tt (S.set n (some (g x))) (pr x)) (he : ∀ x ∈ xs, pr x = true → EvD T te (S.set n (some (g x))) (h x)) (hn : ∀ x ∈ xs, (h x).noL = true) :
    EvD T (tLc (iList T.K tl) (gName n) tt te [n]) S (.lst ((xs.filter pr).map h)) := fun σ H e Q q =>
  hs σ H e _ fun v H1 e1 i1 => by
    obtain ⟨p, vs, r1, r2, r3⟩ := is_lst.mp i1
    have hlen : vs.length = xs.length := by rw [isA_len r3, List.length_map]
    refine ⟨p, r1, ⟨vs, SqL.of r2⟩, fun D hD => lc_list (xs := vs) (Lw T H1 D (fun k => ((xs.take k).filter pr).map h)) ⟨hD, same_new hD, _, upd_same, isA_nil.mpr rfl⟩ (fun i H' _ pv => SqL.of (pv.2.1 _ _ r2)) (fun i x H' hx pv => ?_) (fun H' pv => ?_)⟩
    · have hi : i < vs.length := (List.getElem?_eq_some_iff.mp hx).1
      obtain ⟨d', hd', hI⟩ := isA_get' r3 hx
      obtain ⟨z, hz', hg⟩ : ∃ z, xs[i]? = some z ∧ g z = d' := by
        rw [List.getElem?_map] at hd'
        cases q : xs[i]? with
        | none => rw [q] at hd'; cases hd'
        | some z => rw [q] at hd'; exact ⟨z, rfl, Option.some.inj hd'⟩
      have hE : ∀ H'', Same H1 H'' → Env T H'' ((wipe σ [n]).set n (some x)) (S.set n (some (g z))) := fun H'' s => env_own (e.mono (e1.trans s)) (by rw [← hg] at hI; exact hI.mono s)
      refine ⟨wipe_one σ n x, ht z (List.mem_of_getElem? hz') _ H' (hE H' pv.2.1) _ fun H3 e3 => ?_⟩
      have pv3 : Lw T H1 D (fun k => ((xs.take k).filter pr).map h) i H3 := by
        obtain ⟨p1, p2, ws, p3, p4⟩ := pv
        exact ⟨p1, p2.trans e3, ws, e3 _ _ p3, p4.mono e3⟩
      have ht' : xs.take (i + 1) = xs.take i ++ [z] := by rw [List.take_add_one, hz']; rfl
      cases hp : pr z with
      | true =>
        rw [if_pos rfl]
        refine lw_yes pv3 (by omega) (by rw [List.length_map]; have := List.length_filter_le pr (xs.take i); rw [List.length_take] at this; omega) hE (he z (List.mem_of_getElem? hz') hp) ?_ ?_
        · rw [ht', List.filter_append, List.map_append]
          simp [List.filter_cons, hp]
        · refine noLs_of fun d'' hm => ?_
          obtain ⟨y, hy, rfl⟩ := List.mem_map.mp hm
          exact hn y (List.mem_of_mem_take (List.mem_filter.mp hy).1)
      | false =>
        rw [if_neg Bool.false_ne_true]
        obtain ⟨p1, p2, ws, p3, p4⟩ := pv3
        refine ⟨p1, p2, ws, p3, ?_⟩
        have e2 : (xs.take (i + 1)).filter pr = (xs.take i).filter pr := by
          rw [ht', List.filter_append]
          simp [List.filter_cons, hp]
        show IsA T H3 (((xs.take (i + 1)).filter pr).map h) ws
        rw [e2]
        exact p4
    · obtain ⟨p1, p2, ws, p3, p4⟩ := pv
      have p5 : IsA T H' (((xs.take vs.length).filter pr).map h) ws := p4
      rw [hlen, List.take_length] at p5
      exact q _ H' (e1.trans p2) (is_lst.mpr ⟨D, ws, rfl, p3, p5⟩)
theorem lc_rng {σ : L2.St} {H H1 : Hp} {Q : VK} {n : Nat} {lo : Int} {m : Nat} {h : Nat → De} (e : Env T H σ S) (e1 : Same H H1) (hz : m ≤ 100000) (he : ∀ k, k < m → EvD T te (S.set n (some (di (lo + (k : Int))))) (h k)) (hn : ∀ k, k < m → (h k).noL = true)
    (q : ∀ v H', Same H H' → Is T H' (.lst ((List.range m).map h)) v → Q v H') : ∀ D, H1 D = none → ∃ W : Nat → Nat → Hp → Prop, (∃ m, W 0 m (upd H1 D (.lst []))) ∧ ∀ i m' H, W i m' H →
      ((Itr lo m).stop i H ∧ Q (.ref D) H) ∨ ((Itr lo m).go i H ∧ ∃ Nx : Hp → Prop, (∀ H', Nx H' → ∃ m'', m'' < m' ∧ W (i + 1) m'' H') ∧ ∀ x H', (Itr lo m).yld i H x H' → gName n x (wipe σ [n]) H' fun σ2 H2 => wipe σ2 [n] = wipe σ [n] ∧ tYes σ2 H2 fun b H3 =>
        if b = true then te σ2 H3 fun y H4 => ∃ acc, H4 D = some (.lst acc) ∧ acc.length < sizeLine ∧ Nx (upd H4 D (.lst (acc ++ [y]))) else Nx H3) := fun D hD => by
  refine lc_range (Lw T H1 D (fun k => (List.range k).map h)) ⟨hD, same_new hD, _, upd_same, isA_nil.mpr rfl⟩ (fun i H' hi pv => ?_) (fun H' pv => ?_)
  · refine ⟨wipe_one σ n _, ?_⟩
    refine lw_yes pv (by omega) (by rw [List.length_map, List.length_range]; exact Nat.le_refl _) (fun H'' s => env_own (e.mono (e1.trans s)) (is_v.mpr rfl)) (he i hi) ?_ ?_
    · rw [List.range_succ, List.map_append]; rfl
    · refine noLs_of fun d'' hm => ?_
      obtain ⟨y, hy, rfl⟩ := List.mem_map.mp hm
      exact hn y (by have := List.mem_range.mp hy; omega)
  · obtain ⟨p1, p2, ws, p3, p4⟩ := pv
    exact q _ H' (e1.trans p2) (is_lst.mpr ⟨D, ws, rfl, p3, p4⟩)
theorem evd_lcR2 {n : Nat} {lo hi : Int} {ta : TA} (h : Nat → De) (hs : EvL T ta S [di lo, di hi]) (hz : hi - lo ≤ 100000) (he : ∀ k, k < (hi - lo).toNat → EvD T te (S.set n (some (di (lo + (k : Int))))) (h k)) (hn : ∀ k, k < (hi - lo).toNat → (h k).noL = true) :
    EvD T (tLc (iAny2 ta) (gName n) tYes te [n]) S (.lst ((List.range (hi - lo).toNat).map h)) := fun σ H e Q q =>
  hs σ H e _ fun vs H1 e1 i1 => by
    obtain ⟨v, r, rfl, h1, h2⟩ := isA_cons.mp i1
    obtain ⟨v', r', rfl, h1', h2'⟩ := isA_cons.mp h2
    rw [isA_nil.mp h2', is_v.mp h1, is_v.mp h1']
    exact ⟨lo, hi, rfl, lc_rng e e1 (by omega) he hn q⟩
theorem evd_lcR1 {n : Nat} {hi : Int} {ta : TA} (h : Nat → De) (hs : EvL T ta S [di hi]) (hz : hi ≤ 100000) (he : ∀ k, k < hi.toNat → EvD T te (S.set n (some (di (k : Int)))) (h k)) (hn : ∀ k, k < hi.toNat → (h k).noL = true) :
    EvD T (tLc (iAny1 ta) (gName n) tYes te [n]) S (.lst ((List.range hi.toNat).map h)) := fun σ H e Q q =>
  hs σ H e _ fun vs H1 e1 i1 => by
    obtain ⟨v, r, rfl, h1, h2⟩ := isA_cons.mp i1
    rw [isA_nil.mp h2, is_v.mp h1]
    exact ⟨hi, rfl, lc_rng e e1 (by omega) (fun k hk => by rw [Int.zero_add]; exact he k hk) hn q⟩
/-! ### built-ins over lists -/
theorem evd_all {bs : List Bool} {t : TA} (h : EvL T t S [.lst (bs.map db)]) : EvD T (tCB (rAll T.K) t) S (db (bs.all id)) := evd_cb h fun H xs hx Q q => by
  obtain ⟨v, r, rfl, h1, h2⟩ := isA_cons.mp hx
  obtain ⟨p, vs, rfl, h3, h4⟩ := is_lst.mp h1
  rw [isA_nil.mp h2]
  exact ⟨p, bs, rfl, by rw [isA_vs.mp h4] at h3; exact SqL.of h3, q _ H (Same.refl H) (is_v.mpr rfl)⟩
theorem evd_minD {ns : List Int} {k : Bool} (h : EvD T te S (.lst (ns.map di))) : EvD T (tMinD T.K k te) S (di (if k then minD ns else maxD ns)) := fun σ H e Q q =>
  h σ H e _ fun v H1 e1 i1 => by
    obtain ⟨p, vs, rfl, h3, h4⟩ := is_lst.mp i1
    refine ⟨p, ns, rfl, by rw [isA_vs.mp h4] at h3; exact SqL.of h3, ?_⟩
    have e2 : mnD ns = minD ns := by cases ns <;> rfl
    have e3 : mxD ns = maxD ns := by cases ns <;> rfl
    rw [e2, e3]
    exact q _ H1 e1 (is_v.mpr rfl)
theorem dc_min {ns : List Int} (hne : ns ≠ []) : DC T (rMin T.K) [.lst (ns.map di)] (di (minD ns)) := fun H xs hx Q q => by
  obtain ⟨v, r, rfl, h1, h2⟩ := isA_cons.mp hx
  obtain ⟨p, vs, rfl, h3, h4⟩ := is_lst.mp h1
  rw [isA_nil.mp h2]
  exact ⟨p, ns, rfl, by rw [isA_vs.mp h4] at h3; exact SqL.of h3, List.length_pos_iff.mpr hne, fun m h5 h6 => by rw [← minD_uniq h5 h6]; exact q _ H (Same.refl H) (is_v.mpr rfl)⟩
theorem dc_max {ns : List Int} (hne : ns ≠ []) : DC T (rMax T.K) [.lst (ns.map di)] (di (maxD ns)) := fun H xs hx Q q => by
  obtain ⟨v, r, rfl, h1, h2⟩ := isA_cons.mp hx
  obtain ⟨p, vs, rfl, h3, h4⟩ := is_lst.mp h1
  rw [isA_nil.mp h2]
  exact ⟨p, ns, rfl, by rw [isA_vs.mp h4] at h3; exact SqL.of h3, List.length_pos_iff.mpr hne, fun m h5 h6 => by rw [← maxD_uniq h5 h6]; exact q _ H (Same.refl H) (is_v.mpr rfl)⟩
def rMin2 : List V → Hp → VK → Prop := fun xs H Q => ∃ i j, xs = [.int i, .int j] ∧ Q (.int (if j < i then j else i)) H
def rMax2 : List V → Hp → VK → Prop := fun xs H Q => ∃ i j, xs = [.int i, .int j] ∧ Q (.int (if j > i then j else i)) H
theorem call_min2' {X : Cx} (hc : X.calm = true) : CallR X (.builtin "min") rMin2 := call_min2 hc
theorem call_max2' {X : Cx} (hc : X.calm = true) : CallR X (.builtin "max") rMax2 := call_max2 hc
theorem dc_min2 : DC T rMin2 [di i, di j] (di (min i j)) := fun H xs hx Q q => by
  obtain ⟨v, r, rfl, h1, h2⟩ := isA_cons.mp hx
  obtain ⟨v', r', rfl, h1', h2'⟩ := isA_cons.mp h2
  rw [isA_nil.mp h2', is_v.mp h1, is_v.mp h1']
  refine ⟨i, j, rfl, ?_⟩
  have : (if j < i then j else i) = min i j := by split <;> omega
  rw [this]
  exact q _ H (Same.refl H) (is_v.mpr rfl)
theorem dc_max2 : DC T rMax2 [di i, di j] (di (max i j)) := fun H xs hx Q q => by
  obtain ⟨v, r, rfl, h1, h2⟩ := isA_cons.mp hx
  obtain ⟨v', r', rfl, h1', h2'⟩ := isA_cons.mp h2
  rw [isA_nil.mp h2', is_v.mp h1, is_v.mp h1']
  refine ⟨i, j, rfl, ?_⟩
  have : (if j > i then j else i) = max i j := by split <;> omega
  rw [this]
  exact q _ H (Same.refl H) (is_v.mpr rfl)
def rInt1 : List V → Hp → VK → Prop := fun xs H Q => (∃ i, xs = [.int i] ∧ Q (.int i) H) ∨ ∃ k, xs = [.bl k] ∧ Q (.int (if k then 1 else 0)) H
theorem call_int1' {X : Cx} : CallR X (.type "int") rInt1 := call_int1
theorem dc_intB {k : Bool} : DC T rInt1 [db k] (di (if k then 1 else 0)) := fun H xs hx Q q => by
  obtain ⟨v, r, rfl, h1, h2⟩ := isA_cons.mp hx
  rw [isA_nil.mp h2, is_v.mp h1]
  exact .inr ⟨k, rfl, q _ H (Same.refl H) (is_v.mpr rfl)⟩
end
/-! ### statements -/
/-- from S the block goes on in some S' of Nx, or returns some value of Rt -/
def Run (T : Tx) (ts : TS) (S : Sl) (Nx : Sl → Prop) (Rt : De → Prop) : Prop := ∀ (D : Ends) σ H, Env T H σ S → (∀ S' σ' H', Nx S' → Same H H' → Env T H' σ' S' → D.nx σ' H') → (∀ d v H', Rt d → Same H H' → Is T H' d v → D.rt v H') → ts D σ H
section
variable {ts tu tw : TS} {te tl : TE} {tt : TT} {d : De} {ds : List De} {Nx : Sl → Prop} {Rt : De → Prop}
theorem run_seq (h : Run T ts S (fun S' => Run T tu S' Nx Rt) Rt) : Run T (tSeq ts tu) S Nx Rt := fun D σ H e n r =>
  h _ σ H e (fun S' σ' H' k s e' => k D σ' H' e' (fun S2 σ2 H2 a b c => n S2 σ2 H2 a (s.trans b) c) fun d v H2 a b c => r d v H2 a (s.trans b) c) r
theorem run_next (h : Nx S) : Run T tNext S Nx Rt := fun D σ H e n r => n S σ H h (Same.refl H) e
theorem run_asg {i : Nat} (h : EvD T te S d) (k : Nx (S.set i (some d))) : Run T (tAsg te (gName i)) S Nx Rt := fun D σ H e n r =>
  h σ H e _ fun v H1 e1 i1 => n _ _ H1 k e1 ((e.mono e1).set i1)
theorem run_drop (h : EvD T te S d) (k : Nx S) : Run T (tDrop te) S Nx Rt := fun D σ H e n r => h σ H e _ fun v H1 e1 i1 => n _ _ H1 k e1 (e.mono e1)
theorem run_ret (h : EvD T te S d) (k : Rt d) : Run T (tRet te) S Nx Rt := fun D σ H e n r => h σ H e _ fun v H1 e1 i1 => r d v H1 k e1 i1
theorem run_retN (k : Rt (.v .non)) : Run T tRetN S Nx Rt := fun D σ H e n r => r _ _ H k (Same.refl H) (is_v.mpr rfl)
theorem run_if {b : Bool} (h : EvB T tt S b) (h1 : b = true → Run T ts S Nx Rt) (h2 : b = false → Run T tu S Nx Rt) : Run T (tIfS tt ts tu) S Nx Rt := fun D σ H e n r =>
  h σ H e _ fun H1 e1 => by
    cases b with
    | true => exact h1 rfl D σ H1 (e.mono e1) (fun S2 σ2 H2 a b c => n S2 σ2 H2 a (e1.trans b) c) fun d v H2 a b c => r d v H2 a (e1.trans b) c
    | false => exact h2 rfl D σ H1 (e.mono e1) (fun S2 σ2 H2 a b c => n S2 σ2 H2 a (e1.trans b) c) fun d v H2 a b c => r d v H2 a (e1.trans b) c
theorem run_mono {Nx' : Sl → Prop} {Rt' : De → Prop} (h : Run T ts S Nx Rt) (h1 : ∀ S, Nx S → Nx' S) (h2 : ∀ d, Rt d → Rt' d) : Run T ts S Nx' Rt' := fun D σ H e n r =>
  h D σ H e (fun S' σ' H' a b c => n S' σ' H' (h1 _ a) b c) fun d v H' a b c => r d v H' (h2 _ a) b c
/-- a, b, .. = a tuple -/
def setsN : List Nat → List De → Sl → Sl
  | i :: is, d :: ds, S => setsN is ds (S.set i (some d))
  | _, _, S => S
def gsN : List Nat → TGs
  | [] => gNil
  | i :: is => gCons (gName i) (gsN is)
theorem sets_ok : ∀ {is : List Nat} {ds : List De} {vs : List V} {S : Sl} {σ : L2.St} {H : Hp} {Q : L2.St → Hp → Prop}, is.length = ds.length → Env T H σ S → IsA T H ds vs → (∀ σ', Env T H σ' (setsN is ds S) → Q σ' H) → gsN is vs σ H Q
  | [], [], vs, S, σ, H, Q, _, e, i, q => ⟨isA_nil.mp i, q σ e⟩
  | [], d :: ds, _, _, _, _, _, h, _, _, _ => by simp at h
  | i :: is, [], _, _, _, _, _, h, _, _, _ => by simp at h
  | i :: is, d :: ds, vs, S, σ, H, Q, h, e, k, q => by
    obtain ⟨v, r, rfl, h1, h2⟩ := isA_cons.mp k
    exact ⟨v, r, rfl, sets_ok (is := is) (ds := ds) (by simpa using h) (e.set h1) h2 q⟩
theorem run_unT {is : List Nat} {n : Nat} (h : EvD T te S (.tup ds)) (hn : ds.length = n) (hi : is.length = n) (k : Nx (setsN is ds S)) : Run T (tAsg te (gTup T.K n (gsN is))) S Nx Rt := fun D σ H e nn r =>
  h σ H e _ fun v H1 e1 i1 => by
    obtain ⟨p, vs, rfl, h3, h4⟩ := is_tup.mp i1
    exact ⟨p, vs, rfl, SqT.of h3, by rw [isA_len h4, hn], sets_ok (by rw [hi, hn]) (e.mono e1) h4 fun σ' e' => nn _ _ H1 k e1 e'⟩
theorem run_unL {is : List Nat} {n : Nat} (h : EvD T te S (.lst ds)) (hn : ds.length = n) (hi : is.length = n) (k : Nx (setsN is ds S)) : Run T (tAsg te (gLst T.K n (gsN is))) S Nx Rt := fun D σ H e nn r =>
  h σ H e _ fun v H1 e1 i1 => by
    obtain ⟨p, vs, rfl, h3, h4⟩ := is_lst.mp i1
    exact ⟨p, vs, rfl, SqL.of h3, by rw [isA_len h4, hn], sets_ok (by rw [hi, hn]) (e.mono e1) h4 fun σ' e' => nn _ _ H1 k e1 e'⟩
theorem run_par {i j : Nat} {ta : TA} {a b : De} (h : EvL T ta S [a, b]) (k : Nx ((S.set i (some a)).set j (some b))) : Run T (tPar i j ta) S Nx Rt := fun D σ H e n r =>
  h σ H e _ fun vs H1 e1 i1 => by
    obtain ⟨v, r', rfl, h1, h2⟩ := isA_cons.mp i1
    obtain ⟨v', r'', rfl, h1', h2'⟩ := isA_cons.mp h2
    rw [isA_nil.mp h2']
    exact ⟨v, v', rfl, n _ _ H1 k e1 (((e.mono e1).set h1).set h1')⟩
/-- for x in range: Sk k is what holds ahead of turn k -/
theorem run_forR {i : Nat} {lo : Int} {m : Nat} {σ : L2.St} {H1 : Hp} {D : Ends} (Sk : Nat → Sl) (H0 : Hp) (e0 : Same H0 H1) (h0 : Env T H1 σ (Sk 0))
    (hs : ∀ k, k < m → Run T ts ((Sk k).set i (some (di (lo + (k : Int))))) (fun S' => ∀ H σ, Env T H σ S' → Env T H σ (Sk (k + 1))) Rt)
    (n : ∀ σ' H', Same H0 H' → Env T H' σ' (Sk m) → D.nx σ' H') (r : ∀ d v H', Rt d → Same H0 H' → Is T H' d v → D.rt v H') :
    ∃ W : Nat → Nat → L2.St → Hp → Prop, (∃ m, W 0 m σ H1) ∧ ∀ k m' σ H, W k m' σ H →
      ((Itr lo m).stop k H ∧ D.nx σ H) ∨ ((Itr lo m).go k H ∧ ∃ N : L2.St → Hp → Prop, (∀ σ' H', N σ' H' → ∃ m'', m'' < m' ∧ W (k + 1) m'' σ' H') ∧ ∀ x H', (Itr lo m).yld k H x H' → gName i x σ H' fun σ2 H2 => ts { D with nx := N, ct := N, bk := D.nx } σ2 H2) := by
  refine for_range (fun k σ H => Same H0 H ∧ Env T H σ (Sk k)) ⟨e0, h0⟩ (fun k σ H hk p => ?_) (fun σ H p => n σ H p.1 p.2)
  exact hs k hk _ _ H (p.2.set (is_v.mpr rfl)) (fun S' σ' H' a b c => ⟨p.1.trans b, a _ _ c⟩) (fun d v H' a b c => r d v H' a (p.1.trans b) c)
theorem run_for2 {i : Nat} {lo hi : Int} {ta : TA} (Sk : Nat → Sl) (h : EvL T ta S [di lo, di hi]) (h0 : ∀ H σ, Env T H σ S → Env T H σ (Sk 0))
    (hs : ∀ k, k < (hi - lo).toNat → Run T ts ((Sk k).set i (some (di (lo + (k : Int))))) (fun S' => ∀ H σ, Env T H σ S' → Env T H σ (Sk (k + 1))) Rt) (hn : Nx (Sk (hi - lo).toNat)) : Run T (tFor (iAny2 ta) (gName i) ts) S Nx Rt := fun D σ H e n r =>
  h σ H e _ fun vs H1 e1 i1 => by
    obtain ⟨v, r', rfl, h1, h2⟩ := isA_cons.mp i1
    obtain ⟨v', r'', rfl, h1', h2'⟩ := isA_cons.mp h2
    rw [isA_nil.mp h2', is_v.mp h1, is_v.mp h1']
    exact ⟨lo, hi, rfl, run_forR Sk H e1 (h0 _ _ (e.mono e1)) hs (fun σ' H' s e' => n _ σ' H' hn s e') r⟩
theorem run_for1 {i : Nat} {hi : Int} {ta : TA} (Sk : Nat → Sl) (h : EvL T ta S [di hi]) (h0 : ∀ H σ, Env T H σ S → Env T H σ (Sk 0))
    (hs : ∀ k, k < hi.toNat → Run T ts ((Sk k).set i (some (di (k : Int)))) (fun S' => ∀ H σ, Env T H σ S' → Env T H σ (Sk (k + 1))) Rt) (hn : Nx (Sk hi.toNat)) : Run T (tFor (iAny1 ta) (gName i) ts) S Nx Rt := fun D σ H e n r =>
  h σ H e _ fun vs H1 e1 i1 => by
    obtain ⟨v, r', rfl, h1, h2⟩ := isA_cons.mp i1
    rw [isA_nil.mp h2, is_v.mp h1]
    exact ⟨hi, rfl, run_forR (lo := 0) Sk H e1 (h0 _ _ (e.mono e1)) (fun k hk => by rw [Int.zero_add]; exact hs k hk) (fun σ' H' s e' => n _ σ' H' hn s e') r⟩
theorem run_forL {i : Nat} (Sk : Nat → Sl) (h : EvD T tl S (.lst ds)) (h0 : ∀ H σ, Env T H σ S → Env T H σ (Sk 0))
    (hs : ∀ k d, ds[k]? = some d → Run T ts ((Sk k).set i (some d)) (fun S' => ∀ H σ, Env T H σ S' → Env T H σ (Sk (k + 1))) Rt) (hn : Nx (Sk ds.length)) : Run T (tFor (iList T.K tl) (gName i) ts) S Nx Rt := fun D σ H e n r =>
  h σ H e _ fun v H1 e1 i1 => by
    obtain ⟨p, vs, rfl, h3, h4⟩ := is_lst.mp i1
    refine ⟨p, rfl, ⟨vs, SqL.of h3⟩, for_list (xs := vs) (fun k σ H' => Same H1 H' ∧ Env T H' σ (Sk k)) ⟨Same.refl _, h0 _ _ (e.mono e1)⟩ (fun k σ H' _ p => SqL.of (p.1 _ _ h3)) (fun k x σ H' hx p => ?_) (fun σ H' p => ?_)⟩
    · obtain ⟨d, hd, hI⟩ := isA_get' h4 hx
      exact hs k d hd _ _ H' (p.2.set (hI.mono p.1)) (fun S' σ' H2 a b c => ⟨p.1.trans b, a _ _ c⟩) (fun d v H2 a b c => r d v H2 a ((e1.trans p.1).trans b) c)
    · have p2 := p.2
      rw [isA_len h4] at p2
      exact n _ _ H' hn (e1.trans p.1) p2
theorem run_forT {i : Nat} (Sk : Nat → Sl) (h : EvD T tl S (.tup ds)) (h0 : ∀ H σ, Env T H σ S → Env T H σ (Sk 0))
    (hs : ∀ k d, ds[k]? = some d → Run T ts ((Sk k).set i (some d)) (fun S' => ∀ H σ, Env T H σ S' → Env T H σ (Sk (k + 1))) Rt) (hn : Nx (Sk ds.length)) : Run T (tFor (iTup T.K tl) (gName i) ts) S Nx Rt := fun D σ H e n r =>
  h σ H e _ fun v H1 e1 i1 => by
    obtain ⟨p, vs, rfl, h3, h4⟩ := is_tup.mp i1
    refine ⟨p, rfl, ⟨vs, SqT.of h3⟩, for_tup (xs := vs) (fun k σ H' => Same H1 H' ∧ Env T H' σ (Sk k)) ⟨Same.refl _, h0 _ _ (e.mono e1)⟩ (fun k σ H' _ p => SqT.of (p.1 _ _ h3)) (fun k x σ H' hx p => ?_) (fun σ H' p => ?_)⟩
    · obtain ⟨d, hd, hI⟩ := isA_get' h4 hx
      exact hs k d hd _ _ H' (p.2.set (hI.mono p.1)) (fun S' σ' H2 a b c => ⟨p.1.trans b, a _ _ c⟩) (fun d v H2 a b c => r d v H2 a ((e1.trans p.1).trans b) c)
    · have p2 := p.2
      rw [isA_len h4] at p2
      exact n _ _ H' hn (e1.trans p.1) p2
/-- while, by data a: the slots, a measure, what holds, the test's answer -/
theorem run_while {α : Type} (Sa : α → Sl) (μ : α → Nat) (P : α → Prop) (b : α → Bool) (a0 : α) (p0 : P a0) (h0 : ∀ H σ, Env T H σ S → Env T H σ (Sa a0)) (hb : ∀ a, P a → EvB T tt (Sa a) (b a))
    (hs : ∀ a, P a → b a = true → Run T ts (Sa a) (fun S' => ∃ a', P a' ∧ μ a' < μ a ∧ ∀ H σ, Env T H σ S' → Env T H σ (Sa a')) Rt) (hd : ∀ a, P a → b a = false → Nx (Sa a)) : Run T (tWhile tt ts) S Nx Rt := fun D σ H e n r => by
  refine ⟨fun m σ H' => ∃ a, m = μ a ∧ P a ∧ Same H H' ∧ Env T H' σ (Sa a), ⟨_, a0, rfl, p0, Same.refl _, h0 _ _ e⟩, ?_⟩
  rintro m σ H1 ⟨a, rfl, p, s, e1⟩
  refine hb a p σ H1 e1 _ fun H2 e2 => ?_
  cases hba : b a with
  | true =>
    rw [if_pos rfl]
    refine ⟨fun σ' H' => ∃ a', P a' ∧ μ a' < μ a ∧ Same H H' ∧ Env T H' σ' (Sa a'), fun σ' H' ⟨a', h1, h2, h3, h4⟩ => ⟨_, h2, a', rfl, h1, h3, h4⟩, ?_⟩
    exact hs a p hba _ _ H2 (e1.mono e2) (fun S' σ' H' ⟨a', h1, h2, h3⟩ s' e' => ⟨a', h1, h2, (s.trans e2).trans s', h3 _ _ e'⟩) (fun d v H' x y z => r d v H' x ((s.trans e2).trans y) z)
  | false =>
    rw [if_neg Bool.false_ne_true]
    exact n _ _ H2 (hd a p hba) (s.trans e2) (e1.mono e2)
end
/-! ### a def by its body -/
theorem env_start : ∀ {H : Hp} {ds : List De} {vs : List V} (n : Nat), IsA T H ds vs → Env T H (vs.map some ++ List.replicate n none) (ds.map some ++ List.replicate n none)
  | H, ds, vs, n, h => by
    refine ⟨by simp [isA_len h], fun i d q => ?_⟩
    by_cases hi : i < ds.length
    · rw [List.getElem?_append_left (by simpa using hi), List.getElem?_map] at q
      cases e : ds[i]? with
      | none => rw [e] at q; cases q
      | some d' =>
        rw [e] at q
        have e' : d' = d := Option.some.inj (Option.some.inj q)
        subst e'
        obtain ⟨v, h1, h2⟩ := isA_get h e
        exact ⟨v, by rw [List.getElem?_append_left (by rw [List.length_map, isA_len h]; exact hi), List.getElem?_map, h1]; rfl, h2⟩
    · rw [List.getElem?_append_right (by simpa using hi), List.getElem?_replicate] at q
      split at q <;> cases q
/-- the reading of a def's body keeps a promise by data -/
theorem by_run {N : List Str} {vs : List V} {H : Hp} {Q : VK} {ts : TS} {ds : List De} {d : De} (i : IsA T H ds vs) (hl : ds.length ≤ N.length) (h : Run T ts (ds.map some ++ List.replicate (N.length - ds.length) none) (fun _ => d = .v .non) (fun e => e = d)) (q : ∀ v H', Same H H' → Is T H' d v → Q v H') :
    ts { nx := fun _ H' => Q .non H', rt := Q } (L2.start N vs) H := by
  have e := env_start (T := T) (N.length - ds.length) i
  unfold L2.start
  rw [isA_len i]
  exact h _ _ H e (fun S' σ' H' a b c => q _ H' b (by rw [a]; exact is_v.mpr rfl)) (fun e v H' a b c => q v H' b (by rw [← a]; exact c))
end Fx

/-! FwEq: == of described data, isinstance of described values. -/
namespace Fx
open PySem PySem.Spec PyProof.Rows L2 Fw
variable {T : Tx} {S : Sl}
mutual
/-- data without truth values, at most so deep -/
def De.fl : Nat → De → Bool
  | _, .v .non => true
  | _, .v (.int _) => true
  | _, .v (.str s) => PyData.strOk s
  | n + 1, .tup ds => De.fls n ds
  | n + 1, .lst ds => De.fls n ds
  | _, _ => false
def De.fls : Nat → List De → Bool
  | _, [] => true
  | n, d :: ds => De.fl n d && De.fls n ds
end
theorem fls_cons {n : Nat} {d : De} {ds : List De} : De.fls n (d :: ds) = (De.fl n d && De.fls n ds) := by rw [De.fls]
mutual
theorem fl_dat : ∀ {n : Nat} {d : De}, d.fl n = true → ∃ p, d.dat = some p ∧ PyData.canLay0 p = true ∧ PyData.depth p ≤ n
  | n, .v x, h => by
    cases x with
    | non => exact ⟨_, by rw [De.dat], rfl, Nat.zero_le _⟩
    | int i => exact ⟨_, by rw [De.dat], rfl, Nat.zero_le _⟩
    | str s => exact ⟨_, by rw [De.dat], by simpa [De.fl, PyData.canLay0] using h, Nat.zero_le _⟩
    | _ => simp [De.fl] at h
  | 0, .tup ds, h => by simp [De.fl] at h
  | 0, .lst ds, h => by simp [De.fl] at h
  | n + 1, .tup ds, h => by
    obtain ⟨ps, h1, h2, h3⟩ := fls_dat (n := n) (ds := ds) (by simpa [De.fl] using h)
    exact ⟨.tuple ps, by rw [De.dat, h1]; rfl, by simpa [PyData.canLay0] using h2, by simp only [PyData.depth]; omega⟩
  | n + 1, .lst ds, h => by
    obtain ⟨ps, h1, h2, h3⟩ := fls_dat (n := n) (ds := ds) (by simpa [De.fl] using h)
    exact ⟨.list ps, by rw [De.dat, h1]; rfl, by simpa [PyData.canLay0] using h2, by simp only [PyData.depth]; omega⟩
  | n, .row _, h => by cases n <;> simp [De.fl] at h
  | n, .scr _, h => by cases n <;> simp [De.fl] at h
  | n, .exc _, h => by cases n <;> simp [De.fl] at h
  | n, .obj _, h => by cases n <;> simp [De.fl] at h
  | n, .log _ _ _, h => by cases n <;> simp [De.fl] at h
theorem fls_dat : ∀ {n : Nat} {ds : List De}, De.fls n ds = true → ∃ ps, De.dats ds = some ps ∧ PyData.canLayAll0 ps = true ∧ PyData.depthAll ps ≤ n
  | n, [], _ => ⟨[], by rw [De.dats], by simp [PyData.canLayAll0], by simp [PyData.depthAll]⟩
  | n, d :: ds, h => by
    rw [fls_cons, Bool.and_eq_true] at h
    obtain ⟨p, h1, h2, h3⟩ := fl_dat h.1
    obtain ⟨ps, h4, h5, h6⟩ := fls_dat h.2
    exact ⟨p :: ps, by rw [De.dats, h1, h4], by simp [PyData.canLayAll0, h2, h5], by simp only [PyData.depthAll]; omega⟩
end
mutual
theorem eqv_de : ∀ {n m : Nat} {a b : De} {p q : PyData}, a.fl n = true → b.fl m = true → a.dat = some p → b.dat = some q → (PyData.eqv p q = true ↔ a = b)
  | n, m, .v x, b, p, q, ha, hb, e1, e2 => by
    cases x with
    | non =>
      rw [De.dat] at e1; cases e1
      cases b with
      | v y => cases y <;> simp [De.fl] at hb <;> rw [De.dat] at e2 <;> cases e2 <;> simp [PyData.eqv]
      | tup ds => rw [De.dat] at e2; cases hd : De.dats ds <;> rw [hd] at e2 <;> cases e2; simp [PyData.eqv]
      | lst ds => rw [De.dat] at e2; cases hd : De.dats ds <;> rw [hd] at e2 <;> cases e2; simp [PyData.eqv]
      | _ => cases m <;> simp [De.fl] at hb
    | int i =>
      rw [De.dat] at e1; cases e1
      cases b with
      | v y => cases y <;> simp [De.fl] at hb <;> rw [De.dat] at e2 <;> cases e2 <;> simp [PyData.eqv]
      | tup ds => rw [De.dat] at e2; cases hd : De.dats ds <;> rw [hd] at e2 <;> cases e2; simp [PyData.eqv]
      | lst ds => rw [De.dat] at e2; cases hd : De.dats ds <;> rw [hd] at e2 <;> cases e2; simp [PyData.eqv]
      | _ => cases m <;> simp [De.fl] at hb
    | str s =>
      rw [De.dat] at e1; cases e1
      cases b with
      | v y => cases y <;> simp [De.fl] at hb <;> rw [De.dat] at e2 <;> cases e2 <;> simp [PyData.eqv]
      | tup ds => rw [De.dat] at e2; cases hd : De.dats ds <;> rw [hd] at e2 <;> cases e2; simp [PyData.eqv]
      | lst ds => rw [De.dat] at e2; cases hd : De.dats ds <;> rw [hd] at e2 <;> cases e2; simp [PyData.eqv]
      | _ => cases m <;> simp [De.fl] at hb
    | _ => simp [De.fl] at ha
  | 0, m, .tup ds, _, _, _, ha, _, _, _ => by simp [De.fl] at ha
  | 0, m, .lst ds, _, _, _, ha, _, _, _ => by simp [De.fl] at ha
  | n + 1, m, .tup ds, b, p, q, ha, hb, e1, e2 => by
    rw [De.dat] at e1
    cases hd : De.dats ds with
    | none => rw [hd] at e1; cases e1
    | some ps =>
      rw [hd] at e1; cases e1
      cases b with
      | v y => cases y <;> simp [De.fl] at hb <;> rw [De.dat] at e2 <;> cases e2 <;> simp [PyData.eqv]
      | tup es =>
        rw [De.dat] at e2
        cases he : De.dats es with
        | none => rw [he] at e2; cases e2
        | some qs =>
          rw [he] at e2; cases e2
          cases m with
          | zero => simp [De.fl] at hb
          | succ m =>
            have := eqvs_de (n := n) (m := m) (as := ds) (bs := es) (by simpa [De.fl] using ha) (by simpa [De.fl] using hb) hd he
            simpa [PyData.eqv] using this
      | lst es => rw [De.dat] at e2; cases he : De.dats es <;> rw [he] at e2 <;> cases e2; simp [PyData.eqv]
      | _ => cases m <;> simp [De.fl] at hb
  | n + 1, m, .lst ds, b, p, q, ha, hb, e1, e2 => by
    rw [De.dat] at e1
    cases hd : De.dats ds with
    | none => rw [hd] at e1; cases e1
    | some ps =>
      rw [hd] at e1; cases e1
      cases b with
      | v y => cases y <;> simp [De.fl] at hb <;> rw [De.dat] at e2 <;> cases e2 <;> simp [PyData.eqv]
      | lst es =>
        rw [De.dat] at e2
        cases he : De.dats es with
        | none => rw [he] at e2; cases e2
        | some qs =>
          rw [he] at e2; cases e2
          cases m with
          | zero => simp [De.fl] at hb
          | succ m =>
            have := eqvs_de (n := n) (m := m) (as := ds) (bs := es) (by simpa [De.fl] using ha) (by simpa [De.fl] using hb) hd he
            simpa [PyData.eqv] using this
      | tup es => rw [De.dat] at e2; cases he : De.dats es <;> rw [he] at e2 <;> cases e2; simp [PyData.eqv]
      | _ => cases m <;> simp [De.fl] at hb
  | n, m, .row _, _, _, _, ha, _, _, _ => by cases n <;> simp [De.fl] at ha
  | n, m, .scr _, _, _, _, ha, _, _, _ => by cases n <;> simp [De.fl] at ha
  | n, m, .exc _, _, _, _, ha, _, _, _ => by cases n <;> simp [De.fl] at ha
  | n, m, .obj _, _, _, _, ha, _, _, _ => by cases n <;> simp [De.fl] at ha
  | n, m, .log _ _ _, _, _, _, ha, _, _, _ => by cases n <;> simp [De.fl] at ha
theorem eqvs_de : ∀ {n m : Nat} {as bs : List De} {ps qs : List PyData}, De.fls n as = true → De.fls m bs = true → De.dats as = some ps → De.dats bs = some qs → (PyData.eqvAll ps qs = true ↔ as = bs)
  | n, m, [], [], ps, qs, _, _, e1, e2 => by
    rw [De.dats] at e1 e2; cases e1; cases e2; simp [PyData.eqvAll]
  | n, m, [], b :: bs, ps, qs, _, hb, e1, e2 => by
    rw [fls_cons, Bool.and_eq_true] at hb
    obtain ⟨p, h1, _⟩ := fl_dat hb.1
    obtain ⟨ps', h2, _⟩ := fls_dat hb.2
    rw [De.dats] at e1; cases e1
    rw [De.dats, h1, h2] at e2; cases e2
    simp [PyData.eqvAll]
  | n, m, a :: as, [], ps, qs, ha, _, e1, e2 => by
    rw [fls_cons, Bool.and_eq_true] at ha
    obtain ⟨p, h1, _⟩ := fl_dat ha.1
    obtain ⟨ps', h2, _⟩ := fls_dat ha.2
    rw [De.dats] at e2; cases e2
    rw [De.dats, h1, h2] at e1; cases e1
    simp [PyData.eqvAll]
  | n, m, a :: as, b :: bs, ps, qs, ha, hb, e1, e2 => by
    rw [fls_cons, Bool.and_eq_true] at ha hb
    obtain ⟨p, h1, _⟩ := fl_dat ha.1
    obtain ⟨ps', h2, _⟩ := fls_dat ha.2
    obtain ⟨q, h3, _⟩ := fl_dat hb.1
    obtain ⟨qs', h4, _⟩ := fls_dat hb.2
    rw [De.dats, h1, h2] at e1; cases e1
    rw [De.dats, h3, h4] at e2; cases e2
    have i1 := eqv_de ha.1 hb.1 h1 h3
    have i2 := eqvs_de ha.2 hb.2 h2 h4
    simp only [PyData.eqvAll, Bool.and_eq_true, i1, i2, List.cons.injEq]
end
theorem d2_eqT {a b : De} {n m : Nat} {P : Prop} [Decidable P] (ha : a.fl n = true) (hb : b.fl m = true) (hn : n ≤ 64) (hm : m ≤ 64) (h : a = b ↔ P) : D2 T (rEqD T.K) a b (db (decide P)) := by
  obtain ⟨p, h1, h2, h3⟩ := fl_dat ha
  obtain ⟨q, h4, h5, h6⟩ := fl_dat hb
  have z := d2_eqD (T := T) h1 h4 (by unfold SeqAt.shaped; rw [h2, decide_eq_true (by omega)]; rfl) (by unfold SeqAt.shaped; rw [h5, decide_eq_true (by omega)]; rfl)
  have e := eqv_de ha hb h1 h4
  rwa [show PyData.eqv p q = decide P by rw [Bool.eq_iff_iff, e, h]; simp] at z
theorem d2_neT {a b : De} {n m : Nat} {P : Prop} [Decidable P] (ha : a.fl n = true) (hb : b.fl m = true) (hn : n ≤ 64) (hm : m ≤ 64) (h : a = b ↔ P) : D2 T (rNeD T.K) a b (db (!decide P)) := by
  obtain ⟨p, h1, h2, h3⟩ := fl_dat ha
  obtain ⟨q, h4, h5, h6⟩ := fl_dat hb
  have z := d2_neD (T := T) h1 h4 (by unfold SeqAt.shaped; rw [h2, decide_eq_true (by omega)]; rfl) (by unfold SeqAt.shaped; rw [h5, decide_eq_true (by omega)]; rfl)
  have e := eqv_de ha hb h1 h4
  rwa [show PyData.eqv p q = decide P by rw [Bool.eq_iff_iff, e, h]; simp] at z
/-! ### cells -/
theorem cv_inj {a b : C} : cv a = cv b ↔ a = b := by
  cases a <;> cases b <;> simp [cv]
theorem cv_scal (a b : C) : scal (cv a) (cv b) = true := by cases a <;> cases b <;> rfl
theorem d2_eqC {a b : C} : D2 T rEq (dc a) (dc b) (db (decide (a = b))) := by
  have z := d2_eq (T := T) (cv_scal a b)
  rwa [show decide (cv a = cv b) = decide (a = b) by rw [decide_eq_decide]; exact cv_inj] at z
theorem d2_neC {a b : C} : D2 T rNe (dc a) (dc b) (db (!decide (a = b))) := by
  have z := d2_ne (T := T) (cv_scal a b)
  rwa [show decide (cv a = cv b) = decide (a = b) by rw [decide_eq_decide]; exact cv_inj] at z
theorem d2_eqI {i j : Int} : D2 T rEq (di i) (di j) (db (decide (i = j))) := by
  have z := d2_eq (T := T) (x := .int i) (y := .int j) rfl
  rwa [show decide (V.int i = V.int j) = decide (i = j) by rw [decide_eq_decide]; simp] at z
theorem d2_neI {i j : Int} : D2 T rNe (di i) (di j) (db (!decide (i = j))) := by
  have z := d2_ne (T := T) (x := .int i) (y := .int j) rfl
  rwa [show decide (V.int i = V.int j) = decide (i = j) by rw [decide_eq_decide]; simp] at z
theorem dc_inj {a b : C} : dc a = dc b ↔ a = b := by
  constructor
  · intro h; exact cv_inj.mp (De.v.inj h)
  · rintro rfl; rfl
theorem dcs_inj : ∀ {xs ys : List C}, dcs xs = dcs ys ↔ xs = ys
  | [], [] => by simp
  | [], y :: ys => by simp
  | x :: xs, [] => by simp
  | x :: xs, y :: ys => by
    show (dc x :: dcs xs = dc y :: dcs ys) ↔ _
    rw [List.cons.injEq, List.cons.injEq, dcs_inj, dc_inj]
theorem dc_fl {n : Nat} (c : C) : (dc c).fl n = true := by
  cases c <;> (show De.fl n (.v _) = true) <;> rw [cv, De.fl]
theorem dcs_fl {n : Nat} : ∀ (xs : List C), De.fls n (dcs xs) = true
  | [] => by show De.fls n [] = true; rw [De.fls]
  | x :: xs => by
    show De.fls n (dc x :: dcs xs) = true
    rw [fls_cons, Bool.and_eq_true]
    exact ⟨dc_fl x, dcs_fl xs⟩
theorem tup_fl {n : Nat} {xs : List C} : (De.tup (dcs xs)).fl (n + 1) = true := by rw [De.fl]; exact dcs_fl xs
theorem lst_fl {n : Nat} {xs : List C} : (De.lst (dcs xs)).fl (n + 1) = true := by rw [De.fl]; exact dcs_fl xs
theorem d2_eqTs {xs ys : List C} : D2 T (rEqD T.K) (.tup (dcs xs)) (.tup (dcs ys)) (db (decide (xs = ys))) := d2_eqT (n := 1) (m := 1) tup_fl tup_fl (by decide) (by decide) (by rw [De.tup.injEq]; exact dcs_inj)
theorem d2_neTs {xs ys : List C} : D2 T (rNeD T.K) (.tup (dcs xs)) (.tup (dcs ys)) (db (!decide (xs = ys))) := d2_neT (n := 1) (m := 1) tup_fl tup_fl (by decide) (by decide) (by rw [De.tup.injEq]; exact dcs_inj)
theorem d2_eqLs {xs ys : List C} : D2 T (rEqD T.K) (.lst (dcs xs)) (.lst (dcs ys)) (db (decide (xs = ys))) := d2_eqT (n := 1) (m := 1) lst_fl lst_fl (by decide) (by decide) (by rw [De.lst.injEq]; exact dcs_inj)
theorem d2_neLs {xs ys : List C} : D2 T (rNeD T.K) (.lst (dcs xs)) (.lst (dcs ys)) (db (!decide (xs = ys))) := d2_neT (n := 1) (m := 1) lst_fl lst_fl (by decide) (by decide) (by rw [De.lst.injEq]; exact dcs_inj)
/-- what told() gives -/
def dF (F : Fm) : De := .tup [.tup (dcs F.l), .tup (dcs F.m), di F.f, .tup (dcs F.r)]
theorem dF_fl {n : Nat} {F : Fm} : (dF F).fl (n + 2) = true := by
  unfold dF
  rw [De.fl, fls_cons, fls_cons, fls_cons, fls_cons, tup_fl, tup_fl, tup_fl, De.fls]
  rfl
theorem dF_inj {F G : Fm} : dF F = dF G ↔ F = G := by
  constructor
  · intro h
    unfold dF at h
    simp only [De.tup.injEq, List.cons.injEq, De.v.injEq, V.int.injEq, and_true] at h
    obtain ⟨h1, h2, h3, h4⟩ := h
    cases F; cases G
    simp only [Fm.mk.injEq]
    exact ⟨dcs_inj.mp h1, dcs_inj.mp h2, h3, dcs_inj.mp h4⟩
  · rintro rfl; rfl
theorem d2_eqF {F G : Fm} : D2 T (rEqD T.K) (dF F) (dF G) (db (decide (F = G))) := d2_eqT (n := 2) (m := 2) dF_fl dF_fl (by decide) (by decide) dF_inj
theorem d2_neF {F G : Fm} : D2 T (rNeD T.K) (dF F) (dF G) (db (!decide (F = G))) := d2_neT (n := 2) (m := 2) dF_fl dF_fl (by decide) (by decide) dF_inj
/-! ints -/
theorem di_inj {i j : Int} : di i = di j ↔ i = j := by simp
theorem dis_inj : ∀ {xs ys : List Int}, xs.map di = ys.map di ↔ xs = ys
  | [], [] => by simp
  | [], y :: ys => by simp
  | x :: xs, [] => by simp
  | x :: xs, y :: ys => by
    rw [List.map_cons, List.map_cons, List.cons.injEq, List.cons.injEq, dis_inj, di_inj]
theorem dis_fl {n : Nat} : ∀ (xs : List Int), De.fls n (xs.map di) = true
  | [] => by rw [List.map_nil, De.fls]
  | x :: xs => by
    rw [List.map_cons, fls_cons, Bool.and_eq_true]
    exact ⟨by simp [De.fl], dis_fl xs⟩
theorem lsti_fl {n : Nat} {xs : List Int} : (De.lst (xs.map di)).fl (n + 1) = true := by rw [De.fl]; exact dis_fl xs
theorem d2_eqIs {xs ys : List Int} : D2 T (rEqD T.K) (.lst (xs.map di)) (.lst (ys.map di)) (db (decide (xs = ys))) := d2_eqT (n := 1) (m := 1) lsti_fl lsti_fl (by decide) (by decide) (by rw [De.lst.injEq]; exact dis_inj)
theorem d2_neIs {xs ys : List Int} : D2 T (rNeD T.K) (.lst (xs.map di)) (.lst (ys.map di)) (db (!decide (xs = ys))) := d2_neT (n := 1) (m := 1) lsti_fl lsti_fl (by decide) (by decide) (by rw [De.lst.injEq]; exact dis_inj)
theorem d2_eqS {s : Str} (h : PyData.strOk s = true) : D2 T (rEqD T.K) (.v (.str s)) (.v (.str s)) (db true) := by
  have := d2_eqT (T := T) (a := .v (.str s)) (b := .v (.str s)) (n := 0) (m := 0) (P := True) (by rw [De.fl]; exact h) (by rw [De.fl]; exact h) (by decide) (by decide) (by simp)
  simpa using this
/-- the script is no empty list -/
theorem ints_canLay : ∀ ns : List Int, PyData.canLayAll0 (ns.map PyData.int) = true ∧ PyData.depthAll (ns.map PyData.int) = 0
  | [] => ⟨by simp [PyData.canLayAll0], by simp [PyData.depthAll]⟩
  | n :: ns => by
    obtain ⟨h1, h2⟩ := ints_canLay ns
    exact ⟨by simp [PyData.canLayAll0, PyData.canLay0, h1], by simp [PyData.depthAll, PyData.depth, h2]⟩
theorem ints_dp {K : PySem.W.Frag} {H : Hp} : ∀ ns : List Int, DpAll K H (ns.map V.int) (ns.map PyData.int)
  | [] => .nil
  | n :: ns => .cons (.int _) (ints_dp ns)
theorem d2_neScr {ns : List Int} : D2 T (rNeD T.K) (.scr ns) (.lst []) (db (!decide (ns = []))) := fun H x y hx hy Q k => by
  obtain ⟨a, rfl, h1⟩ := is_scr.mp hx
  refine ⟨.list (ns.map PyData.int), .list [], .lst h1 (ints_dp ns), dat_dp hy (by rw [De.dat, De.dats]; rfl), ?_, by decide +kernel, ?_⟩
  · unfold SeqAt.shaped
    simp [PyData.canLay0, PyData.depth, (ints_canLay ns).1, (ints_canLay ns).2]
  · have : PyData.eqv (.list (ns.map PyData.int)) (.list []) = decide (ns = []) := by cases ns <;> simp [PyData.eqv, PyData.eqvAll]
    rw [this]
    exact k _ H (Same.refl H) (is_v.mpr rfl)
/-! ### isinstance -/
def De.tyn : De → Option String
  | .v .non => some "NoneType"
  | .v (.bl _) => some "bool"
  | .v (.int _) => some "int"
  | .v (.str _) => some "str"
  | .tup _ => some "tuple"
  | .lst _ => some "list"
  | _ => none
theorem tyn_ok {H : Hp} {d : De} {v : V} {n : String} (h : Is T H d v) (e : d.tyn = some n) : TyX T.K H v (.type n) := by
  cases d with
  | v x =>
    rw [is_v.mp h]
    cases x <;> cases e
    · exact .base .non
    · exact .base (.bl _)
    · exact .base (.int _)
    · exact .base (.str _)
  | tup ds =>
    obtain ⟨p, vs, rfl, h1, _⟩ := is_tup.mp h
    cases e
    exact .base (.tup h1)
  | lst ds =>
    obtain ⟨p, vs, rfl, h1, _⟩ := is_lst.mp h
    cases e
    exact .base (.lst h1)
  | _ => cases e
theorem dc_isi {d : De} {a c : String} {b : Bool} (e : d.tyn = some a) (k : kitB a c = some b) : DC T (rIsi T.K) [d, .v (.ty c)] (db b) := fun H xs hx Q q => by
  obtain ⟨v, r, rfl, h1, h2⟩ := isA_cons.mp hx
  obtain ⟨v', r', rfl, h1', h2'⟩ := isA_cons.mp h2
  rw [isA_nil.mp h2', is_v.mp h1']
  exact ⟨v, _, _, _, b, rfl, .ty c, tyn_ok h1 e, kit_ty k, q _ H (Same.refl H) (is_v.mpr rfl)⟩
theorem dc_isiT2 {d : De} {a c c' : String} {b b' r : Bool} (e : d.tyn = some a) (k : kitB a c = some b) (k' : kitB a c' = some b') (hr : r = (b || b')) : DC T (rIsiT T.K) [d, .tup [.v (.ty c), .v (.ty c')]] (db r) := fun H xs hx Q q => by
  obtain ⟨v, r', rfl, h1, h2⟩ := isA_cons.mp hx
  obtain ⟨v', r'', rfl, h1', h2'⟩ := isA_cons.mp h2
  rw [isA_nil.mp h2']
  obtain ⟨p, vs, rfl, h3, h4⟩ := is_tup.mp h1'
  obtain ⟨w1, r1, rfl, h5, h6⟩ := isA_cons.mp h4
  obtain ⟨w2, r2, rfl, h7, h8⟩ := isA_cons.mp h6
  rw [isA_nil.mp h8, is_v.mp h5, is_v.mp h7] at h3
  refine ⟨v, p, _, _, [.type c, .type c'], r, rfl, h3, .cons (.ty c) (.cons (.ty c') .nil), tyn_ok h1 e, ?_, q _ H (Same.refl H) (is_v.mpr rfl)⟩
  subst hr
  refine kitAny_cons (kit_ty k) (fun hb => ?_) (fun hb => by rw [hb]; rfl)
  subst hb
  exact kitAny_cons (kit_ty k') (fun hb => by rw [hb]; exact kitAny_nil) (fun hb => by rw [hb]; rfl)
end Fx

/-! FwEx: more rules over descriptions. -/
namespace Fx
open PySem PySem.Spec PyProof.Rows L2 Fw
variable {T : Tx} {S : Sl}
section
variable {ts tu tw : TS} {te tl : TE} {tt : TT} {d : De} {ds : List De} {Nx : Sl → Prop} {Rt : De → Prop}
theorem run_forRP {i : Nat} {lo : Int} {m : Nat} {σ : L2.St} {H1 : Hp} {D : Ends} (Sk : Nat → Sl) (Pk : Nat → Prop) (H0 : Hp) (e0 : Same H0 H1) (h0 : Env T H1 σ (Sk 0)) (p0 : Pk 0)
    (hs : ∀ k, k < m → Pk k → Run T ts ((Sk k).set i (some (di (lo + (k : Int))))) (fun S' => Pk (k + 1) ∧ ∀ H σ, Env T H σ S' → Env T H σ (Sk (k + 1))) Rt)
    (n : ∀ σ' H', Pk m → Same H0 H' → Env T H' σ' (Sk m) → D.nx σ' H') (r : ∀ d v H', Rt d → Same H0 H' → Is T H' d v → D.rt v H') :
    ∃ W : Nat → Nat → L2.St → Hp → Prop, (∃ m, W 0 m σ H1) ∧ ∀ k m' σ H, W k m' σ H →
      ((Itr lo m).stop k H ∧ D.nx σ H) ∨ ((Itr lo m).go k H ∧ ∃ N : L2.St → Hp → Prop, (∀ σ' H', N σ' H' → ∃ m'', m'' < m' ∧ W (k + 1) m'' σ' H') ∧ ∀ x H', (Itr lo m).yld k H x H' → gName i x σ H' fun σ2 H2 => ts { D with nx := N, ct := N, bk := D.nx } σ2 H2) := by
  refine for_range (fun k σ H => Pk k ∧ Same H0 H ∧ Env T H σ (Sk k)) ⟨p0, e0, h0⟩ (fun k σ H hk p => ?_) (fun σ H p => n σ H p.1 p.2.1 p.2.2)
  exact hs k hk p.1 _ _ H (p.2.2.set (is_v.mpr rfl)) (fun S' σ' H' a b c => ⟨a.1, p.2.1.trans b, a.2 _ _ c⟩) (fun d v H' a b c => r d v H' a (p.2.1.trans b) c)
theorem run_for2P {i : Nat} {lo hi : Int} {ta : TA} (Sk : Nat → Sl) (Pk : Nat → Prop) (h : EvL T ta S [di lo, di hi]) (h0 : ∀ H σ, Env T H σ S → Env T H σ (Sk 0)) (p0 : Pk 0)
    (hs : ∀ k, k < (hi - lo).toNat → Pk k → Run T ts ((Sk k).set i (some (di (lo + (k : Int))))) (fun S' => Pk (k + 1) ∧ ∀ H σ, Env T H σ S' → Env T H σ (Sk (k + 1))) Rt) (hn : Pk (hi - lo).toNat → Nx (Sk (hi - lo).toNat)) : Run T (tFor (iAny2 ta) (gName i) ts) S Nx Rt := fun D σ H e n r =>
  h σ H e _ fun vs H1 e1 i1 => by
    obtain ⟨v, r', rfl, h1, h2⟩ := isA_cons.mp i1
    obtain ⟨v', r'', rfl, h1', h2'⟩ := isA_cons.mp h2
    rw [isA_nil.mp h2', is_v.mp h1, is_v.mp h1']
    exact ⟨lo, hi, rfl, run_forRP Sk Pk H e1 (h0 _ _ (e.mono e1)) p0 hs (fun σ' H' p s e' => n _ σ' H' (hn p) s e') r⟩
theorem run_ex {i : Nat} {d' : De} (h : EvD T te S d) (q : d = d') (k : Nx (S.set i (some d'))) : Run T (tAsg te (gName i)) S Nx Rt := run_asg (by rw [← q]; exact h) k
/-- x += e, of ints -/
theorem run_aug {i : Nat} {a b : Int} {ti : TIp} (h0 : S[i]? = some (some (di a))) (h : EvD T te S (di b)) (c : Int) (hi : ∀ H (Q : VK), Q (.int c) H → ti (.int a) (.int b) H Q) (k : Nx (S.set i (some (di c)))) : Run T (tAug i te ti) S Nx Rt := fun D σ H e n r => by
  obtain ⟨v, h1, h2⟩ := e.2 i _ h0
  rw [is_v.mp h2] at h1
  refine ⟨_, h1, h σ H e _ fun v H1 e1 i1 => ?_⟩
  rw [is_v.mp i1]
  exact hi H1 _ (n _ _ H1 k e1 ((e.mono e1).set (is_v.mpr rfl)))
end
/-! ### slots by hand -/
theorem env_eq {H : Hp} {σ : L2.St} {S' : Sl} (q : S = S') (h : Env T H σ S) : Env T H σ S' := by rw [← q]; exact h
theorem env_less {H : Hp} {σ : L2.St} {S' : Sl} (h : Env T H σ S) (hl : S'.length = S.length) (k : ∀ i, i < S'.length → (S'[i]? = some none ∨ S'[i]? = S[i]?)) : Env T H σ S' :=
  h.less hl fun i d q => by
    rcases k i (List.getElem?_eq_some_iff.mp q).1 with z | z
    · rw [z] at q; cases q
    · rw [← z]; exact q
/-! ### lists of cells -/
theorem dcs_get {xs : List C} {k : Nat} (h : k < xs.length) : (dcs xs)[k]? = some (dc (xs.getD k none)) := by
  rw [List.getElem?_map, List.getElem?_eq_getElem h, List.getD_eq_getElem?_getD, List.getElem?_eq_getElem h]
  rfl
theorem dcs_len (xs : List C) : (dcs xs).length = xs.length := List.length_map _
theorem dcs_take (xs : List C) (k : Nat) : (dcs xs).take k = dcs (xs.take k) := (List.map_take ..).symm
theorem dcs_drop (xs : List C) (k : Nat) : (dcs xs).drop k = dcs (xs.drop k) := (List.map_drop ..).symm
theorem dcs_rep (xs : List C) (k : Nat) : (List.replicate k (dcs xs)).flatten = dcs (rep k xs) := by
  show _ = List.map _ (List.replicate k xs).flatten
  rw [List.map_flatten, List.map_replicate]
theorem dcs_cells (f : Int → C) (a : Int) (n : Nat) : ((List.range n).map fun (k : Nat) => dc (f (a + (k : Int)))) = dcs (cells f a n) := by
  show _ = List.map _ (List.map _ _)
  rw [List.map_map]; rfl
theorem rg_mod {xs : List C} {i : Int} (h : 0 < xs.length) : ∃ k : Nat, i % (xs.length : Int) = (k : Int) ∧ k < xs.length ∧ rg xs i = xs.getD k none := by
  have h1 := Int.emod_nonneg i (show (xs.length : Int) ≠ 0 by omega)
  have h2 := Int.emod_lt_of_pos i (show (0 : Int) < xs.length by omega)
  exact ⟨(i % (xs.length : Int)).toNat, by omega, by omega, rfl⟩
/-- the loop that goes down while a wheel's cells are met -/
def rbGo (f : Int → C) (r : Int) : Nat → Int → Int
  | 0, p => p
  | n + 1, p => if f (p - 1) = f (p - 1 + r) then rbGo f r n (p - 1) else p
theorem rbGo_spec {f : Int → C} {r : Int} : ∀ {n : Nat} {p : Int}, p - (n : Int) ≤ rbGo f r n p ∧ rbGo f r n p ≤ p ∧ (∀ q, rbGo f r n p ≤ q → q < p → f q = f (q + r)) ∧ (rbGo f r n p = p - (n : Int) ∨ f (rbGo f r n p - 1) ≠ f (rbGo f r n p - 1 + r))
  | 0, p => ⟨by show p - ((0 : Nat) : Int) ≤ p; omega, Int.le_refl _, fun q h1 h2 => by have : p ≤ q := h1; omega, .inl (by show p = _; omega)⟩
  | n + 1, p => by
    unfold rbGo
    by_cases h : f (p - 1) = f (p - 1 + r)
    · rw [if_pos h]
      obtain ⟨h1, h2, h3, h4⟩ := rbGo_spec (f := f) (r := r) (n := n) (p := p - 1)
      refine ⟨by omega, by omega, fun q a b => ?_, ?_⟩
      · by_cases e : q = p - 1
        · rw [e]; exact h
        · exact h3 q a (by omega)
      · rcases h4 with h4 | h4
        · exact .inl (by omega)
        · exact .inr h4
    · rw [if_neg h]
      exact ⟨by omega, Int.le_refl _, fun q a b => by omega, .inr h⟩
end Fx

/-! FwText: the text by places; what the head must tell. -/
namespace Fx
open PySem PySem.Spec PyProof.Rows L2 Fw
def top (i : Nat) : Stmt := PySem.Challenge.pw_farrows_k85_whole_logs_told.main.body.getD i (.Pass ⟨0, 0, 0, 0⟩)
abbrev s_is_place : Stmt := top 10
abbrev n_is_place : List Str := ["thing"]
theorem sc_is_place : FnScope n_is_place ["thing"] (defScope s_is_place) := ⟨rfl, rfl, rfl, by decide +kernel, rfl, by decide +kernel, by decide +kernel⟩
abbrev s_is_value : Stmt := top 13
abbrev n_is_value : List Str := ["thing"]
theorem sc_is_value : FnScope n_is_value ["thing"] (defScope s_is_value) := ⟨rfl, rfl, rfl, by decide +kernel, rfl, by decide +kernel, by decide +kernel⟩
abbrev s_are_values : Stmt := top 14
abbrev n_are_values : List Str := ["things", "fewest", "thing"]
theorem sc_are_values : FnScope n_are_values ["things", "fewest"] (defScope s_are_values) := ⟨rfl, rfl, rfl, by decide +kernel, rfl, by decide +kernel, by decide +kernel⟩
abbrev s_need_place : Stmt := top 15
abbrev n_need_place : List Str := ["thing"]
theorem sc_need_place : FnScope n_need_place ["thing"] (defScope s_need_place) := ⟨rfl, rfl, rfl, by decide +kernel, rfl, by decide +kernel, by decide +kernel⟩
abbrev s_least_round : Stmt := top 16
abbrev n_least_round : List Str := ["values", "many"]
theorem sc_least_round : FnScope n_least_round ["values"] (defScope s_least_round) := ⟨rfl, rfl, rfl, by decide +kernel, rfl, by decide +kernel, by decide +kernel⟩
abbrev s_Row_init : Stmt := inClass (top 18) 0
abbrev n_Row_init : List Str := ["self", "left", "middle", "first", "right"]
theorem sc_Row_init : FnScope n_Row_init ["self", "left", "middle", "first", "right"] (defScope s_Row_init) := ⟨rfl, rfl, rfl, by decide +kernel, rfl, by decide +kernel, by decide +kernel⟩
abbrev s_Row_tells : Stmt := inClass (top 18) 1
abbrev n_Row_tells : List Str := ["self", "place", "far"]
theorem sc_Row_tells : FnScope n_Row_tells ["self", "place"] (defScope s_Row_tells) := ⟨rfl, rfl, rfl, by decide +kernel, rfl, by decide +kernel, by decide +kernel⟩
abbrev s_Row_told : Stmt := inClass (top 18) 2
abbrev n_Row_told : List Str := ["self"]
theorem sc_Row_told : FnScope n_Row_told ["self"] (defScope s_Row_told) := ⟨rfl, rfl, rfl, by decide +kernel, rfl, by decide +kernel, by decide +kernel⟩
abbrev s_cells : Stmt := top 20
abbrev n_cells : List Str := ["row", "first", "last", "place"]
theorem sc_cells : FnScope n_cells ["row", "first", "last"] (defScope s_cells) := ⟨rfl, rfl, rfl, by decide +kernel, rfl, by decide +kernel, by decide +kernel⟩
abbrev s_right_begin : Stmt := top 21
abbrev n_right_begin : List Str := ["row", "many", "least", "place"]
theorem sc_right_begin : FnScope n_right_begin ["row", "many", "least"] (defScope s_right_begin) := ⟨rfl, rfl, rfl, by decide +kernel, rfl, by decide +kernel, by decide +kernel⟩
abbrev s_left_end : Stmt := top 22
abbrev n_left_end : List Str := ["row", "many", "place"]
theorem sc_left_end : FnScope n_left_end ["row", "many"] (defScope s_left_end) := ⟨rfl, rfl, rfl, by decide +kernel, rfl, by decide +kernel, by decide +kernel⟩
abbrev s_plain : Stmt := top 23
abbrev n_plain : List Str := ["row", "left", "right", "least", "begin", "values", "first"]
theorem sc_plain : FnScope n_plain ["row"] (defScope s_plain) := ⟨rfl, rfl, rfl, by decide +kernel, rfl, by decide +kernel, by decide +kernel⟩
abbrev s_own_ends : Stmt := top 24
abbrev n_own_ends : List Str := ["row"]
theorem sc_own_ends : FnScope n_own_ends ["row"] (defScope s_own_ends) := ⟨rfl, rfl, rfl, by decide +kernel, rfl, by decide +kernel, by decide +kernel⟩
abbrev s_spread : Stmt := top 25
abbrev n_spread : List Str := ["left", "middle", "first", "right", "row"]
theorem sc_spread : FnScope n_spread ["left", "middle", "first", "right"] (defScope s_spread) := ⟨rfl, rfl, rfl, by decide +kernel, rfl, by decide +kernel, by decide +kernel⟩
abbrev s_laid : Stmt := top 26
abbrev n_laid : List Str := ["left", "middle", "first", "right"]
theorem sc_laid : FnScope n_laid ["left", "middle", "first", "right"] (defScope s_laid) := ⟨rfl, rfl, rfl, by decide +kernel, rfl, by decide +kernel, by decide +kernel⟩
abbrev s_common_measure : Stmt := top 28
abbrev n_common_measure : List Str := ["one", "other"]
theorem sc_common_measure : FnScope n_common_measure ["one", "other"] (defScope s_common_measure) := ⟨rfl, rfl, rfl, by decide +kernel, rfl, by decide +kernel, by decide +kernel⟩
abbrev s_Unlike_of : Stmt := inClass (top 32) 0
abbrev n_Unlike_of : List Str := ["self", "one", "other"]
theorem sc_Unlike_of : FnScope n_Unlike_of ["self", "one", "other"] (defScope s_Unlike_of) := ⟨rfl, rfl, rfl, by decide +kernel, rfl, by decide +kernel, by decide +kernel⟩
abbrev s_common_round : Stmt := top 33
abbrev n_common_round : List Str := ["rings", "many", "ring"]
theorem sc_common_round : FnScope n_common_round ["rings"] (defScope s_common_round) := ⟨rfl, rfl, rfl, by decide +kernel, rfl, by decide +kernel, by decide +kernel⟩
abbrev s_ruled : Stmt := top 34
abbrev n_ruled : List Str := ["one", "other", "rule", "first", "last", "place"]
theorem sc_ruled : FnScope n_ruled ["one", "other", "rule", "first", "last"] (defScope s_ruled) := ⟨rfl, rfl, rfl, by decide +kernel, rfl, by decide +kernel, by decide +kernel⟩
abbrev s_all_joined : Stmt := top 35
abbrev n_all_joined : List Str := ["one", "other", "rule", "here", "there", "left", "right", "ends", "first", "last", "ring", "middle"]
theorem sc_all_joined : FnScope n_all_joined ["one", "other", "rule"] (defScope s_all_joined) := ⟨rfl, rfl, rfl, by decide +kernel, rfl, by decide +kernel, by decide +kernel⟩
abbrev s_joined : Stmt := top 36
abbrev n_joined : List Str := ["one", "other", "rule"]
theorem sc_joined : FnScope n_joined ["one", "other", "rule"] (defScope s_joined) := ⟨rfl, rfl, rfl, by decide +kernel, rfl, by decide +kernel, by decide +kernel⟩
abbrev s_unlike : Stmt := top 37
abbrev n_unlike : List Str := ["one", "other"]
theorem sc_unlike : FnScope n_unlike ["one", "other"] (defScope s_unlike) := ⟨rfl, rfl, rfl, by decide +kernel, rfl, by decide +kernel, by decide +kernel⟩
abbrev s_common_times : Stmt := top 39
abbrev n_common_times : List Str := ["numbers", "found", "number"]
theorem sc_common_times : FnScope n_common_times ["numbers"] (defScope s_common_times) := ⟨rfl, rfl, rfl, by decide +kernel, rfl, by decide +kernel, by decide +kernel⟩
abbrev s_is_round : Stmt := top 40
abbrev n_is_round : List Str := ["row"]
theorem sc_is_round : FnScope n_is_round ["row"] (defScope s_is_round) := ⟨rfl, rfl, rfl, by decide +kernel, rfl, by decide +kernel, by decide +kernel⟩
abbrev s_woven : Stmt := top 41
abbrev n_woven : List Str := ["rows", "rule", "known", "left", "right", "own", "first", "last", "found", "place", "many", "row"]
theorem sc_woven : FnScope n_woven ["rows", "rule"] (defScope s_woven) := ⟨rfl, rfl, rfl, by decide +kernel, rfl, by decide +kernel, by decide +kernel⟩
abbrev s_marked_value : Stmt := top 43
abbrev n_marked_value : List Str := ["values", "mark", "value"]
theorem sc_marked_value : FnScope n_marked_value ["values"] (defScope s_marked_value) := ⟨rfl, rfl, rfl, by decide +kernel, rfl, by decide +kernel, by decide +kernel⟩
abbrev s_patch_of : Stmt := top 44
abbrev n_patch_of : List Str := ["one", "other", "marks"]
theorem sc_patch_of : FnScope n_patch_of ["one", "other"] (defScope s_patch_of) := ⟨rfl, rfl, rfl, by decide +kernel, rfl, by decide +kernel, by decide +kernel⟩
abbrev s_changed_value : Stmt := top 45
abbrev n_changed_value : List Str := ["values", "value", "mark", "new"]
theorem sc_changed_value : FnScope n_changed_value ["values"] (defScope s_changed_value) := ⟨rfl, rfl, rfl, by decide +kernel, rfl, by decide +kernel, by decide +kernel⟩
abbrev s_patched : Stmt := top 46
abbrev n_patched : List Str := ["row", "patch", "marks", "news"]
theorem sc_patched : FnScope n_patched ["row", "patch"] (defScope s_patched) := ⟨rfl, rfl, rfl, by decide +kernel, rfl, by decide +kernel, by decide +kernel⟩
abbrev s_Log_init : Stmt := inClass (top 48) 0
abbrev n_Log_init : List Str := ["self", "row"]
theorem sc_Log_init : FnScope n_Log_init ["self", "row"] (defScope s_Log_init) := ⟨rfl, rfl, rfl, by decide +kernel, rfl, by decide +kernel, by decide +kernel⟩
abbrev s_Log_now : Stmt := inClass (top 48) 1
abbrev n_Log_now : List Str := ["self"]
theorem sc_Log_now : FnScope n_Log_now ["self"] (defScope s_Log_now) := ⟨rfl, rfl, rfl, by decide +kernel, rfl, by decide +kernel, by decide +kernel⟩
abbrev s_Log_do : Stmt := inClass (top 48) 2
abbrev n_Log_do : List Str := ["self", "row", "found"]
theorem sc_Log_do : FnScope n_Log_do ["self", "row"] (defScope s_Log_do) := ⟨rfl, rfl, rfl, by decide +kernel, rfl, by decide +kernel, by decide +kernel⟩
abbrev s_Log_back : Stmt := inClass (top 48) 3
abbrev n_Log_back : List Str := ["self"]
theorem sc_Log_back : FnScope n_Log_back ["self"] (defScope s_Log_back) := ⟨rfl, rfl, rfl, by decide +kernel, rfl, by decide +kernel, by decide +kernel⟩
abbrev s_Log_how_many : Stmt := inClass (top 48) 5
abbrev n_Log_how_many : List Str := ["self"]
theorem sc_Log_how_many : FnScope n_Log_how_many ["self"] (defScope s_Log_how_many) := ⟨rfl, rfl, rfl, by decide +kernel, rfl, by decide +kernel, by decide +kernel⟩
abbrev s_Log_version : Stmt := inClass (top 48) 6
abbrev n_Log_version : List Str := ["self", "number"]
theorem sc_Log_version : FnScope n_Log_version ["self", "number"] (defScope s_Log_version) := ⟨rfl, rfl, rfl, by decide +kernel, rfl, by decide +kernel, by decide +kernel⟩
abbrev s_Log_between : Stmt := inClass (top 48) 7
abbrev n_Log_between : List Str := ["self", "one", "other"]
theorem sc_Log_between : FnScope n_Log_between ["self", "one", "other"] (defScope s_Log_between) := ⟨rfl, rfl, rfl, by decide +kernel, rfl, by decide +kernel, by decide +kernel⟩
abbrev s_Log_when : Stmt := inClass (top 48) 8
abbrev n_Log_when : List Str := ["self", "place", "cells", "row", "number"]
theorem sc_Log_when : FnScope n_Log_when ["self", "place"] (defScope s_Log_when) := ⟨rfl, rfl, rfl, by decide +kernel, rfl, by decide +kernel, by decide +kernel⟩
abbrev s_law_cell : Stmt := top 50
abbrev n_law_cell : List Str := ["_law_script", "_law_k", "_law_cell_here", "_law_more"]
theorem sc_law_cell : FnScope n_law_cell ["_law_script", "_law_k"] (defScope s_law_cell) := ⟨rfl, rfl, rfl, by decide +kernel, rfl, by decide +kernel, by decide +kernel⟩
abbrev s_law_value : Stmt := top 51
abbrev n_law_value : List Str := ["_law_cell_here"]
theorem sc_law_value : FnScope n_law_value ["_law_cell_here"] (defScope s_law_value) := ⟨rfl, rfl, rfl, by decide +kernel, rfl, by decide +kernel, by decide +kernel⟩
abbrev s_law_ring : Stmt := top 52
abbrev n_law_ring : List Str := ["_law_script", "_law_at_here", "_law_cell_here", "_law_many", "_law_k"]
theorem sc_law_ring : FnScope n_law_ring ["_law_script", "_law_at_here"] (defScope s_law_ring) := ⟨rfl, rfl, rfl, by decide +kernel, rfl, by decide +kernel, by decide +kernel⟩
abbrev s_law_row : Stmt := top 53
abbrev n_law_row : List Str := ["_law_script", "_law_at_here", "_law_base_here", "_law_cell_here", "_law_many", "_law_middle", "_law_k"]
theorem sc_law_row : FnScope n_law_row ["_law_script", "_law_at_here", "_law_base_here"] (defScope s_law_row) := ⟨rfl, rfl, rfl, by decide +kernel, rfl, by decide +kernel, by decide +kernel⟩
abbrev s_law_base : Stmt := top 54
abbrev n_law_base : List Str := ["_law_script"]
theorem sc_law_base : FnScope n_law_base ["_law_script"] (defScope s_law_base) := ⟨rfl, rfl, rfl, by decide +kernel, rfl, by decide +kernel, by decide +kernel⟩
abbrev s_law_at : Stmt := top 55
abbrev n_law_at : List Str := ["_law_form", "_law_place", "_law_left", "_law_middle", "_law_first", "_law_right"]
theorem sc_law_at : FnScope n_law_at ["_law_form", "_law_place"] (defScope s_law_at) := ⟨rfl, rfl, rfl, by decide +kernel, rfl, by decide +kernel, by decide +kernel⟩
abbrev s_law_wider : Stmt := top 56
abbrev n_law_wider : List Str := ["_law_form", "_law_ahead", "_law_behind", "_law_left", "_law_middle", "_law_first", "_law_right", "_law_begin", "_law_end", "_law_before", "_law_after", "_law_k", "_law_place"]
theorem sc_law_wider : FnScope n_law_wider ["_law_form", "_law_ahead", "_law_behind"] (defScope s_law_wider) := ⟨rfl, rfl, rfl, by decide +kernel, rfl, by decide +kernel, by decide +kernel⟩
abbrev s_law_near : Stmt := top 57
abbrev n_law_near : List Str := ["_law_form", "_law_base_here", "_law_left", "_law_middle", "_law_first", "_law_right", "_law_before", "_law_k"]
theorem sc_law_near : FnScope n_law_near ["_law_form", "_law_base_here"] (defScope s_law_near) := ⟨rfl, rfl, rfl, by decide +kernel, rfl, by decide +kernel, by decide +kernel⟩
abbrev s_law_like : Stmt := top 58
abbrev n_law_like : List Str := ["_law_script", "_law_at_here", "_law_form", "_law_base_here", "_law_cell_here", "_law_left", "_law_middle", "_law_first", "_law_right", "_law_way", "_law_k", "_law_more"]
theorem sc_law_like : FnScope n_law_like ["_law_script", "_law_at_here", "_law_form", "_law_base_here"] (defScope s_law_like) := ⟨rfl, rfl, rfl, by decide +kernel, rfl, by decide +kernel, by decide +kernel⟩
abbrev s_law_made : Stmt := top 59
abbrev n_law_made : List Str := ["_law_form", "_law_turn", "_law_left", "_law_middle", "_law_first", "_law_right"]
theorem sc_law_made : FnScope n_law_made ["_law_form", "_law_turn"] (defScope s_law_made) := ⟨rfl, rfl, rfl, by decide +kernel, rfl, by decide +kernel, by decide +kernel⟩
abbrev s_law_rule : Stmt := top 60
abbrev n_law_rule : List Str := ["_law_rule_here", "_law_values"]
theorem sc_law_rule : FnScope n_law_rule ["_law_rule_here", "_law_values"] (defScope s_law_rule) := ⟨rfl, rfl, rfl, by decide +kernel, rfl, by decide +kernel, by decide +kernel⟩
abbrev s_law_least : Stmt := top 61
abbrev n_law_least : List Str := ["_law_values", "_law_many"]
theorem sc_law_least : FnScope n_law_least ["_law_values"] (defScope s_law_least) := ⟨rfl, rfl, rfl, by decide +kernel, rfl, by decide +kernel, by decide +kernel⟩
abbrev s_law_tell : Stmt := top 62
abbrev n_law_tell : List Str := ["_law_rows", "_law_rule_here", "_law_place", "_law_form"]
theorem sc_law_tell : FnScope n_law_tell ["_law_rows", "_law_rule_here", "_law_place"] (defScope s_law_tell) := ⟨rfl, rfl, rfl, by decide +kernel, rfl, by decide +kernel, by decide +kernel⟩
abbrev s_law_plain : Stmt := top 63
abbrev n_law_plain : List Str := ["_law_rows", "_law_rule_here", "_law_first", "_law_last", "_law_left", "_law_right", "_law_many", "_law_more", "_law_begin", "_law_least_here", "_law_going", "_law_ring_here", "_law_start", "_law_before", "_law_middle", "_law_k", "_law_place"]
theorem sc_law_plain : FnScope n_law_plain ["_law_rows", "_law_rule_here", "_law_first", "_law_last", "_law_left", "_law_right"] (defScope s_law_plain) := ⟨rfl, rfl, rfl, by decide +kernel, rfl, by decide +kernel, by decide +kernel⟩
abbrev s_law_once : Stmt := top 64
abbrev n_law_once : List Str := ["_law_form"]
theorem sc_law_once : FnScope n_law_once ["_law_form"] (defScope s_law_once) := ⟨rfl, rfl, rfl, by decide +kernel, rfl, by decide +kernel, by decide +kernel⟩
abbrev s_law_measure : Stmt := top 65
abbrev n_law_measure : List Str := ["_law_one", "_law_other"]
theorem sc_law_measure : FnScope n_law_measure ["_law_one", "_law_other"] (defScope s_law_measure) := ⟨rfl, rfl, rfl, by decide +kernel, rfl, by decide +kernel, by decide +kernel⟩
abbrev s_law_woven : Stmt := top 66
abbrev n_law_woven : List Str := ["_law_rows", "_law_rule_here", "_law_form", "_law_known", "_law_left", "_law_right", "_law_own", "_law_first", "_law_last"]
theorem sc_law_woven : FnScope n_law_woven ["_law_rows", "_law_rule_here"] (defScope s_law_woven) := ⟨rfl, rfl, rfl, by decide +kernel, rfl, by decide +kernel, by decide +kernel⟩
abbrev s_law_is : Stmt := top 67
abbrev n_law_is : List Str := ["_law_row_here", "_law_due", "_law_place", "_law_found"]
theorem sc_law_is : FnScope n_law_is ["_law_row_here", "_law_due"] (defScope s_law_is) := ⟨rfl, rfl, rfl, by decide +kernel, rfl, by decide +kernel, by decide +kernel⟩
abbrev s_law_kind : Stmt := top 68
abbrev n_law_kind : List Str := ["_law_error", "_law_found"]
theorem sc_law_kind : FnScope n_law_kind ["_law_error"] (defScope s_law_kind) := ⟨rfl, rfl, rfl, by decide +kernel, rfl, by decide +kernel, by decide +kernel⟩
abbrev s_law_far : Stmt := top 69
abbrev n_law_far : List Str := ["_law_cell_here", "_law_some"]
theorem sc_law_far : FnScope n_law_far ["_law_cell_here"] (defScope s_law_far) := ⟨rfl, rfl, rfl, by decide +kernel, rfl, by decide +kernel, by decide +kernel⟩
abbrev s_law_sized : Stmt := top 70
abbrev n_law_sized : List Str := ["_law_many", "_law_place", "_law_side", "_law_ring_here"]
theorem sc_law_sized : FnScope n_law_sized ["_law_many", "_law_place", "_law_side"] (defScope s_law_sized) := ⟨rfl, rfl, rfl, by decide +kernel, rfl, by decide +kernel, by decide +kernel⟩
abbrev s_law_tried : Stmt := top 71
abbrev n_law_tried : List Str := ["_law_log", "_law_way", "_law_one", "_law_other", "_law_found", "_law_error", "e"]
theorem sc_law_tried : FnScope n_law_tried ["_law_log", "_law_way", "_law_one", "_law_other"] (defScope s_law_tried) := ⟨rfl, rfl, rfl, by decide +kernel, rfl, by decide +kernel, by decide +kernel⟩
abbrev s_law_is_patch : Stmt := top 72
abbrev n_law_is_patch : List Str := ["_law_found", "_law_rows"]
theorem sc_law_is_patch : FnScope n_law_is_patch ["_law_found", "_law_rows"] (defScope s_law_is_patch) := ⟨rfl, rfl, rfl, by decide +kernel, rfl, by decide +kernel, by decide +kernel⟩
abbrev s_law_patches : Stmt := top 73
abbrev n_law_patches : List Str := ["_law_log", "_law_versions", "_law_on", "_law_cell_here", "_law_one", "_law_other", "_law_found", "_law_bad"]
theorem sc_law_patches : FnScope n_law_patches ["_law_log", "_law_versions", "_law_on", "_law_cell_here"] (defScope s_law_patches) := ⟨rfl, rfl, rfl, by decide +kernel, rfl, by decide +kernel, by decide +kernel⟩
abbrev s_law_whens : Stmt := top 74
abbrev n_law_whens : List Str := ["_law_log", "_law_versions", "_law_place", "_law_due", "_law_number", "_law_found", "_law_one"]
theorem sc_law_whens : FnScope n_law_whens ["_law_log", "_law_versions", "_law_place"] (defScope s_law_whens) := ⟨rfl, rfl, rfl, by decide +kernel, rfl, by decide +kernel, by decide +kernel⟩
abbrev s_law_great : Stmt := top 75
abbrev n_law_great : List Str := ["_law_script", "_law_base_here", "_law_many", "_law_more", "_law_may", "_law_rows", "_law_log", "_law_found"]
theorem sc_law_great : FnScope n_law_great ["_law_script", "_law_base_here"] (defScope s_law_great) := ⟨rfl, rfl, rfl, by decide +kernel, rfl, by decide +kernel, by decide +kernel⟩
abbrev s_law_put_anew : Stmt := top 76
abbrev n_law_put_anew : List Str := ["_law_log", "_law_versions", "_law_on", "_law_script", "_law_base_here", "_law_place", "_law_form", "_law_later"]
theorem sc_law_put_anew : FnScope n_law_put_anew ["_law_log", "_law_versions", "_law_on", "_law_script", "_law_base_here"] (defScope s_law_put_anew) := ⟨rfl, rfl, rfl, by decide +kernel, rfl, by decide +kernel, by decide +kernel⟩
abbrev s_law : Stmt := top 77
abbrev n_law : List Str := ["_law_script", "_law_base_here", "_law_form", "_law_log", "_law_versions", "_law_k", "_law_on", "_law_cell_here", "_law_place", "_law_thing"]
theorem sc_law : FnScope n_law ["_law_script"] (defScope s_law) := ⟨rfl, rfl, rfl, by decide +kernel, rfl, by decide +kernel, by decide +kernel⟩
def dd_is_place : He.DefD := ⟨("is_place", none), "is_place", "is_place", defArgs s_is_place, defBody s_is_place, defScope s_is_place, [], []⟩
def dd_is_value : He.DefD := ⟨("is_value", none), "is_value", "is_value", defArgs s_is_value, defBody s_is_value, defScope s_is_value, [], []⟩
def dd_are_values : He.DefD := ⟨("are_values", none), "are_values", "are_values", defArgs s_are_values, defBody s_are_values, defScope s_are_values, [], []⟩
def dd_need_place : He.DefD := ⟨("need_place", none), "need_place", "need_place", defArgs s_need_place, defBody s_need_place, defScope s_need_place, [], []⟩
def dd_least_round : He.DefD := ⟨("least_round", none), "least_round", "least_round", defArgs s_least_round, defBody s_least_round, defScope s_least_round, [], []⟩
def dd_Row_init : He.DefD := ⟨("Row", some "__init__"), "__init__", "Row.__init__", defArgs s_Row_init, defBody s_Row_init, defScope s_Row_init, [], []⟩
def dd_Row_tells : He.DefD := ⟨("Row", some "tells"), "tells", "Row.tells", defArgs s_Row_tells, defBody s_Row_tells, defScope s_Row_tells, [], []⟩
def dd_Row_told : He.DefD := ⟨("Row", some "told"), "told", "Row.told", defArgs s_Row_told, defBody s_Row_told, defScope s_Row_told, [], []⟩
def dd_cells : He.DefD := ⟨("cells", none), "cells", "cells", defArgs s_cells, defBody s_cells, defScope s_cells, [], []⟩
def dd_right_begin : He.DefD := ⟨("right_begin", none), "right_begin", "right_begin", defArgs s_right_begin, defBody s_right_begin, defScope s_right_begin, [], []⟩
def dd_left_end : He.DefD := ⟨("left_end", none), "left_end", "left_end", defArgs s_left_end, defBody s_left_end, defScope s_left_end, [], []⟩
def dd_plain : He.DefD := ⟨("plain", none), "plain", "plain", defArgs s_plain, defBody s_plain, defScope s_plain, [], []⟩
def dd_own_ends : He.DefD := ⟨("own_ends", none), "own_ends", "own_ends", defArgs s_own_ends, defBody s_own_ends, defScope s_own_ends, [], []⟩
def dd_spread : He.DefD := ⟨("spread", none), "spread", "spread", defArgs s_spread, defBody s_spread, defScope s_spread, [], []⟩
def dd_laid : He.DefD := ⟨("laid", none), "laid", "laid", defArgs s_laid, defBody s_laid, defScope s_laid, [], []⟩
def dd_common_measure : He.DefD := ⟨("common_measure", none), "common_measure", "common_measure", defArgs s_common_measure, defBody s_common_measure, defScope s_common_measure, [], []⟩
def dd_Unlike_of : He.DefD := ⟨("Unlike", some "of"), "of", "Unlike.of", defArgs s_Unlike_of, defBody s_Unlike_of, defScope s_Unlike_of, [], []⟩
def dd_common_round : He.DefD := ⟨("common_round", none), "common_round", "common_round", defArgs s_common_round, defBody s_common_round, defScope s_common_round, [], []⟩
def dd_ruled : He.DefD := ⟨("ruled", none), "ruled", "ruled", defArgs s_ruled, defBody s_ruled, defScope s_ruled, [], []⟩
def dd_all_joined : He.DefD := ⟨("all_joined", none), "all_joined", "all_joined", defArgs s_all_joined, defBody s_all_joined, defScope s_all_joined, [], []⟩
def dd_joined : He.DefD := ⟨("joined", none), "joined", "joined", defArgs s_joined, defBody s_joined, defScope s_joined, [], []⟩
def dd_unlike : He.DefD := ⟨("unlike", none), "unlike", "unlike", defArgs s_unlike, defBody s_unlike, defScope s_unlike, [], []⟩
def dd_common_times : He.DefD := ⟨("common_times", none), "common_times", "common_times", defArgs s_common_times, defBody s_common_times, defScope s_common_times, [], []⟩
def dd_is_round : He.DefD := ⟨("is_round", none), "is_round", "is_round", defArgs s_is_round, defBody s_is_round, defScope s_is_round, [], []⟩
def dd_woven : He.DefD := ⟨("woven", none), "woven", "woven", defArgs s_woven, defBody s_woven, defScope s_woven, [], []⟩
def dd_marked_value : He.DefD := ⟨("marked_value", none), "marked_value", "marked_value", defArgs s_marked_value, defBody s_marked_value, defScope s_marked_value, [], []⟩
def dd_patch_of : He.DefD := ⟨("patch_of", none), "patch_of", "patch_of", defArgs s_patch_of, defBody s_patch_of, defScope s_patch_of, [], []⟩
def dd_changed_value : He.DefD := ⟨("changed_value", none), "changed_value", "changed_value", defArgs s_changed_value, defBody s_changed_value, defScope s_changed_value, [], []⟩
def dd_patched : He.DefD := ⟨("patched", none), "patched", "patched", defArgs s_patched, defBody s_patched, defScope s_patched, [], []⟩
def dd_Log_init : He.DefD := ⟨("Log", some "__init__"), "__init__", "Log.__init__", defArgs s_Log_init, defBody s_Log_init, defScope s_Log_init, [], []⟩
def dd_Log_now : He.DefD := ⟨("Log", some "now"), "now", "Log.now", defArgs s_Log_now, defBody s_Log_now, defScope s_Log_now, [], []⟩
def dd_Log_do : He.DefD := ⟨("Log", some "do"), "do", "Log.do", defArgs s_Log_do, defBody s_Log_do, defScope s_Log_do, [], []⟩
def dd_Log_back : He.DefD := ⟨("Log", some "back"), "back", "Log.back", defArgs s_Log_back, defBody s_Log_back, defScope s_Log_back, [], []⟩
def dd_Log_how_many : He.DefD := ⟨("Log", some "how_many"), "how_many", "Log.how_many", defArgs s_Log_how_many, defBody s_Log_how_many, defScope s_Log_how_many, [], []⟩
def dd_Log_version : He.DefD := ⟨("Log", some "version"), "version", "Log.version", defArgs s_Log_version, defBody s_Log_version, defScope s_Log_version, [.non], []⟩
def dd_Log_between : He.DefD := ⟨("Log", some "between"), "between", "Log.between", defArgs s_Log_between, defBody s_Log_between, defScope s_Log_between, [], []⟩
def dd_Log_when : He.DefD := ⟨("Log", some "when"), "when", "Log.when", defArgs s_Log_when, defBody s_Log_when, defScope s_Log_when, [], []⟩
def dd_law_cell : He.DefD := ⟨("_law_cell", none), "_law_cell", "_law_cell", defArgs s_law_cell, defBody s_law_cell, defScope s_law_cell, [], []⟩
def dd_law_value : He.DefD := ⟨("_law_value", none), "_law_value", "_law_value", defArgs s_law_value, defBody s_law_value, defScope s_law_value, [], []⟩
def dd_law_ring : He.DefD := ⟨("_law_ring", none), "_law_ring", "_law_ring", defArgs s_law_ring, defBody s_law_ring, defScope s_law_ring, [], []⟩
def dd_law_row : He.DefD := ⟨("_law_row", none), "_law_row", "_law_row", defArgs s_law_row, defBody s_law_row, defScope s_law_row, [], []⟩
def dd_law_base : He.DefD := ⟨("_law_base", none), "_law_base", "_law_base", defArgs s_law_base, defBody s_law_base, defScope s_law_base, [], []⟩
def dd_law_at : He.DefD := ⟨("_law_at", none), "_law_at", "_law_at", defArgs s_law_at, defBody s_law_at, defScope s_law_at, [], []⟩
def dd_law_wider : He.DefD := ⟨("_law_wider", none), "_law_wider", "_law_wider", defArgs s_law_wider, defBody s_law_wider, defScope s_law_wider, [], []⟩
def dd_law_near : He.DefD := ⟨("_law_near", none), "_law_near", "_law_near", defArgs s_law_near, defBody s_law_near, defScope s_law_near, [], []⟩
def dd_law_like : He.DefD := ⟨("_law_like", none), "_law_like", "_law_like", defArgs s_law_like, defBody s_law_like, defScope s_law_like, [], []⟩
def dd_law_made : He.DefD := ⟨("_law_made", none), "_law_made", "_law_made", defArgs s_law_made, defBody s_law_made, defScope s_law_made, [], []⟩
def dd_law_rule : He.DefD := ⟨("_law_rule", none), "_law_rule", "_law_rule", defArgs s_law_rule, defBody s_law_rule, defScope s_law_rule, [], []⟩
def dd_law_least : He.DefD := ⟨("_law_least", none), "_law_least", "_law_least", defArgs s_law_least, defBody s_law_least, defScope s_law_least, [], []⟩
def dd_law_tell : He.DefD := ⟨("_law_tell", none), "_law_tell", "_law_tell", defArgs s_law_tell, defBody s_law_tell, defScope s_law_tell, [], []⟩
def dd_law_plain : He.DefD := ⟨("_law_plain", none), "_law_plain", "_law_plain", defArgs s_law_plain, defBody s_law_plain, defScope s_law_plain, [], []⟩
def dd_law_once : He.DefD := ⟨("_law_once", none), "_law_once", "_law_once", defArgs s_law_once, defBody s_law_once, defScope s_law_once, [], []⟩
def dd_law_measure : He.DefD := ⟨("_law_measure", none), "_law_measure", "_law_measure", defArgs s_law_measure, defBody s_law_measure, defScope s_law_measure, [], []⟩
def dd_law_woven : He.DefD := ⟨("_law_woven", none), "_law_woven", "_law_woven", defArgs s_law_woven, defBody s_law_woven, defScope s_law_woven, [], []⟩
def dd_law_is : He.DefD := ⟨("_law_is", none), "_law_is", "_law_is", defArgs s_law_is, defBody s_law_is, defScope s_law_is, [], []⟩
def dd_law_kind : He.DefD := ⟨("_law_kind", none), "_law_kind", "_law_kind", defArgs s_law_kind, defBody s_law_kind, defScope s_law_kind, [], []⟩
def dd_law_far : He.DefD := ⟨("_law_far", none), "_law_far", "_law_far", defArgs s_law_far, defBody s_law_far, defScope s_law_far, [], []⟩
def dd_law_sized : He.DefD := ⟨("_law_sized", none), "_law_sized", "_law_sized", defArgs s_law_sized, defBody s_law_sized, defScope s_law_sized, [], []⟩
def dd_law_tried : He.DefD := ⟨("_law_tried", none), "_law_tried", "_law_tried", defArgs s_law_tried, defBody s_law_tried, defScope s_law_tried, [], []⟩
def dd_law_is_patch : He.DefD := ⟨("_law_is_patch", none), "_law_is_patch", "_law_is_patch", defArgs s_law_is_patch, defBody s_law_is_patch, defScope s_law_is_patch, [], []⟩
def dd_law_patches : He.DefD := ⟨("_law_patches", none), "_law_patches", "_law_patches", defArgs s_law_patches, defBody s_law_patches, defScope s_law_patches, [], []⟩
def dd_law_whens : He.DefD := ⟨("_law_whens", none), "_law_whens", "_law_whens", defArgs s_law_whens, defBody s_law_whens, defScope s_law_whens, [], []⟩
def dd_law_great : He.DefD := ⟨("_law_great", none), "_law_great", "_law_great", defArgs s_law_great, defBody s_law_great, defScope s_law_great, [], []⟩
def dd_law_put_anew : He.DefD := ⟨("_law_put_anew", none), "_law_put_anew", "_law_put_anew", defArgs s_law_put_anew, defBody s_law_put_anew, defScope s_law_put_anew, [], []⟩
def dd_law : He.DefD := ⟨("law", none), "law", "law", defArgs s_law, defBody s_law, defScope s_law, [], []⟩
def dds : List He.DefD := [dd_is_place, dd_is_value, dd_are_values, dd_need_place, dd_least_round, dd_Row_init, dd_Row_tells, dd_Row_told, dd_cells, dd_right_begin, dd_left_end, dd_plain, dd_own_ends, dd_spread, dd_laid, dd_common_measure, dd_Unlike_of, dd_common_round, dd_ruled, dd_all_joined, dd_joined, dd_unlike, dd_common_times, dd_is_round, dd_woven, dd_marked_value, dd_patch_of, dd_changed_value, dd_patched, dd_Log_init, dd_Log_now, dd_Log_do, dd_Log_back, dd_Log_how_many, dd_Log_version, dd_Log_between, dd_Log_when, dd_law_cell, dd_law_value, dd_law_ring, dd_law_row, dd_law_base, dd_law_at, dd_law_wider, dd_law_near, dd_law_like, dd_law_made, dd_law_rule, dd_law_least, dd_law_tell, dd_law_plain, dd_law_once, dd_law_measure, dd_law_woven, dd_law_is, dd_law_kind, dd_law_far, dd_law_sized, dd_law_tried, dd_law_is_patch, dd_law_patches, dd_law_whens, dd_law_great, dd_law_put_anew, dd_law]
def fas : List He.Fa := [.glo "is_place", .glo "is_value", .glo "are_values", .glo "need_place", .glo "least_round", .glo "cells", .glo "right_begin", .glo "left_end", .glo "plain", .glo "own_ends", .glo "spread", .glo "laid", .glo "common_measure", .glo "common_round", .glo "ruled", .glo "all_joined", .glo "joined", .glo "unlike", .glo "common_times", .glo "is_round", .glo "woven", .glo "marked_value", .glo "patch_of", .glo "changed_value", .glo "patched", .glo "_law_cell", .glo "_law_value", .glo "_law_ring", .glo "_law_row", .glo "_law_base", .glo "_law_at", .glo "_law_wider", .glo "_law_near", .glo "_law_like", .glo "_law_made", .glo "_law_rule", .glo "_law_least", .glo "_law_tell", .glo "_law_plain", .glo "_law_once", .glo "_law_measure", .glo "_law_woven", .glo "_law_is", .glo "_law_kind", .glo "_law_far", .glo "_law_sized", .glo "_law_tried", .glo "_law_is_patch", .glo "_law_patches", .glo "_law_whens", .glo "_law_great", .glo "_law_put_anew", .glo "law", .glo "Row", .glo "Log", .glo "Unlike", .glo "TooMany", .glo "NoVersion", .glo "NoPlace", .glo "NoRow", .glo "NoValue", .glo "NoSpan", .glo "FarError", .free "len", .free "isinstance", .free "all", .free "range", .free "tuple", .free "list", .free "min", .free "max", .free "int", .free "bool", .free "ValueError", .int "MOST_VALUES" 4000, .cls "Row", .cls "Log", .cls "Unlike", .noat "Row" "left", .noat "Row" "middle", .noat "Row" "first", .noat "Row" "right", .noat "Log" "rows", .noat "Log" "at", .meth "Row" "tells", .meth "Row" "told", .meth "Log" "now", .meth "Log" "do", .meth "Log" "back", .meth "Log" "how_many", .meth "Log" "version", .meth "Log" "between", .meth "Log" "when", .meth "Unlike" "of", .mkr "Row", .mkr "Log", .exc "TooMany", .exc "NoVersion", .exc "NoPlace", .exm "TooMany" "FarError" true, .exm "NoVersion" "FarError" true, .exm "NoPlace" "FarError" true]
def excB (K : PySem.W.Frag) (x : Str) : Bool := He.eqO (PySem.W.findIn K (.ref (He.ga K x)) "__getattribute__") (some (some (.builtin "BaseException.__getattribute__"))) && (He.eqO (PySem.W.findIn K (.ref (He.ga K x)) "__getattr__") (some none) &&
  (decide (PySem.W.subIn K (.ref (He.ga K x)) (.type "BaseException") = some true) && (PySem.W.hasDictIn K (He.ga K x) && (He.eqO (PySem.W.findIn K (.ref (He.ga K x)) "__class__") (some (some (.builtin "object.__class__"))) &&
  decide (PySem.W.mroIn K (He.ga K x) (.type "object") = some true)))))
def clsB (K : PySem.W.Frag) : Bool := He.eqO (PySem.W.specialIn K (.builtin "object.__class__") "__get__") (some (some (.builtin "getset_descriptor.__get__"))) && decide (PySem.W.takesIn K (.builtin "object.__class__") = some true)
def kitB1 (K : PySem.W.Frag) (x y : Str) (b : Bool) : Bool := decide (PySem.W.kitOne K (.ref (He.ga K x)) (.ref (He.ga K y)) = some b)
def kitB2 (K : PySem.W.Frag) (x : Str) : Bool := decide (PySem.W.kitOne K (.ref (He.ga K x)) (.type "ValueError") = some true)
def mk0B (K : PySem.W.Frag) (x : Str) : Bool := PySem.W.makesIn K (He.ga K x) && (He.eqO (PySem.W.findIn K (.ref (He.ga K x)) "__init__") (some (some (.builtin "object.__init__"))) && PySem.W.keepIn K (.ref (He.ga K x)))
def rowB (K : PySem.W.Frag) : Bool := He.eqO (PySem.W.findIn K (.ref (He.ga K "Row")) "__class__") (some (some (.builtin "object.__class__"))) && decide (PySem.W.mroIn K (He.ga K "Row") (.type "object") = some true)
def kits : List (Str × Str × Bool) := [("TooMany", "TooMany", true), ("TooMany", "NoVersion", false), ("TooMany", "NoPlace", false), ("TooMany", "NoRow", false), ("TooMany", "NoValue", false), ("TooMany", "NoSpan", false), ("NoVersion", "TooMany", false), ("NoVersion", "NoVersion", true), ("NoVersion", "NoPlace", false), ("NoVersion", "NoRow", false), ("NoVersion", "NoValue", false), ("NoVersion", "NoSpan", false), ("NoPlace", "TooMany", false), ("NoPlace", "NoVersion", false), ("NoPlace", "NoPlace", true), ("NoPlace", "NoRow", false), ("NoPlace", "NoValue", false), ("NoPlace", "NoSpan", false)]
def exB (K : PySem.W.Frag) : Bool := excB K "TooMany" && (excB K "NoVersion" && (excB K "NoPlace" && (clsB K && (kitB2 K "TooMany" && (kitB2 K "NoVersion" && (kitB2 K "NoPlace" && (mk0B K "Unlike" && (rowB K && kits.all fun q => kitB1 K q.1 q.2.1 q.2.2))))))))
/-- what the head has told of the written part -/
structure Tt (K : PySem.W.Frag) (mg : Str → Option Value) : Prop where
  says : He.SaysD fas dds K
  ex : exB K = true
  glo : ∀ x, He.Fa.glo x ∈ fas → mg x = some (.ref (He.ga K x))
  fre : ∀ x, He.Fa.free x ∈ fas → mg x = none
  most : ∃ t, mg "MOST_VALUES" = some (.int 4000 t)
section
variable {K : PySem.W.Frag} {mg : Str → Option Value} (T : Tt K mg)
abbrev rowA (K : PySem.W.Frag) : Addr := He.ga K "Row"
abbrev logA (K : PySem.W.Frag) : Addr := He.ga K "Log"
abbrev tx (K : PySem.W.Frag) : Tx := ⟨K, rowA K, logA K⟩
include T
theorem gl_is_place : mg "is_place" = some (.ref (He.ga K "is_place")) := T.glo _ (List.mem_of_getElem? (i := 0) rfl)
theorem gl_is_value : mg "is_value" = some (.ref (He.ga K "is_value")) := T.glo _ (List.mem_of_getElem? (i := 1) rfl)
theorem gl_are_values : mg "are_values" = some (.ref (He.ga K "are_values")) := T.glo _ (List.mem_of_getElem? (i := 2) rfl)
theorem gl_need_place : mg "need_place" = some (.ref (He.ga K "need_place")) := T.glo _ (List.mem_of_getElem? (i := 3) rfl)
theorem gl_least_round : mg "least_round" = some (.ref (He.ga K "least_round")) := T.glo _ (List.mem_of_getElem? (i := 4) rfl)
theorem gl_cells : mg "cells" = some (.ref (He.ga K "cells")) := T.glo _ (List.mem_of_getElem? (i := 5) rfl)
theorem gl_right_begin : mg "right_begin" = some (.ref (He.ga K "right_begin")) := T.glo _ (List.mem_of_getElem? (i := 6) rfl)
theorem gl_left_end : mg "left_end" = some (.ref (He.ga K "left_end")) := T.glo _ (List.mem_of_getElem? (i := 7) rfl)
theorem gl_plain : mg "plain" = some (.ref (He.ga K "plain")) := T.glo _ (List.mem_of_getElem? (i := 8) rfl)
theorem gl_own_ends : mg "own_ends" = some (.ref (He.ga K "own_ends")) := T.glo _ (List.mem_of_getElem? (i := 9) rfl)
theorem gl_spread : mg "spread" = some (.ref (He.ga K "spread")) := T.glo _ (List.mem_of_getElem? (i := 10) rfl)
theorem gl_laid : mg "laid" = some (.ref (He.ga K "laid")) := T.glo _ (List.mem_of_getElem? (i := 11) rfl)
theorem gl_common_measure : mg "common_measure" = some (.ref (He.ga K "common_measure")) := T.glo _ (List.mem_of_getElem? (i := 12) rfl)
theorem gl_common_round : mg "common_round" = some (.ref (He.ga K "common_round")) := T.glo _ (List.mem_of_getElem? (i := 13) rfl)
theorem gl_ruled : mg "ruled" = some (.ref (He.ga K "ruled")) := T.glo _ (List.mem_of_getElem? (i := 14) rfl)
theorem gl_all_joined : mg "all_joined" = some (.ref (He.ga K "all_joined")) := T.glo _ (List.mem_of_getElem? (i := 15) rfl)
theorem gl_joined : mg "joined" = some (.ref (He.ga K "joined")) := T.glo _ (List.mem_of_getElem? (i := 16) rfl)
theorem gl_unlike : mg "unlike" = some (.ref (He.ga K "unlike")) := T.glo _ (List.mem_of_getElem? (i := 17) rfl)
theorem gl_common_times : mg "common_times" = some (.ref (He.ga K "common_times")) := T.glo _ (List.mem_of_getElem? (i := 18) rfl)
theorem gl_is_round : mg "is_round" = some (.ref (He.ga K "is_round")) := T.glo _ (List.mem_of_getElem? (i := 19) rfl)
theorem gl_woven : mg "woven" = some (.ref (He.ga K "woven")) := T.glo _ (List.mem_of_getElem? (i := 20) rfl)
theorem gl_marked_value : mg "marked_value" = some (.ref (He.ga K "marked_value")) := T.glo _ (List.mem_of_getElem? (i := 21) rfl)
theorem gl_patch_of : mg "patch_of" = some (.ref (He.ga K "patch_of")) := T.glo _ (List.mem_of_getElem? (i := 22) rfl)
theorem gl_changed_value : mg "changed_value" = some (.ref (He.ga K "changed_value")) := T.glo _ (List.mem_of_getElem? (i := 23) rfl)
theorem gl_patched : mg "patched" = some (.ref (He.ga K "patched")) := T.glo _ (List.mem_of_getElem? (i := 24) rfl)
theorem gl_law_cell : mg "_law_cell" = some (.ref (He.ga K "_law_cell")) := T.glo _ (List.mem_of_getElem? (i := 25) rfl)
theorem gl_law_value : mg "_law_value" = some (.ref (He.ga K "_law_value")) := T.glo _ (List.mem_of_getElem? (i := 26) rfl)
theorem gl_law_ring : mg "_law_ring" = some (.ref (He.ga K "_law_ring")) := T.glo _ (List.mem_of_getElem? (i := 27) rfl)
theorem gl_law_row : mg "_law_row" = some (.ref (He.ga K "_law_row")) := T.glo _ (List.mem_of_getElem? (i := 28) rfl)
theorem gl_law_base : mg "_law_base" = some (.ref (He.ga K "_law_base")) := T.glo _ (List.mem_of_getElem? (i := 29) rfl)
theorem gl_law_at : mg "_law_at" = some (.ref (He.ga K "_law_at")) := T.glo _ (List.mem_of_getElem? (i := 30) rfl)
theorem gl_law_wider : mg "_law_wider" = some (.ref (He.ga K "_law_wider")) := T.glo _ (List.mem_of_getElem? (i := 31) rfl)
theorem gl_law_near : mg "_law_near" = some (.ref (He.ga K "_law_near")) := T.glo _ (List.mem_of_getElem? (i := 32) rfl)
theorem gl_law_like : mg "_law_like" = some (.ref (He.ga K "_law_like")) := T.glo _ (List.mem_of_getElem? (i := 33) rfl)
theorem gl_law_made : mg "_law_made" = some (.ref (He.ga K "_law_made")) := T.glo _ (List.mem_of_getElem? (i := 34) rfl)
theorem gl_law_rule : mg "_law_rule" = some (.ref (He.ga K "_law_rule")) := T.glo _ (List.mem_of_getElem? (i := 35) rfl)
theorem gl_law_least : mg "_law_least" = some (.ref (He.ga K "_law_least")) := T.glo _ (List.mem_of_getElem? (i := 36) rfl)
theorem gl_law_tell : mg "_law_tell" = some (.ref (He.ga K "_law_tell")) := T.glo _ (List.mem_of_getElem? (i := 37) rfl)
theorem gl_law_plain : mg "_law_plain" = some (.ref (He.ga K "_law_plain")) := T.glo _ (List.mem_of_getElem? (i := 38) rfl)
theorem gl_law_once : mg "_law_once" = some (.ref (He.ga K "_law_once")) := T.glo _ (List.mem_of_getElem? (i := 39) rfl)
theorem gl_law_measure : mg "_law_measure" = some (.ref (He.ga K "_law_measure")) := T.glo _ (List.mem_of_getElem? (i := 40) rfl)
theorem gl_law_woven : mg "_law_woven" = some (.ref (He.ga K "_law_woven")) := T.glo _ (List.mem_of_getElem? (i := 41) rfl)
theorem gl_law_is : mg "_law_is" = some (.ref (He.ga K "_law_is")) := T.glo _ (List.mem_of_getElem? (i := 42) rfl)
theorem gl_law_kind : mg "_law_kind" = some (.ref (He.ga K "_law_kind")) := T.glo _ (List.mem_of_getElem? (i := 43) rfl)
theorem gl_law_far : mg "_law_far" = some (.ref (He.ga K "_law_far")) := T.glo _ (List.mem_of_getElem? (i := 44) rfl)
theorem gl_law_sized : mg "_law_sized" = some (.ref (He.ga K "_law_sized")) := T.glo _ (List.mem_of_getElem? (i := 45) rfl)
theorem gl_law_tried : mg "_law_tried" = some (.ref (He.ga K "_law_tried")) := T.glo _ (List.mem_of_getElem? (i := 46) rfl)
theorem gl_law_is_patch : mg "_law_is_patch" = some (.ref (He.ga K "_law_is_patch")) := T.glo _ (List.mem_of_getElem? (i := 47) rfl)
theorem gl_law_patches : mg "_law_patches" = some (.ref (He.ga K "_law_patches")) := T.glo _ (List.mem_of_getElem? (i := 48) rfl)
theorem gl_law_whens : mg "_law_whens" = some (.ref (He.ga K "_law_whens")) := T.glo _ (List.mem_of_getElem? (i := 49) rfl)
theorem gl_law_great : mg "_law_great" = some (.ref (He.ga K "_law_great")) := T.glo _ (List.mem_of_getElem? (i := 50) rfl)
theorem gl_law_put_anew : mg "_law_put_anew" = some (.ref (He.ga K "_law_put_anew")) := T.glo _ (List.mem_of_getElem? (i := 51) rfl)
theorem gl_law : mg "law" = some (.ref (He.ga K "law")) := T.glo _ (List.mem_of_getElem? (i := 52) rfl)
theorem gl_Row : mg "Row" = some (.ref (He.ga K "Row")) := T.glo _ (List.mem_of_getElem? (i := 53) rfl)
theorem gl_Log : mg "Log" = some (.ref (He.ga K "Log")) := T.glo _ (List.mem_of_getElem? (i := 54) rfl)
theorem gl_Unlike : mg "Unlike" = some (.ref (He.ga K "Unlike")) := T.glo _ (List.mem_of_getElem? (i := 55) rfl)
theorem gl_TooMany : mg "TooMany" = some (.ref (He.ga K "TooMany")) := T.glo _ (List.mem_of_getElem? (i := 56) rfl)
theorem gl_NoVersion : mg "NoVersion" = some (.ref (He.ga K "NoVersion")) := T.glo _ (List.mem_of_getElem? (i := 57) rfl)
theorem gl_NoPlace : mg "NoPlace" = some (.ref (He.ga K "NoPlace")) := T.glo _ (List.mem_of_getElem? (i := 58) rfl)
theorem gl_NoRow : mg "NoRow" = some (.ref (He.ga K "NoRow")) := T.glo _ (List.mem_of_getElem? (i := 59) rfl)
theorem gl_NoValue : mg "NoValue" = some (.ref (He.ga K "NoValue")) := T.glo _ (List.mem_of_getElem? (i := 60) rfl)
theorem gl_NoSpan : mg "NoSpan" = some (.ref (He.ga K "NoSpan")) := T.glo _ (List.mem_of_getElem? (i := 61) rfl)
theorem gl_FarError : mg "FarError" = some (.ref (He.ga K "FarError")) := T.glo _ (List.mem_of_getElem? (i := 62) rfl)
theorem fr_len : mg "len" = none := T.fre _ (List.mem_of_getElem? (i := 63) rfl)
theorem fr_isinstance : mg "isinstance" = none := T.fre _ (List.mem_of_getElem? (i := 64) rfl)
theorem fr_all : mg "all" = none := T.fre _ (List.mem_of_getElem? (i := 65) rfl)
theorem fr_range : mg "range" = none := T.fre _ (List.mem_of_getElem? (i := 66) rfl)
theorem fr_tuple : mg "tuple" = none := T.fre _ (List.mem_of_getElem? (i := 67) rfl)
theorem fr_list : mg "list" = none := T.fre _ (List.mem_of_getElem? (i := 68) rfl)
theorem fr_min : mg "min" = none := T.fre _ (List.mem_of_getElem? (i := 69) rfl)
theorem fr_max : mg "max" = none := T.fre _ (List.mem_of_getElem? (i := 70) rfl)
theorem fr_int : mg "int" = none := T.fre _ (List.mem_of_getElem? (i := 71) rfl)
theorem fr_bool : mg "bool" = none := T.fre _ (List.mem_of_getElem? (i := 72) rfl)
theorem fr_ValueError : mg "ValueError" = none := T.fre _ (List.mem_of_getElem? (i := 73) rfl)
theorem cl_Row : Cls K (He.ga K "Row") := He.cls_ok (T.says.fact 75 rfl)
theorem cl_Log : Cls K (He.ga K "Log") := He.cls_ok (T.says.fact 76 rfl)
theorem cl_Unlike : Cls K (He.ga K "Unlike") := He.cls_ok (T.says.fact 77 rfl)
theorem na_left : NoAttr K (rowA K) "left" := He.noat_ok (T.says.fact 78 rfl)
theorem na_middle : NoAttr K (rowA K) "middle" := He.noat_ok (T.says.fact 79 rfl)
theorem na_first : NoAttr K (rowA K) "first" := He.noat_ok (T.says.fact 80 rfl)
theorem na_right : NoAttr K (rowA K) "right" := He.noat_ok (T.says.fact 81 rfl)
theorem na_rows : NoAttr K (logA K) "rows" := He.noat_ok (T.says.fact 82 rfl)
theorem na_at : NoAttr K (logA K) "at" := He.noat_ok (T.says.fact 83 rfl)
theorem me_tells : Meth K (He.ga K "Row") "tells" (He.ma K (He.ga K "Row") "tells") := He.meth_ok (T.says.fact 84 rfl)
theorem me_told : Meth K (He.ga K "Row") "told" (He.ma K (He.ga K "Row") "told") := He.meth_ok (T.says.fact 85 rfl)
theorem me_now : Meth K (He.ga K "Log") "now" (He.ma K (He.ga K "Log") "now") := He.meth_ok (T.says.fact 86 rfl)
theorem me_do : Meth K (He.ga K "Log") "do" (He.ma K (He.ga K "Log") "do") := He.meth_ok (T.says.fact 87 rfl)
theorem me_back : Meth K (He.ga K "Log") "back" (He.ma K (He.ga K "Log") "back") := He.meth_ok (T.says.fact 88 rfl)
theorem me_how_many : Meth K (He.ga K "Log") "how_many" (He.ma K (He.ga K "Log") "how_many") := He.meth_ok (T.says.fact 89 rfl)
theorem me_version : Meth K (He.ga K "Log") "version" (He.ma K (He.ga K "Log") "version") := He.meth_ok (T.says.fact 90 rfl)
theorem me_between : Meth K (He.ga K "Log") "between" (He.ma K (He.ga K "Log") "between") := He.meth_ok (T.says.fact 91 rfl)
theorem me_when : Meth K (He.ga K "Log") "when" (He.ma K (He.ga K "Log") "when") := He.meth_ok (T.says.fact 92 rfl)
theorem me_of : Meth K (He.ga K "Unlike") "of" (He.ma K (He.ga K "Unlike") "of") := He.meth_ok (T.says.fact 93 rfl)
theorem mk_Row : Mk K (He.ga K "Row") (He.ma K (He.ga K "Row") "__init__") := He.mkr_ok (T.says.fact 94 rfl)
theorem mk_Log : Mk K (He.ga K "Log") (He.ma K (He.ga K "Log") "__init__") := He.mkr_ok (T.says.fact 95 rfl)
theorem ex_TooMany : PySem.W.excIn K (He.ga K "TooMany") He.veBase "ValueError.__new__" = true := (He.exc_ok (T.says.fact 96 rfl)).1
theorem ke_TooMany : PySem.W.keepIn K (.ref (He.ga K "TooMany")) = true := (He.exc_ok (T.says.fact 96 rfl)).2.1
theorem rs_TooMany {X : Cx} (hK : X.K = K := by rfl) : Raises X (.ref (He.ga K "TooMany")) := by
  subst hK
  exact raises_own (He.exc_ok (T.says.fact 96 rfl)).2.2.1 (He.exc_ok (T.says.fact 96 rfl)).2.2.2
theorem xm_TooMany : PySem.W.exmOne K (.ref (He.ga K "TooMany")) (.ref (He.ga K "FarError")) = some true := He.exm_ok (T.says.fact 99 rfl)
theorem ex_NoVersion : PySem.W.excIn K (He.ga K "NoVersion") He.veBase "ValueError.__new__" = true := (He.exc_ok (T.says.fact 97 rfl)).1
theorem ke_NoVersion : PySem.W.keepIn K (.ref (He.ga K "NoVersion")) = true := (He.exc_ok (T.says.fact 97 rfl)).2.1
theorem rs_NoVersion {X : Cx} (hK : X.K = K := by rfl) : Raises X (.ref (He.ga K "NoVersion")) := by
  subst hK
  exact raises_own (He.exc_ok (T.says.fact 97 rfl)).2.2.1 (He.exc_ok (T.says.fact 97 rfl)).2.2.2
theorem xm_NoVersion : PySem.W.exmOne K (.ref (He.ga K "NoVersion")) (.ref (He.ga K "FarError")) = some true := He.exm_ok (T.says.fact 100 rfl)
theorem ex_NoPlace : PySem.W.excIn K (He.ga K "NoPlace") He.veBase "ValueError.__new__" = true := (He.exc_ok (T.says.fact 98 rfl)).1
theorem ke_NoPlace : PySem.W.keepIn K (.ref (He.ga K "NoPlace")) = true := (He.exc_ok (T.says.fact 98 rfl)).2.1
theorem rs_NoPlace {X : Cx} (hK : X.K = K := by rfl) : Raises X (.ref (He.ga K "NoPlace")) := by
  subst hK
  exact raises_own (He.exc_ok (T.says.fact 98 rfl)).2.2.1 (He.exc_ok (T.says.fact 98 rfl)).2.2.2
theorem xm_NoPlace : PySem.W.exmOne K (.ref (He.ga K "NoPlace")) (.ref (He.ga K "FarError")) = some true := He.exm_ok (T.says.fact 101 rfl)
theorem fd_is_place : ∃ fd, FunD K dd_is_place.name dd_is_place.qual dd_is_place.params dd_is_place.body dd_is_place.scope (dd_is_place.dvs K) (dd_is_place.kws K) (He.fAd K dd_is_place.at_) fd := T.says.def_ 0 rfl
theorem fd_is_value : ∃ fd, FunD K dd_is_value.name dd_is_value.qual dd_is_value.params dd_is_value.body dd_is_value.scope (dd_is_value.dvs K) (dd_is_value.kws K) (He.fAd K dd_is_value.at_) fd := T.says.def_ 1 rfl
theorem fd_are_values : ∃ fd, FunD K dd_are_values.name dd_are_values.qual dd_are_values.params dd_are_values.body dd_are_values.scope (dd_are_values.dvs K) (dd_are_values.kws K) (He.fAd K dd_are_values.at_) fd := T.says.def_ 2 rfl
theorem fd_need_place : ∃ fd, FunD K dd_need_place.name dd_need_place.qual dd_need_place.params dd_need_place.body dd_need_place.scope (dd_need_place.dvs K) (dd_need_place.kws K) (He.fAd K dd_need_place.at_) fd := T.says.def_ 3 rfl
theorem fd_least_round : ∃ fd, FunD K dd_least_round.name dd_least_round.qual dd_least_round.params dd_least_round.body dd_least_round.scope (dd_least_round.dvs K) (dd_least_round.kws K) (He.fAd K dd_least_round.at_) fd := T.says.def_ 4 rfl
theorem fd_Row_init : ∃ fd, FunD K dd_Row_init.name dd_Row_init.qual dd_Row_init.params dd_Row_init.body dd_Row_init.scope (dd_Row_init.dvs K) (dd_Row_init.kws K) (He.fAd K dd_Row_init.at_) fd := T.says.def_ 5 rfl
theorem fd_Row_tells : ∃ fd, FunD K dd_Row_tells.name dd_Row_tells.qual dd_Row_tells.params dd_Row_tells.body dd_Row_tells.scope (dd_Row_tells.dvs K) (dd_Row_tells.kws K) (He.fAd K dd_Row_tells.at_) fd := T.says.def_ 6 rfl
theorem fd_Row_told : ∃ fd, FunD K dd_Row_told.name dd_Row_told.qual dd_Row_told.params dd_Row_told.body dd_Row_told.scope (dd_Row_told.dvs K) (dd_Row_told.kws K) (He.fAd K dd_Row_told.at_) fd := T.says.def_ 7 rfl
theorem fd_cells : ∃ fd, FunD K dd_cells.name dd_cells.qual dd_cells.params dd_cells.body dd_cells.scope (dd_cells.dvs K) (dd_cells.kws K) (He.fAd K dd_cells.at_) fd := T.says.def_ 8 rfl
theorem fd_right_begin : ∃ fd, FunD K dd_right_begin.name dd_right_begin.qual dd_right_begin.params dd_right_begin.body dd_right_begin.scope (dd_right_begin.dvs K) (dd_right_begin.kws K) (He.fAd K dd_right_begin.at_) fd := T.says.def_ 9 rfl
theorem fd_left_end : ∃ fd, FunD K dd_left_end.name dd_left_end.qual dd_left_end.params dd_left_end.body dd_left_end.scope (dd_left_end.dvs K) (dd_left_end.kws K) (He.fAd K dd_left_end.at_) fd := T.says.def_ 10 rfl
theorem fd_plain : ∃ fd, FunD K dd_plain.name dd_plain.qual dd_plain.params dd_plain.body dd_plain.scope (dd_plain.dvs K) (dd_plain.kws K) (He.fAd K dd_plain.at_) fd := T.says.def_ 11 rfl
theorem fd_own_ends : ∃ fd, FunD K dd_own_ends.name dd_own_ends.qual dd_own_ends.params dd_own_ends.body dd_own_ends.scope (dd_own_ends.dvs K) (dd_own_ends.kws K) (He.fAd K dd_own_ends.at_) fd := T.says.def_ 12 rfl
theorem fd_spread : ∃ fd, FunD K dd_spread.name dd_spread.qual dd_spread.params dd_spread.body dd_spread.scope (dd_spread.dvs K) (dd_spread.kws K) (He.fAd K dd_spread.at_) fd := T.says.def_ 13 rfl
theorem fd_laid : ∃ fd, FunD K dd_laid.name dd_laid.qual dd_laid.params dd_laid.body dd_laid.scope (dd_laid.dvs K) (dd_laid.kws K) (He.fAd K dd_laid.at_) fd := T.says.def_ 14 rfl
theorem fd_common_measure : ∃ fd, FunD K dd_common_measure.name dd_common_measure.qual dd_common_measure.params dd_common_measure.body dd_common_measure.scope (dd_common_measure.dvs K) (dd_common_measure.kws K) (He.fAd K dd_common_measure.at_) fd := T.says.def_ 15 rfl
theorem fd_Unlike_of : ∃ fd, FunD K dd_Unlike_of.name dd_Unlike_of.qual dd_Unlike_of.params dd_Unlike_of.body dd_Unlike_of.scope (dd_Unlike_of.dvs K) (dd_Unlike_of.kws K) (He.fAd K dd_Unlike_of.at_) fd := T.says.def_ 16 rfl
theorem fd_common_round : ∃ fd, FunD K dd_common_round.name dd_common_round.qual dd_common_round.params dd_common_round.body dd_common_round.scope (dd_common_round.dvs K) (dd_common_round.kws K) (He.fAd K dd_common_round.at_) fd := T.says.def_ 17 rfl
theorem fd_ruled : ∃ fd, FunD K dd_ruled.name dd_ruled.qual dd_ruled.params dd_ruled.body dd_ruled.scope (dd_ruled.dvs K) (dd_ruled.kws K) (He.fAd K dd_ruled.at_) fd := T.says.def_ 18 rfl
theorem fd_all_joined : ∃ fd, FunD K dd_all_joined.name dd_all_joined.qual dd_all_joined.params dd_all_joined.body dd_all_joined.scope (dd_all_joined.dvs K) (dd_all_joined.kws K) (He.fAd K dd_all_joined.at_) fd := T.says.def_ 19 rfl
theorem fd_joined : ∃ fd, FunD K dd_joined.name dd_joined.qual dd_joined.params dd_joined.body dd_joined.scope (dd_joined.dvs K) (dd_joined.kws K) (He.fAd K dd_joined.at_) fd := T.says.def_ 20 rfl
theorem fd_unlike : ∃ fd, FunD K dd_unlike.name dd_unlike.qual dd_unlike.params dd_unlike.body dd_unlike.scope (dd_unlike.dvs K) (dd_unlike.kws K) (He.fAd K dd_unlike.at_) fd := T.says.def_ 21 rfl
theorem fd_common_times : ∃ fd, FunD K dd_common_times.name dd_common_times.qual dd_common_times.params dd_common_times.body dd_common_times.scope (dd_common_times.dvs K) (dd_common_times.kws K) (He.fAd K dd_common_times.at_) fd := T.says.def_ 22 rfl
theorem fd_is_round : ∃ fd, FunD K dd_is_round.name dd_is_round.qual dd_is_round.params dd_is_round.body dd_is_round.scope (dd_is_round.dvs K) (dd_is_round.kws K) (He.fAd K dd_is_round.at_) fd := T.says.def_ 23 rfl
theorem fd_woven : ∃ fd, FunD K dd_woven.name dd_woven.qual dd_woven.params dd_woven.body dd_woven.scope (dd_woven.dvs K) (dd_woven.kws K) (He.fAd K dd_woven.at_) fd := T.says.def_ 24 rfl
theorem fd_marked_value : ∃ fd, FunD K dd_marked_value.name dd_marked_value.qual dd_marked_value.params dd_marked_value.body dd_marked_value.scope (dd_marked_value.dvs K) (dd_marked_value.kws K) (He.fAd K dd_marked_value.at_) fd := T.says.def_ 25 rfl
theorem fd_patch_of : ∃ fd, FunD K dd_patch_of.name dd_patch_of.qual dd_patch_of.params dd_patch_of.body dd_patch_of.scope (dd_patch_of.dvs K) (dd_patch_of.kws K) (He.fAd K dd_patch_of.at_) fd := T.says.def_ 26 rfl
theorem fd_changed_value : ∃ fd, FunD K dd_changed_value.name dd_changed_value.qual dd_changed_value.params dd_changed_value.body dd_changed_value.scope (dd_changed_value.dvs K) (dd_changed_value.kws K) (He.fAd K dd_changed_value.at_) fd := T.says.def_ 27 rfl
theorem fd_patched : ∃ fd, FunD K dd_patched.name dd_patched.qual dd_patched.params dd_patched.body dd_patched.scope (dd_patched.dvs K) (dd_patched.kws K) (He.fAd K dd_patched.at_) fd := T.says.def_ 28 rfl
theorem fd_Log_init : ∃ fd, FunD K dd_Log_init.name dd_Log_init.qual dd_Log_init.params dd_Log_init.body dd_Log_init.scope (dd_Log_init.dvs K) (dd_Log_init.kws K) (He.fAd K dd_Log_init.at_) fd := T.says.def_ 29 rfl
theorem fd_Log_now : ∃ fd, FunD K dd_Log_now.name dd_Log_now.qual dd_Log_now.params dd_Log_now.body dd_Log_now.scope (dd_Log_now.dvs K) (dd_Log_now.kws K) (He.fAd K dd_Log_now.at_) fd := T.says.def_ 30 rfl
theorem fd_Log_do : ∃ fd, FunD K dd_Log_do.name dd_Log_do.qual dd_Log_do.params dd_Log_do.body dd_Log_do.scope (dd_Log_do.dvs K) (dd_Log_do.kws K) (He.fAd K dd_Log_do.at_) fd := T.says.def_ 31 rfl
theorem fd_Log_back : ∃ fd, FunD K dd_Log_back.name dd_Log_back.qual dd_Log_back.params dd_Log_back.body dd_Log_back.scope (dd_Log_back.dvs K) (dd_Log_back.kws K) (He.fAd K dd_Log_back.at_) fd := T.says.def_ 32 rfl
theorem fd_Log_how_many : ∃ fd, FunD K dd_Log_how_many.name dd_Log_how_many.qual dd_Log_how_many.params dd_Log_how_many.body dd_Log_how_many.scope (dd_Log_how_many.dvs K) (dd_Log_how_many.kws K) (He.fAd K dd_Log_how_many.at_) fd := T.says.def_ 33 rfl
theorem fd_Log_version : ∃ fd, FunD K dd_Log_version.name dd_Log_version.qual dd_Log_version.params dd_Log_version.body dd_Log_version.scope (dd_Log_version.dvs K) (dd_Log_version.kws K) (He.fAd K dd_Log_version.at_) fd := T.says.def_ 34 rfl
theorem fd_Log_between : ∃ fd, FunD K dd_Log_between.name dd_Log_between.qual dd_Log_between.params dd_Log_between.body dd_Log_between.scope (dd_Log_between.dvs K) (dd_Log_between.kws K) (He.fAd K dd_Log_between.at_) fd := T.says.def_ 35 rfl
theorem fd_Log_when : ∃ fd, FunD K dd_Log_when.name dd_Log_when.qual dd_Log_when.params dd_Log_when.body dd_Log_when.scope (dd_Log_when.dvs K) (dd_Log_when.kws K) (He.fAd K dd_Log_when.at_) fd := T.says.def_ 36 rfl
theorem fd_law_cell : ∃ fd, FunD K dd_law_cell.name dd_law_cell.qual dd_law_cell.params dd_law_cell.body dd_law_cell.scope (dd_law_cell.dvs K) (dd_law_cell.kws K) (He.fAd K dd_law_cell.at_) fd := T.says.def_ 37 rfl
theorem fd_law_value : ∃ fd, FunD K dd_law_value.name dd_law_value.qual dd_law_value.params dd_law_value.body dd_law_value.scope (dd_law_value.dvs K) (dd_law_value.kws K) (He.fAd K dd_law_value.at_) fd := T.says.def_ 38 rfl
theorem fd_law_ring : ∃ fd, FunD K dd_law_ring.name dd_law_ring.qual dd_law_ring.params dd_law_ring.body dd_law_ring.scope (dd_law_ring.dvs K) (dd_law_ring.kws K) (He.fAd K dd_law_ring.at_) fd := T.says.def_ 39 rfl
theorem fd_law_row : ∃ fd, FunD K dd_law_row.name dd_law_row.qual dd_law_row.params dd_law_row.body dd_law_row.scope (dd_law_row.dvs K) (dd_law_row.kws K) (He.fAd K dd_law_row.at_) fd := T.says.def_ 40 rfl
theorem fd_law_base : ∃ fd, FunD K dd_law_base.name dd_law_base.qual dd_law_base.params dd_law_base.body dd_law_base.scope (dd_law_base.dvs K) (dd_law_base.kws K) (He.fAd K dd_law_base.at_) fd := T.says.def_ 41 rfl
theorem fd_law_at : ∃ fd, FunD K dd_law_at.name dd_law_at.qual dd_law_at.params dd_law_at.body dd_law_at.scope (dd_law_at.dvs K) (dd_law_at.kws K) (He.fAd K dd_law_at.at_) fd := T.says.def_ 42 rfl
theorem fd_law_wider : ∃ fd, FunD K dd_law_wider.name dd_law_wider.qual dd_law_wider.params dd_law_wider.body dd_law_wider.scope (dd_law_wider.dvs K) (dd_law_wider.kws K) (He.fAd K dd_law_wider.at_) fd := T.says.def_ 43 rfl
theorem fd_law_near : ∃ fd, FunD K dd_law_near.name dd_law_near.qual dd_law_near.params dd_law_near.body dd_law_near.scope (dd_law_near.dvs K) (dd_law_near.kws K) (He.fAd K dd_law_near.at_) fd := T.says.def_ 44 rfl
theorem fd_law_like : ∃ fd, FunD K dd_law_like.name dd_law_like.qual dd_law_like.params dd_law_like.body dd_law_like.scope (dd_law_like.dvs K) (dd_law_like.kws K) (He.fAd K dd_law_like.at_) fd := T.says.def_ 45 rfl
theorem fd_law_made : ∃ fd, FunD K dd_law_made.name dd_law_made.qual dd_law_made.params dd_law_made.body dd_law_made.scope (dd_law_made.dvs K) (dd_law_made.kws K) (He.fAd K dd_law_made.at_) fd := T.says.def_ 46 rfl
theorem fd_law_rule : ∃ fd, FunD K dd_law_rule.name dd_law_rule.qual dd_law_rule.params dd_law_rule.body dd_law_rule.scope (dd_law_rule.dvs K) (dd_law_rule.kws K) (He.fAd K dd_law_rule.at_) fd := T.says.def_ 47 rfl
theorem fd_law_least : ∃ fd, FunD K dd_law_least.name dd_law_least.qual dd_law_least.params dd_law_least.body dd_law_least.scope (dd_law_least.dvs K) (dd_law_least.kws K) (He.fAd K dd_law_least.at_) fd := T.says.def_ 48 rfl
theorem fd_law_tell : ∃ fd, FunD K dd_law_tell.name dd_law_tell.qual dd_law_tell.params dd_law_tell.body dd_law_tell.scope (dd_law_tell.dvs K) (dd_law_tell.kws K) (He.fAd K dd_law_tell.at_) fd := T.says.def_ 49 rfl
theorem fd_law_plain : ∃ fd, FunD K dd_law_plain.name dd_law_plain.qual dd_law_plain.params dd_law_plain.body dd_law_plain.scope (dd_law_plain.dvs K) (dd_law_plain.kws K) (He.fAd K dd_law_plain.at_) fd := T.says.def_ 50 rfl
theorem fd_law_once : ∃ fd, FunD K dd_law_once.name dd_law_once.qual dd_law_once.params dd_law_once.body dd_law_once.scope (dd_law_once.dvs K) (dd_law_once.kws K) (He.fAd K dd_law_once.at_) fd := T.says.def_ 51 rfl
theorem fd_law_measure : ∃ fd, FunD K dd_law_measure.name dd_law_measure.qual dd_law_measure.params dd_law_measure.body dd_law_measure.scope (dd_law_measure.dvs K) (dd_law_measure.kws K) (He.fAd K dd_law_measure.at_) fd := T.says.def_ 52 rfl
theorem fd_law_woven : ∃ fd, FunD K dd_law_woven.name dd_law_woven.qual dd_law_woven.params dd_law_woven.body dd_law_woven.scope (dd_law_woven.dvs K) (dd_law_woven.kws K) (He.fAd K dd_law_woven.at_) fd := T.says.def_ 53 rfl
theorem fd_law_is : ∃ fd, FunD K dd_law_is.name dd_law_is.qual dd_law_is.params dd_law_is.body dd_law_is.scope (dd_law_is.dvs K) (dd_law_is.kws K) (He.fAd K dd_law_is.at_) fd := T.says.def_ 54 rfl
theorem fd_law_kind : ∃ fd, FunD K dd_law_kind.name dd_law_kind.qual dd_law_kind.params dd_law_kind.body dd_law_kind.scope (dd_law_kind.dvs K) (dd_law_kind.kws K) (He.fAd K dd_law_kind.at_) fd := T.says.def_ 55 rfl
theorem fd_law_far : ∃ fd, FunD K dd_law_far.name dd_law_far.qual dd_law_far.params dd_law_far.body dd_law_far.scope (dd_law_far.dvs K) (dd_law_far.kws K) (He.fAd K dd_law_far.at_) fd := T.says.def_ 56 rfl
theorem fd_law_sized : ∃ fd, FunD K dd_law_sized.name dd_law_sized.qual dd_law_sized.params dd_law_sized.body dd_law_sized.scope (dd_law_sized.dvs K) (dd_law_sized.kws K) (He.fAd K dd_law_sized.at_) fd := T.says.def_ 57 rfl
theorem fd_law_tried : ∃ fd, FunD K dd_law_tried.name dd_law_tried.qual dd_law_tried.params dd_law_tried.body dd_law_tried.scope (dd_law_tried.dvs K) (dd_law_tried.kws K) (He.fAd K dd_law_tried.at_) fd := T.says.def_ 58 rfl
theorem fd_law_is_patch : ∃ fd, FunD K dd_law_is_patch.name dd_law_is_patch.qual dd_law_is_patch.params dd_law_is_patch.body dd_law_is_patch.scope (dd_law_is_patch.dvs K) (dd_law_is_patch.kws K) (He.fAd K dd_law_is_patch.at_) fd := T.says.def_ 59 rfl
theorem fd_law_patches : ∃ fd, FunD K dd_law_patches.name dd_law_patches.qual dd_law_patches.params dd_law_patches.body dd_law_patches.scope (dd_law_patches.dvs K) (dd_law_patches.kws K) (He.fAd K dd_law_patches.at_) fd := T.says.def_ 60 rfl
theorem fd_law_whens : ∃ fd, FunD K dd_law_whens.name dd_law_whens.qual dd_law_whens.params dd_law_whens.body dd_law_whens.scope (dd_law_whens.dvs K) (dd_law_whens.kws K) (He.fAd K dd_law_whens.at_) fd := T.says.def_ 61 rfl
theorem fd_law_great : ∃ fd, FunD K dd_law_great.name dd_law_great.qual dd_law_great.params dd_law_great.body dd_law_great.scope (dd_law_great.dvs K) (dd_law_great.kws K) (He.fAd K dd_law_great.at_) fd := T.says.def_ 62 rfl
theorem fd_law_put_anew : ∃ fd, FunD K dd_law_put_anew.name dd_law_put_anew.qual dd_law_put_anew.params dd_law_put_anew.body dd_law_put_anew.scope (dd_law_put_anew.dvs K) (dd_law_put_anew.kws K) (He.fAd K dd_law_put_anew.at_) fd := T.says.def_ 63 rfl
theorem fd_law : ∃ fd, FunD K dd_law.name dd_law.qual dd_law.params dd_law.body dd_law.scope (dd_law.dvs K) (dd_law.kws K) (He.fAd K dd_law.at_) fd := T.says.def_ 64 rfl
theorem most_eq : mg "MOST_VALUES" = some (.int 4000 (Classical.choose T.most)) := Classical.choose_spec T.most
theorem rc : RC (tx K) := ⟨cl_Row T, na_left T, na_middle T, na_first T, na_right T⟩
theorem ba3 {a b : Bool} (h : (a && b) = true) : a = true ∧ b = true := Bool.and_eq_true_iff.mp h
omit T in
theorem excC_of {x : Str} (h : excB K x = true) (h2 : clsB K = true) : ExcC K (He.ga K x) := by
  obtain ⟨a1, h⟩ := He.ba h
  obtain ⟨a2, h⟩ := He.ba h
  obtain ⟨a3, h⟩ := He.ba h
  obtain ⟨a4, h⟩ := He.ba h
  obtain ⟨a5, a6⟩ := He.ba h
  obtain ⟨b1, b2⟩ := He.ba h2
  exact ⟨He.eqO_ok a1, He.eqO_ok a2, of_decide_eq_true a3, a4, He.eqO_ok a5, He.eqO_ok b1, of_decide_eq_true b2, of_decide_eq_true a6⟩
theorem exAll : excB K "TooMany" = true ∧ excB K "NoVersion" = true ∧ excB K "NoPlace" = true ∧ clsB K = true ∧ kitB2 K "TooMany" = true ∧ kitB2 K "NoVersion" = true ∧ kitB2 K "NoPlace" = true ∧ mk0B K "Unlike" = true ∧ rowB K = true ∧ (kits.all fun q => kitB1 K q.1 q.2.1 q.2.2) = true := by
  obtain ⟨h1, h⟩ := He.ba T.ex
  obtain ⟨h2, h⟩ := He.ba h
  obtain ⟨h3, h⟩ := He.ba h
  obtain ⟨h4, h⟩ := He.ba h
  obtain ⟨h5, h⟩ := He.ba h
  obtain ⟨h6, h⟩ := He.ba h
  obtain ⟨h7, h⟩ := He.ba h
  obtain ⟨h8, h⟩ := He.ba h
  obtain ⟨h9, h⟩ := He.ba h
  exact ⟨h1, h2, h3, h4, h5, h6, h7, h8, h9, h⟩
theorem xc_TooMany : ExcC K (He.ga K "TooMany") := excC_of (exAll T).1 (exAll T).2.2.2.1
theorem xc_NoVersion : ExcC K (He.ga K "NoVersion") := excC_of (exAll T).2.1 (exAll T).2.2.2.1
theorem xc_NoPlace : ExcC K (He.ga K "NoPlace") := excC_of (exAll T).2.2.1 (exAll T).2.2.2.1
theorem kv_TooMany : PySem.W.kitOne K (.ref (He.ga K "TooMany")) (.type "ValueError") = some true := of_decide_eq_true (exAll T).2.2.2.2.1
theorem kv_NoVersion : PySem.W.kitOne K (.ref (He.ga K "NoVersion")) (.type "ValueError") = some true := of_decide_eq_true (exAll T).2.2.2.2.2.1
theorem kv_NoPlace : PySem.W.kitOne K (.ref (He.ga K "NoPlace")) (.type "ValueError") = some true := of_decide_eq_true (exAll T).2.2.2.2.2.2.1
theorem kitq {x y : Str} {b : Bool} (h : (x, y, b) ∈ kits) : PySem.W.kitOne K (.ref (He.ga K x)) (.ref (He.ga K y)) = some b :=
  of_decide_eq_true (List.all_eq_true.mp (exAll T).2.2.2.2.2.2.2.2.2 (x, y, b) h)
theorem mk_Unlike : Mk0 K (He.ga K "Unlike") := by
  obtain ⟨h1, h⟩ := He.ba (exAll T).2.2.2.2.2.2.2.1
  obtain ⟨h2, h3⟩ := He.ba h
  exact ⟨h1, He.eqO_ok h2, h3⟩
theorem ty_row {H : Hp} {a dx : Addr} {fs : List (Str × V)} (e : H a = some (.ins (rowA K) dx fs)) : TyOf K H (.ref a) (.ref (rowA K)) := by
  obtain ⟨h1, h2⟩ := He.ba (exAll T).2.2.2.2.2.2.2.2.1
  obtain ⟨b1, b2⟩ := He.ba (exAll T).2.2.2.1
  exact .ins e (cl_Row T) (He.eqO_ok h1) (He.eqO_ok b1) (of_decide_eq_true b2) (of_decide_eq_true h2)
end
/-! ### callees by name -/
section
variable {P : Program} {w : World} {K : PySem.W.Frag} {mg : Str → Option Value} {base : Heap}
/-- the module's def x keeps the promise sp at level k -/
structure Cal (P : Program) (w : World) (K : PySem.W.Frag) (mg : Str → Option Value) (base : Heap) (CX : CXT) (k : Nat) (x : Str) (sp : Sp) : Prop where
  ex : ∃ fd ps, FnOk P w K mg base CX k (He.ga K x) fd ps sp ∧ mg x = some (.ref (He.ga K x)) ∧ PySem.W.keepIn K (.ref (He.ga K x)) = true ∧ Binds K fd ps []
/-- the method m of C -/
structure CalM (P : Program) (w : World) (K : PySem.W.Frag) (mg : Str → Option Value) (base : Heap) (CX : CXT) (k : Nat) (C : Addr) (m : Str) (sp : Sp) : Prop where
  ex : ∃ f fd ps, FnOk P w K mg base CX k f fd ps sp ∧ Meth K C m f ∧ Binds K fd ps []
/-- the class x, by its __init__ -/
structure CalK (P : Program) (w : World) (K : PySem.W.Frag) (mg : Str → Option Value) (base : Heap) (CX : CXT) (k : Nat) (x : Str) (sp : Sp) : Prop where
  ex : ∃ f fd ps, FnOk P w K mg base CX k f fd ps sp ∧ Mk K (He.ga K x) f ∧ mg x = some (.ref (He.ga K x)) ∧ Binds K fd ps []
variable {X : Cx} {CX : CXT} {k j : Nat} {sp : Sp} {E : XK} {x m : Str} {p pos apos : Pos} {e o : Expr} {es : List Expr} {ta : TE} {t : TA} {C : Addr}
theorem pe_cal (c : Cal X.prog X.w X.K X.mg X.base CX k x sp) (hr : Room k X.A) (hg : Gl X x) (hx : Passes CX X E)
    (ha : PA X (e :: es) t) (hdb : (x == ("__debug__" : Str)) = false := by decide) (he : starEach (e :: es) X.env = (false, eval e X.env) :: starEach es X.env := by rfl) (hpl : (backTo pos (starEach es X.env)).any (·.1) = false := by rfl) :
    PE X (.Call (.Name x p) (e :: es) [] pos) (tCall sp [] E t) := by
  obtain ⟨fd, ps, F, h1, h2, h3⟩ := c.ex
  exact pe_call F hr hg h1 h2 h3 .nil hx ha hdb he hpl
theorem pe_calM {pl : Sem Bool} (he : PE X o ta) (cl : Cls X.K C) (c : CalM X.prog X.w X.K X.mg X.base CX k C m sp) (hr : Room k X.A) (hx : Passes CX X E) (ha : PA X (e :: es) t)
    (hst : starEach (e :: es) X.env = (false, eval e X.env) :: starEach es X.env := by rfl) (hpl : (backTo pos (starEach es X.env)).any (·.1) = false := by rfl)
    (ht : eval (.Call (.Attribute o m apos) (e :: es) [] pos) X.env = (do
      let ov ← eval o X.env
      standAt apos.atName
      let (f, first) ← holding [ov] (getMethod ov m pl)
      callWith pos f first (backTo pos (starEach (e :: es) X.env)) (backToKw pos (keywordEach [] X.env))) := by rfl) :
    PE X (.Call (.Attribute o m apos) (e :: es) [] pos) (tMeth C m sp [] E ta t) := by
  obtain ⟨f, fd, ps, F, h1, h3⟩ := c.ex
  exact pe_meth he cl h1 F hr h3 .nil hx ha hst hpl ht
theorem pe_calM0 {pl : Sem Bool} (he : PE X o ta) (cl : Cls X.K C) (c : CalM X.prog X.w X.K X.mg X.base CX k C m sp) (hr : Room k X.A) (hx : Passes CX X E)
    (ht : eval (.Call (.Attribute o m apos) [] [] pos) X.env = (do
      let ov ← eval o X.env
      standAt apos.atName
      let (f, first) ← holding [ov] (getMethod ov m pl)
      callWith pos f first (backTo pos (starEach [] X.env)) (backToKw pos (keywordEach [] X.env))) := by rfl) :
    PE X (.Call (.Attribute o m apos) [] [] pos) (tMeth C m sp [] E ta tNil) := by
  obtain ⟨f, fd, ps, F, h1, h3⟩ := c.ex
  exact pe_meth0 he cl h1 F hr h3 .nil hx ht
theorem pe_calK (c : CalK X.prog X.w X.K X.mg X.base CX k x sp) (hr : Room (k + 1) X.A) (hg : Gl X x) (hx : Passes CX X E)
    (ha : PA X (e :: es) t) (hdb : (x == ("__debug__" : Str)) = false := by decide) (he : starEach (e :: es) X.env = (false, eval e X.env) :: starEach es X.env := by rfl) (hpl : (backTo pos (starEach es X.env)).any (·.1) = false := by rfl) :
    PE X (.Call (.Name x p) (e :: es) [] pos) (tMake (He.ga X.K x) sp [] E t) := by
  obtain ⟨f, fd, ps, F, h1, h2, h3⟩ := c.ex
  exact pe_make h1 F hr hg h2 h3 .nil hx ha hdb he hpl
theorem hu2 {A : Around} {k : Nat} (hr : Room k A) : A.units + 2 < cLine := Nat.lt_of_le_of_lt (Nat.add_le_add_left (by decide : 2 ≤ 64) _) hr.units
variable {qual : Str} {params : Arguments} {body : List Stmt} {scope : Scope} {f : Addr} {fd : FuncData} {N ps : List Str}
/-- a def that lets nothing out, by its body -/
theorem fn0 {nm : Str} (F : FunD K nm qual params body scope [] [] f fd) (S : FnScope N ps scope) (len : ∀ vs H Q E, sp vs H Q E → vs.length = ps.length)
    (hbody : ∀ (cdv : Value) (A : Around) (outer : List PySem.Env) (s : Shared) (H : Hp) (vs : List V) (Q : VK) (E : XK), Room k (A.deeper (envOfC qual scope s.heap.objs.size f cdv)) → sp vs H Q E →
      ∃ t, PSs (cxOf CX0 P w K mg base N qual scope f cdv A outer s H E).nox body t ∧ t { nx := fun _ H' => Q .non H', rt := Q } (L2.start N vs) H) : FnOk P w K mg base CX0 (k + 1) f fd ps sp := by
  refine F.ok S len fun cdv A outer s H vs Q E hr hsp => ?_
  obtain ⟨t, h, q⟩ := hbody cdv A outer s H vs Q E hr hsp
  exact ⟨t, h.nox, q⟩
end
end Fx

/-! FwX: defs that may raise, over descriptions. -/
namespace Fx
open PySem PySem.Spec PyProof.Rows L2 Fw
section
variable {P : Program} {w : World} {K : PySem.W.Frag} {mg : Str → Option Value} {base : Heap}
theorem fnX {qual : Str} {params : Arguments} {body : List Stmt} {scope : Scope} {f : Addr} {fd : FuncData} {N ps : List Str} {dvs : List V} {kws : List (Str × V)} {k : Nat} {sp : Sp} {nm : Str} (F : FunD K nm qual params body scope dvs kws f fd) (S : FnScope N ps scope) (len : ∀ vs H Q E, sp vs H Q E → vs.length = ps.length)
    (hbody : ∀ (cdv : Value) (A : Around) (outer : List PySem.Env) (s : Shared) (H : Hp) (vs : List V) (Q : VK) (E : XK), Room k (A.deeper (envOfC qual scope s.heap.objs.size f cdv)) → sp vs H Q E →
      ∃ t, PSs (cxOf (L2.CX P w) P w K mg base N qual scope f cdv A outer s H E) body t ∧ t { nx := fun _ H' => Q .non H', rt := Q } (L2.start N vs) H) : FnOk P w K mg base (L2.CX P w) (k + 1) f fd ps sp := F.ok S len hbody
theorem pe_fldK {X : Cx} {e : Expr} {f : Str} {pos : Pos} {ta : TE} (hK : X.K = K) (he : PE X e ta) (hb : attributeBase e f X.env (eval e X.env) = eval e X.env) : PE X (.Attribute e f pos) (tFld K ta f) := by
  rw [← hK]
  exact pe_fld he hb
abbrev XNo : XK := fun _ _ _ => False
theorem passF {X : Cx} : Passes (L2.CX P w) X XNo := fun _ _ _ _ _ _ _ h => by
  obtain ⟨a, B, H', cls, d, _, _, _, _, _, _, _, hE⟩ := h
  exact hE.elim
end
variable {T : Tx} {S : Sl} {C : Addr} {E : XK}
def EvX (T : Tx) (te : TE) (S : Sl) (E : XK) (C : Addr) : Prop := ∀ σ H, Env T H σ S → (∀ H', Same H H' → E (.ref C) none H') → ∀ Q, te σ H Q
def ElX (T : Tx) (ta : TA) (S : Sl) (E : XK) (C : Addr) : Prop := ∀ σ H, Env T H σ S → (∀ H', Same H H' → E (.ref C) none H') → ∀ Q, ta σ H Q
def RunX (T : Tx) (ts : TS) (S : Sl) (E : XK) (C : Addr) : Prop := ∀ σ H, Env T H σ S → (∀ H', Same H H' → E (.ref C) none H') → ∀ D, ts D σ H
def SX (T : Tx) (sp : Sp) (ds : List De) (E : XK) (C : Addr) : Prop := ∀ H vs, IsA T H ds vs → (∀ H', Same H H' → E (.ref C) none H') → ∀ Q, sp vs H Q E
section
variable {te ta : TE} {t tr : TA} {ts tu : TS} {tt : TT} {ds : List De} {d : De} {sp : Sp}
theorem evx_call (h : EvL T t S ds) (k : SX T sp ds E C) : EvX T (tCall sp [] E t) S E C := fun σ H e x Q => h σ H e _ fun vs H1 e1 i1 => by
  rw [List.append_nil]
  exact k H1 vs i1 (fun H' s => x H' (e1.trans s)) Q
theorem evx_args {E' : XK} (h : ElX T t S E C) : EvX T (tCall sp [] E' t) S E C := fun σ H e x Q => h σ H e x _
theorem elx_here (h : EvX T te S E C) : ElX T (tCons te tr) S E C := fun σ H e x Q => h σ H e x _
theorem elx_next (h : EvD T te S d) (k : ElX T tr S E C) : ElX T (tCons te tr) S E C := fun σ H e x Q => h σ H e _ fun v H1 e1 i1 => k σ H1 (e.mono e1) (fun H' s => x H' (e1.trans s)) _
theorem evx_tup (h : ElX T t S E C) : EvX T (tTup t) S E C := fun σ H e x Q => h σ H e x _
theorem runx_1 (h : RunX T ts S E C) : RunX T (tSeq ts tu) S E C := fun σ H e x D => h σ H e x _
theorem runx_2 (h : Run T ts S (fun S' => RunX T tu S' E C) (fun _ => False)) : RunX T (tSeq ts tu) S E C := fun σ H e x D => h _ σ H e (fun S' σ' H' a b c => a σ' H' c (fun H2 s => x H2 (b.trans s)) D) fun d v H' a => a.elim
theorem runx_asg {g : TG} (h : EvX T te S E C) : RunX T (tAsg te g) S E C := fun σ H e x D => h σ H e x _
theorem runx_ret (h : EvX T te S E C) : RunX T (tRet te) S E C := fun σ H e x D => h σ H e x _
theorem runx_drop (h : EvX T te S E C) : RunX T (tDrop te) S E C := fun σ H e x D => h σ H e x _
theorem runx_if {b : Bool} (h : EvB T tt S b) (h1 : b = true → RunX T ts S E C) (h2 : b = false → RunX T tu S E C) : RunX T (tIfS tt ts tu) S E C := fun σ H e x D => h σ H e _ fun H1 e1 => by
  cases b with
  | true => exact h1 rfl σ H1 (e.mono e1) (fun H' s => x H' (e1.trans s)) D
  | false => exact h2 rfl σ H1 (e.mono e1) (fun H' s => x H' (e1.trans s)) D
theorem runx_raise : RunX T (fun _ _ H => E (.ref C) none H) S E C := fun σ H e x D => x H (Same.refl H)
/-- a promise by data that may end in an exception of the class at C -/
def spE {α : Type} (T : Tx) (C : Addr) (args : α → List De) (pre : α → Prop) (res : α → Option De) : Sp := fun vs H Q E => ∃ a, IsA T H (args a) vs ∧ pre a ∧ (∀ d, res a = some d → ∀ v H', Same H H' → Is T H' d v → Q v H') ∧ (res a = none → ∀ H', Same H H' → E (.ref C) none H')
theorem spE_len {α : Type} {args : α → List De} {pre : α → Prop} {res : α → Option De} {n : Nat} (hn : ∀ a, (args a).length = n) : ∀ vs H Q E, spE T C args pre res vs H Q E → vs.length = n := fun vs H Q E ⟨a, i, _⟩ => by rw [isA_len i, hn]
theorem sd_E {α : Type} {args : α → List De} {pre : α → Prop} {res : α → Option De} {E : XK} (a : α) (p : pre a) (h : res a = some d) : SD T (spE T C args pre res) (args a) d E := fun H vs i Q q => ⟨a, i, p, fun d' e => by rw [h] at e; cases e; exact q, fun e => by rw [h] at e; cases e⟩
theorem sx_E {α : Type} {args : α → List De} {pre : α → Prop} {res : α → Option De} {E : XK} (a : α) (p : pre a) (h : res a = none) : SX T (spE T C args pre res) (args a) E C := fun H vs i x Q => ⟨a, i, p, (fun d' e => by rw [h] at e; cases e), fun _ => x⟩
theorem by_runX {N : List Str} {vs : List V} {H : Hp} {Q : VK} {ts : TS} {ds : List De} (i : IsA T H ds vs) (hl : ds.length ≤ N.length) (h : RunX T ts (ds.map some ++ List.replicate (N.length - ds.length) none) E C) (q : ∀ H', Same H H' → E (.ref C) none H') :
    ts { nx := fun _ H' => Q .non H', rt := Q } (L2.start N vs) H := by
  have e := env_start (T := T) (N.length - ds.length) i
  unfold L2.start
  rw [isA_len i]
  exact h _ H e q _
/-- both ends -/
theorem by_runE {N : List Str} {vs : List V} {H : Hp} {Q : VK} {ts : TS} {ds : List De} {o : Option De} (i : IsA T H ds vs) (hl : ds.length ≤ N.length)
    (h1 : ∀ d, o = some d → Run T ts (ds.map some ++ List.replicate (N.length - ds.length) none) (fun _ => d = .v .non) (fun e => e = d))
    (h2 : o = none → RunX T ts (ds.map some ++ List.replicate (N.length - ds.length) none) E C)
    (q : (∀ d, o = some d → ∀ v H', Same H H' → Is T H' d v → Q v H') ∧ (o = none → ∀ H', Same H H' → E (.ref C) none H')) :
    ts { nx := fun _ H' => Q .non H', rt := Q } (L2.start N vs) H := by
  cases ho : o with
  | none => exact by_runX i hl (h2 ho) (q.2 ho)
  | some d => exact by_run i hl (h1 d ho) (q.1 d ho)
/-- both ends of a body -/
def RunE (T : Tx) (ts : TS) (S : Sl) (E : XK) (C : Addr) (o : Option De) : Prop := (∀ d, o = some d → Run T ts S (fun _ => d = .v .non) (fun e => e = d)) ∧ (o = none → RunX T ts S E C)
theorem rune_seq {o : Option De} (h : Run T ts S (fun S' => RunE T tu S' E C o) (fun _ => False)) : RunE T (tSeq ts tu) S E C o :=
  ⟨fun d hd => run_seq (run_mono h (fun S' k => k.1 d hd) (fun d z => z.elim)), fun hn => runx_2 (run_mono h (fun S' k => k.2 hn) (fun d z => z))⟩
theorem rune_run (h : Run T ts S (fun _ => d = .v .non) (fun e => e = d)) : RunE T ts S E C (some d) := ⟨fun d' e => by cases e; exact h, fun e => by cases e⟩
theorem rune_x (h : RunX T ts S E C) : RunE T ts S E C none := ⟨fun d' e => (by cases e), fun _ => h⟩
theorem by_rune {N : List Str} {vs : List V} {H : Hp} {Q : VK} {ts : TS} {ds : List De} {o : Option De} (i : IsA T H ds vs) (hl : ds.length ≤ N.length)
    (h : RunE T ts (ds.map some ++ List.replicate (N.length - ds.length) none) E C o)
    (q : (∀ d, o = some d → ∀ v H', Same H H' → Is T H' d v → Q v H') ∧ (o = none → ∀ H', Same H H' → E (.ref C) none H')) :
    ts { nx := fun _ H' => Q .non H', rt := Q } (L2.start N vs) H := by_runE i hl h.1 h.2 q
end
end Fx

/-! FwApp: a list made empty and filled by a loop. -/
namespace Fx
open PySem PySem.Spec PyProof.Rows L2 Fw
variable {T : Tx} {S : Sl} {Nx : Sl → Prop} {Rt : De → Prop}
theorem env_un {H : Hp} {σ : L2.St} {i : Nat} {v : V} (e : Env T H (σ) (S.set i none)) : Env T H (σ.set i (some v)) (S.set i none) := by
  have := Env.unset (i := i) (o := some v) e
  rwa [List.set_set] at this
theorem env_unset2 {H : Hp} {σ : L2.St} {i : Nat} {d : De} (e : Env T H σ (S.set i (some d))) : Env T H σ (S.set i none) := env_less e (by simp) fun k hk => by
  by_cases h : i = k
  · subst h
    left
    have hi : i < S.length := by simpa using hk
    rw [List.getElem?_set_self hi]
  · right
    rw [List.getElem?_set_ne h, List.getElem?_set_ne h]
/-- the list so far -/
theorem lw_app {H0 H H4 : Hp} {D : Addr} {f : Nat → List De} {n : Nat} {y : V} {d : De} (p : Lw T H0 D f n H) (e4 : Same H H4) (i4 : Is T H4 d y) (e : f (n + 1) = f n ++ [d]) (hd : De.noLs (f (n + 1)) = true) (hl : (f n).length < 100000) :
    ∃ acc, H4 D = some (.lst acc) ∧ acc.length < sizeLine ∧ Lw T H0 D f (n + 1) (upd H4 D (.lst (acc ++ [y]))) := by
  obtain ⟨p1, p2, vs, p3, p4⟩ := p
  refine ⟨vs, e4 _ _ p3, by rw [isA_len p4, sizeLine_eq]; omega, p1, fun b o q => ?_, _, upd_same, ?_⟩
  · rw [upd_ne (ne_of_none q p1)]
    exact e4 _ _ (p2 _ _ q)
  · exact isA_noL (ys := vs ++ [y]) (e4 _ _ p3) hd (by rw [e]; exact isA_snoc (p4.mono e4) i4)
theorem rng_noL {n : Nat} {h : Nat → De} {pr : Nat → Bool} {m : Nat} (hm : m ≤ n) (hn : ∀ k, k < n → (h k).noL = true) : De.noLs (((List.range m).filter pr).map h) = true := noLs_of fun d'' hm' => by
  obtain ⟨y, hy, rfl⟩ := List.mem_map.mp hm'
  have := List.mem_range.mp (List.mem_filter.mp hy).1
  exact hn y (by omega)
theorem env_agree {H H' : Hp} {σ σ' : L2.St} {i j : Nat} (e : Env T H σ S) (s : Same H H') (hl : σ'.length = σ.length) (ha : ∀ a, a ≠ i → a ≠ j → σ'[a]? = σ[a]?) : Env T H' σ' ((S.set j none).set i none) := by
  refine ⟨by simp [hl, e.1], fun a d q => ?_⟩
  have hlt : a < S.length := by have := (List.getElem?_eq_some_iff.mp q).1; simpa using this
  by_cases qa : i = a
  · subst qa
    rw [List.getElem?_set_self (by simpa using hlt)] at q
    cases q
  · rw [List.getElem?_set_ne qa] at q
    by_cases qj : j = a
    · subst qj
      rw [List.getElem?_set_self hlt] at q
      cases q
    · rw [List.getElem?_set_ne qj] at q
      obtain ⟨v, h1, h2⟩ := e.2 a d q
      exact ⟨v, by rw [ha a (fun z => qa z.symm) (fun z => qj z.symm)]; exact h1, h2.mono s⟩
/-- x = []; for i in range(lo, hi): if t: x.append(e) -/
theorem run_appIf {i j : Nat} {lo hi : Int} {ta : TA} {te : TE} {tt : TT} {rest : TS} (h : Nat → De) (pr : Nat → Bool) (hj : j < S.length) (hij : i ≠ j)
    (hs : EvL T ta (S.set j none) [di lo, di hi]) (hz : hi - lo ≤ 100000)
    (ht : ∀ k, k < (hi - lo).toNat → EvB T tt (((S.set j none).set i none).set i (some (di (lo + (k : Int))))) (pr k))
    (he : ∀ k, k < (hi - lo).toNat → pr k = true → EvD T te (((S.set j none).set i none).set i (some (di (lo + (k : Int))))) (h k)) (hn : ∀ k, k < (hi - lo).toNat → (h k).noL = true)
    (k : Run T rest (((S.set j none).set i none).set j (some (.lst (((List.range (hi - lo).toNat).filter pr).map h)))) Nx Rt) :
    Run T (tSeq (tAsg (tLst tNil) (gName j)) (tSeq (tFor (iAny2 ta) (gName i) (tIfS tt (tDrop (tBM T.K "list" rAppend (tVar j) (tCons te tNil))) tNext)) rest)) S Nx Rt := fun D σ H e n r => by
  refine ⟨by simp, fun p hp => ?_⟩
  have s0 : Same H (upd H p (.lst [])) := same_new hp
  have e0 : Env T (upd H p (.lst [])) (σ.set j (some (.ref p))) (S.set j none) := Env.unset (e.mono s0)
  have hlen : σ.length = S.length := e.1
  refine hs _ _ e0 _ fun vs H2 e2 i2 => ?_
  obtain ⟨v, r', rfl, h1, h2⟩ := isA_cons.mp i2
  obtain ⟨v', r'', rfl, h1', h2'⟩ := isA_cons.mp h2
  rw [isA_nil.mp h2', is_v.mp h1, is_v.mp h1']
  refine ⟨lo, hi, rfl, for_range (fun k σ' H' => Lw T H p (fun k => ((List.range k).filter pr).map h) k H' ∧ σ'[j]? = some (some (.ref p)) ∧ σ'.length = σ.length ∧ ∀ a, a ≠ i → a ≠ j → σ'[a]? = σ[a]?) ⟨⟨hp, s0.trans e2, [], e2 _ _ upd_same, isA_nil.mpr rfl⟩, by rw [List.getElem?_set_self (by omega)], by simp, fun a _ q => by rw [List.getElem?_set_ne (fun z => q z.symm)]⟩ (fun kk σ' H' hk P => ?_) (fun σ' H' P => ?_)⟩
  · obtain ⟨P1, P2, P3, P4⟩ := P
    have e3 := (env_agree e P1.2.1 P3 P4).set (i := i) (d := di (lo + (kk : Int))) (v := .int (lo + (kk : Int))) (is_v.mpr rfl)
    have hP2 : (σ'.set i (some (.int (lo + (kk : Int)))))[j]? = some (some (.ref p)) := by rw [List.getElem?_set_ne hij]; exact P2
    have hP3 : (σ'.set i (some (.int (lo + (kk : Int))))).length = σ.length := by simp [P3]
    have hP4 : ∀ a, a ≠ i → a ≠ j → (σ'.set i (some (.int (lo + (kk : Int)))))[a]? = σ[a]? := fun a q q' => by rw [List.getElem?_set_ne (fun z => q z.symm)]; exact P4 a q q'
    refine ht kk hk _ H' e3 _ fun H3 s3 => ?_
    have P1' : Lw T H p (fun k => ((List.range k).filter pr).map h) kk H3 := by
      obtain ⟨p1, p2, ws, p3, p4⟩ := P1
      exact ⟨p1, p2.trans s3, ws, s3 _ _ p3, p4.mono s3⟩
    cases hpr : pr kk with
    | true =>
      rw [if_pos rfl]
      refine ⟨_, hP2, .inl ⟨rfl, _, SqL.of P1'.2.2.choose_spec.1⟩, ?_⟩
      refine he kk hk hpr _ H3 (e3.mono s3) _ fun y H4 s4 i4 => ?_
      have hf : (((List.range (kk + 1)).filter pr).map h) = (((List.range kk).filter pr).map h) ++ [h kk] := by
        rw [List.range_succ, List.filter_append, List.map_append]; simp [List.filter_cons, hpr]
      obtain ⟨acc, a1, a2, a3⟩ := lw_app (f := fun k => ((List.range k).filter pr).map h) P1' s4 i4 hf (rng_noL (by omega) hn) (by
        have := List.length_filter_le pr (List.range kk); rw [List.length_range] at this; rw [List.length_map]; omega)
      exact ⟨p, acc, y, rfl, rfl, a1, a2, a3, hP2, hP3, hP4⟩
    | false =>
      rw [if_neg Bool.false_ne_true]
      have hf : (((List.range (kk + 1)).filter pr).map h) = (((List.range kk).filter pr).map h) := by
        rw [List.range_succ, List.filter_append, List.map_append]; simp [List.filter_cons, hpr]
      obtain ⟨p1, p2, ws, p3, p4⟩ := P1'
      exact ⟨⟨p1, p2, ws, p3, by show IsA T H3 (((List.range (kk + 1)).filter pr).map h) ws; rw [hf]; exact p4⟩, hP2, hP3, hP4⟩
  · obtain ⟨⟨p1, p2, ws, p3, p4⟩, P2, P3, P4⟩ := P
    have e5 := (env_agree e p2 P3 P4)
    have e6 := e5.set (i := j) (d := .lst (((List.range (hi - lo).toNat).filter pr).map h)) (v := .ref p) (is_lst.mpr ⟨p, ws, rfl, p3, p4⟩)
    have hsig : σ'.set j (some (.ref p)) = σ' := by
      apply List.ext_getElem?
      intro a
      by_cases q : j = a
      · subst q
        rw [List.getElem?_set_self (by rw [P3, hlen]; exact hj), P2]
      · rw [List.getElem?_set_ne q]
    rw [hsig] at e6
    exact k D σ' H' e6 (fun S' σ2 H2 a b c => n S' σ2 H2 a (p2.trans b) c) (fun d v H2 a b c => r d v H2 a (p2.trans b) c)
/-- x = []; for i in range(lo, hi): x.append(e) -/
theorem run_app {i j : Nat} {lo hi : Int} {ta : TA} {te : TE} {rest : TS} (h : Nat → De) (hj : j < S.length) (hij : i ≠ j)
    (hs : EvL T ta (S.set j none) [di lo, di hi]) (hz : hi - lo ≤ 100000)
    (he : ∀ k, k < (hi - lo).toNat → EvD T te (((S.set j none).set i none).set i (some (di (lo + (k : Int))))) (h k)) (hn : ∀ k, k < (hi - lo).toNat → (h k).noL = true)
    (k : Run T rest (((S.set j none).set i none).set j (some (.lst ((List.range (hi - lo).toNat).map h)))) Nx Rt) :
    Run T (tSeq (tAsg (tLst tNil) (gName j)) (tSeq (tFor (iAny2 ta) (gName i) (tDrop (tBM T.K "list" rAppend (tVar j) (tCons te tNil)))) rest)) S Nx Rt := by
  have z := run_appIf (T := T) (S := S) (i := i) (j := j) (tt := fun σ H Q => Q true H) h (fun _ => true) hj hij hs hz (fun k hk σ H e Q q => q H (Same.refl H)) (fun k hk _ => he k hk) hn (by rw [List.filter_eq_self.mpr (fun _ _ => rfl)]; exact k)
  exact z
/-! ### or of lists -/
theorem evd_orL {K : PySem.W.Frag} {R L : Addr} {ta tb : TE} {ds es : List De} (h : EvD ⟨K, R, L⟩ ta S (.lst ds)) (h2 : ds = [] → EvD ⟨K, R, L⟩ tb S (.lst es)) : EvD ⟨K, R, L⟩ (tOrT K ta tb) S (.lst (if ds = [] then es else ds)) := fun σ H e Q q =>
  h σ H e _ fun v H1 e1 i1 => by
    obtain ⟨p, vs, rfl, h3, h4⟩ := is_lst.mp i1
    refine ⟨!vs.isEmpty, .inl ⟨vs, SqL.of h3, rfl⟩, ?_⟩
    have hl := isA_len h4
    cases ds with
    | nil =>
      have : vs = [] := List.eq_nil_of_length_eq_zero hl
      subst this
      rw [if_neg (by simp)]
      rw [if_pos rfl] at q
      exact h2 rfl σ H1 (e.mono e1) Q fun v H2 s i => q v H2 (e1.trans s) i
    | cons d ds =>
      cases vs with
      | nil => simp at hl
      | cons v vs =>
        rw [if_pos (by simp)]
        rw [if_neg (by simp)] at q
        exact q _ H1 e1 i1
end Fx

/-! FwL0: logs: what a change of a log leaves as it is; blocks that change one. -/
namespace Fx
open PySem PySem.Spec PyProof.Rows L2 Fw
variable {T : Tx} {S : Sl}
def Sx (x : Addr) (H H' : Hp) : Prop := ∀ b o, b ≠ x → H b = some o → H' b = some o
theorem Sx.trans {x : Addr} {A B D : Hp} (h : Sx x A B) (k : Sx x B D) : Sx x A D := fun b o n e => k b o n (h b o n e)
theorem sx_of {x : Addr} {A B : Hp} (h : Same A B) : Sx x A B := fun b o _ e => h b o e
mutual
/-- no log in it -/
def De.nl : De → Bool
  | .v _ => true
  | .tup ds => De.nls ds
  | .lst ds => De.nls ds
  | .row _ => true
  | .scr _ => true
  | .exc _ => true
  | .obj _ => true
  | .log _ _ _ => false
def De.nls : List De → Bool
  | [] => true
  | d :: ds => De.nl d && De.nls ds
end
theorem nls_of {ds : List De} (h : ∀ d ∈ ds, d.nl = true) : De.nls ds = true := by
  induction ds with
  | nil => rfl
  | cons d ds ih =>
    show (De.nl d && De.nls ds) = true
    rw [h d List.mem_cons_self, ih fun e he => h e (List.mem_cons_of_mem _ he)]
    rfl
section
variable {H H' : Hp} {p dx a : Addr} {n : Int}
theorem row_sx (hp : H p = some (.ins T.L dx (logF a n))) (s : Sx p H H') {F : Fm} {v : V} (h : RowAt T H F v) : RowAt T H' F v := by
  obtain ⟨q, dx', a', b', c', h0, h1, h2, h3, h4⟩ := h
  have np : ∀ b o, H b = some o → o ≠ .ins T.L dx (logF a n) → H' b = some o := fun b o e ne => s b o (fun z => by rw [z, hp] at e; exact ne (Option.some.inj e).symm) e
  refine ⟨q, dx', a', b', c', h0, np _ _ h1 (fun z => ?_), np _ _ h2 (fun z => by cases z), np _ _ h3 (fun z => by cases z), np _ _ h4 (fun z => by cases z)⟩
  injection z with _ _ z3
  have := congrArg List.length z3
  simp [rowF, logF] at this
theorem rows_sx (hp : H p = some (.ins T.L dx (logF a n))) (s : Sx p H H') : ∀ {Fs : List Fm} {vs : List V}, RowsAt T H Fs vs → RowsAt T H' Fs vs
  | [], vs, h => h
  | F :: Fs, vs, h => by
    obtain ⟨v, r, h1, h2, h3⟩ := h
    exact ⟨v, r, h1, row_sx hp s h2, rows_sx hp s h3⟩
mutual
theorem is_sx (hp : H p = some (.ins T.L dx (logF a n))) (s : Sx p H H') : ∀ {d : De} {v : V}, d.nl = true → Is T H d v → Is T H' d v
  | .v _, v, _, h => is_v.mpr (is_v.mp h)
  | .tup ds, v, k, h => by
    obtain ⟨q, vs, h1, h2, h3⟩ := is_tup.mp h
    exact is_tup.mpr ⟨q, vs, h1, s _ _ (fun z => by rw [z, hp] at h2; cases h2) h2, isA_sx hp s (by unfold De.nl at k; exact k) h3⟩
  | .lst ds, v, k, h => by
    obtain ⟨q, vs, h1, h2, h3⟩ := is_lst.mp h
    exact is_lst.mpr ⟨q, vs, h1, s _ _ (fun z => by rw [z, hp] at h2; cases h2) h2, isA_sx hp s (by unfold De.nl at k; exact k) h3⟩
  | .row F, v, _, h => is_row.mpr (row_sx hp s (is_row.mp h))
  | .scr ns, v, _, h => by
    obtain ⟨b, h1, h2⟩ := is_scr.mp h
    refine is_scr.mpr ⟨b, h1, ?_⟩
    rcases h2 with (h2 | ⟨o, h2⟩) | h2
    · exact .inl (.inl (s _ _ (fun z => by rw [z, hp] at h2; cases h2) h2))
    · exact .inl (.inr ⟨o, s _ _ (fun z => by rw [z, hp] at h2; cases h2) h2⟩)
    · exact .inr h2
  | .exc C, v, _, h => by
    obtain ⟨b, h1, h2⟩ := is_exc.mp h
    exact is_exc.mpr ⟨b, h1, s _ _ (fun z => by rw [z, hp] at h2; cases h2) h2⟩
  | .obj C, v, _, h => by
    obtain ⟨b, dx', h1, h2⟩ := is_obj.mp h
    refine is_obj.mpr ⟨b, dx', h1, s _ _ (fun z => ?_) h2⟩
    rw [z, hp] at h2
    injection h2 with h2
    injection h2 with _ _ z3
    have := congrArg List.length z3
    simp [logF] at this
  | .log _ _ _, v, k, h => by unfold De.nl at k; cases k
theorem isA_sx (hp : H p = some (.ins T.L dx (logF a n))) (s : Sx p H H') : ∀ {ds : List De} {vs : List V}, De.nls ds = true → IsA T H ds vs → IsA T H' ds vs
  | [], vs, _, h => isA_nil.mpr (isA_nil.mp h)
  | d :: ds, vs, k, h => by
    obtain ⟨v, r, h1, h2, h3⟩ := isA_cons.mp h
    have k' : (De.nl d && De.nls ds) = true := by unfold De.nls at k; exact k
    rw [Bool.and_eq_true] at k'
    exact isA_cons.mpr ⟨v, r, h1, is_sx hp s k'.1 h2, isA_sx hp s k'.2 h3⟩
end
end
/-- slots without a log, but for the i-th -/
def NlX (S : Sl) (i : Nat) : Prop := ∀ j d, j ≠ i → S[j]? = some (some d) → d.nl = true
def nlo : Option De → Bool
  | none => true
  | some d => d.nl
theorem nlX_of {S : Sl} {i : Nat} (h : (S.set i none).all nlo = true) : NlX S i := fun j d hj e => by
  have := List.all_eq_true.mp h (some d) (List.mem_of_getElem? (i := j) (by rw [List.getElem?_set_ne (fun z => hj z.symm)]; exact e))
  exact this
theorem env_sx {H H' : Hp} {σ : L2.St} {p : Addr} {Vs Vs' : List Fm} {n n' : Nat} {i : Nat} (e : Env T H σ S) (hi : S[i]? = some (some (.log p Vs n))) (nl : NlX S i) (s : Sx p H H') (l : LogAt T H' p Vs' n') : Env T H' σ (S.set i (some (.log p Vs' n'))) := by
  obtain ⟨v0, h0, h0'⟩ := e.2 i _ hi
  obtain ⟨e0, dx, a, vs, hp, _⟩ := is_log.mp h0'
  refine ⟨by simp [e.1], fun j d q => ?_⟩
  by_cases hj : j = i
  · subst hj
    rw [List.getElem?_set_self (List.getElem?_eq_some_iff.mp hi).1] at q
    cases q
    exact ⟨v0, h0, is_log.mpr ⟨e0, l⟩⟩
  · rw [List.getElem?_set_ne (fun z => hj z.symm)] at q
    obtain ⟨v, h1, h2⟩ := e.2 j d q
    exact ⟨v, h1, is_sx hp s (nl j d hj q) h2⟩
/-- a block that may change the log at p -/
def RunM (T : Tx) (p : Addr) (ts : TS) (S : Sl) (Nx : Sl → Prop) (Rt : De → Sl → Prop) : Prop := ∀ (D : Ends) σ H, Env T H σ S → (∀ S' σ' H', Nx S' → Sx p H H' → Env T H' σ' S' → D.nx σ' H') → (∀ d v S' σ' H', Rt d S' → Sx p H H' → Env T H' σ' S' → Is T H' d v → D.rt v H') → ts D σ H
/-- a value, the log at p changed -/
def EvM (T : Tx) (p : Addr) (te : TE) (S : Sl) (d : De) (Vs' : List Fm) (n' : Nat) : Prop := ∀ σ H, Env T H σ S → ∀ Q : VK, (∀ v H', Sx p H H' → LogAt T H' p Vs' n' → Is T H' d v → Q v H') → te σ H Q
section
variable {p : Addr} {ts tu : TS} {te ta : TE} {tt : TT} {d : De} {ds : List De} {Nx : Sl → Prop} {Rt : De → Sl → Prop} {Rd : De → Prop} {Vs Vs' : List Fm} {n n' : Nat} {i j : Nat}
theorem Run.m (h : Run T ts S Nx Rd) : RunM T p ts S Nx (fun d S' => Rd d ∧ S' = S) := fun D σ H e n r => h D σ H e (fun S' σ' H' a b c => n S' σ' H' a (sx_of b) c) fun d v H' a b c => r d v S σ H' ⟨a, rfl⟩ (sx_of b) (e.mono b) c
theorem runm_seq (h : RunM T p ts S (fun S' => RunM T p tu S' Nx Rt) Rt) : RunM T p (tSeq ts tu) S Nx Rt := fun D σ H e n r =>
  h _ σ H e (fun S' σ' H' k s e' => k D σ' H' e' (fun S2 σ2 H2 a b c => n S2 σ2 H2 a (s.trans b) c) fun d v S2 σ2 H2 a b c f => r d v S2 σ2 H2 a (s.trans b) c f) r
theorem runm_mono {Nx' : Sl → Prop} {Rt' : De → Sl → Prop} (h : RunM T p ts S Nx Rt) (h1 : ∀ S, Nx S → Nx' S) (h2 : ∀ d S, Rt d S → Rt' d S) : RunM T p ts S Nx' Rt' := fun D σ H e n r =>
  h D σ H e (fun S' σ' H' a b c => n S' σ' H' (h1 _ a) b c) fun d v S' σ' H' a b c f => r d v S' σ' H' (h2 _ _ a) b c f
theorem runm_next (h : Nx S) : RunM T p tNext S Nx Rt := fun D σ H e n r => n S σ H h (fun _ _ _ z => z) e
theorem runm_asg (h : EvD T te S d) (k : Nx (S.set i (some d))) : RunM T p (tAsg te (gName i)) S Nx Rt := fun D σ H e n r =>
  h σ H e _ fun v H1 e1 i1 => n _ _ H1 k (sx_of e1) ((e.mono e1).set i1)
theorem runm_ret (h : EvD T te S d) (k : Rt d S) : RunM T p (tRet te) S Nx Rt := fun D σ H e n r => h σ H e _ fun v H1 e1 i1 => r d v S σ H1 k (sx_of e1) (e.mono e1) i1
theorem runm_if {b : Bool} (h : EvB T tt S b) (h1 : b = true → RunM T p ts S Nx Rt) (h2 : b = false → RunM T p tu S Nx Rt) : RunM T p (tIfS tt ts tu) S Nx Rt := fun D σ H e n r =>
  h σ H e _ fun H1 e1 => by
    cases b with
    | true => exact h1 rfl D σ H1 (e.mono e1) (fun S2 σ2 H2 a b c => n S2 σ2 H2 a ((sx_of e1).trans b) c) fun d v S2 σ2 H2 a b c f => r d v S2 σ2 H2 a ((sx_of e1).trans b) c f
    | false => exact h2 rfl D σ H1 (e.mono e1) (fun S2 σ2 H2 a b c => n S2 σ2 H2 a ((sx_of e1).trans b) c) fun d v S2 σ2 H2 a b c f => r d v S2 σ2 H2 a ((sx_of e1).trans b) c f
/-- a test that changes the log -/
def EvMB (T : Tx) (p : Addr) (tt : TT) (S : Sl) (b : Bool) (Vs' : List Fm) (n' : Nat) : Prop := ∀ σ H, Env T H σ S → ∀ Q : Bool → Hp → Prop, (∀ H', Sx p H H' → LogAt T H' p Vs' n' → Q b H') → tt σ H Q
theorem evmb_test {b : Bool} (h : EvM T p te S (db b) Vs' n') : EvMB T p (tTest te) S b Vs' n' := fun σ H e Q q => h σ H e _ fun v H1 s l i => ⟨b, is_v.mp i, q H1 s l⟩
theorem evmb_not {b : Bool} (h : EvMB T p tt S b Vs' n') : EvMB T p (tNot tt) S (!b) Vs' n' := fun σ H e Q q => h σ H e _ fun H1 s l => q H1 s l
theorem evmb_or {b : Bool} {tu : TT} (h : EvB T tt S false) (h2 : EvMB T p tu S b Vs' n') : EvMB T p (tOr tt tu) S b Vs' n' := fun σ H e Q q => h σ H e _ fun H1 s => h2 σ H1 (e.mono s) Q fun H2 s2 l => q H2 ((sx_of s).trans s2) l
theorem runm_ifM {b : Bool} (hi : S[i]? = some (some (.log p Vs n))) (nl : NlX S i) (h : EvMB T p tt S b Vs' n') (h1 : b = true → RunM T p ts (S.set i (some (.log p Vs' n'))) Nx Rt) (h2 : b = false → RunM T p tu (S.set i (some (.log p Vs' n'))) Nx Rt) : RunM T p (tIfS tt ts tu) S Nx Rt := fun D σ H e nx r =>
  h σ H e _ fun H1 s1 l1 => by
    have e1 := env_sx e hi nl s1 l1
    cases b with
    | true => exact h1 rfl D σ H1 e1 (fun S2 σ2 H2 a b c => nx S2 σ2 H2 a (s1.trans b) c) fun d v S2 σ2 H2 a b c f => r d v S2 σ2 H2 a (s1.trans b) c f
    | false => exact h2 rfl D σ H1 e1 (fun S2 σ2 H2 a b c => nx S2 σ2 H2 a (s1.trans b) c) fun d v S2 σ2 H2 a b c f => r d v S2 σ2 H2 a (s1.trans b) c f
theorem runm_dropM (hi : S[i]? = some (some (.log p Vs n))) (nl : NlX S i) (h : EvM T p te S d Vs' n') (k : Nx (S.set i (some (.log p Vs' n')))) : RunM T p (tDrop te) S Nx Rt := fun D σ H e nx r =>
  h σ H e _ fun v H1 s1 l1 i1 => nx _ σ H1 k s1 (env_sx e hi nl s1 l1)
theorem runm_asgM (hi : S[i]? = some (some (.log p Vs n))) (nl : NlX S i) (h : EvM T p te S d Vs' n') (k : Nx ((S.set i (some (.log p Vs' n'))).set j (some d))) : RunM T p (tAsg te (gName j)) S Nx Rt := fun D σ H e nx r =>
  h σ H e _ fun v H1 s1 l1 i1 => nx _ _ H1 k s1 ((env_sx e hi nl s1 l1).set i1)
theorem by_runM {N : List Str} {vs : List V} {H : Hp} {Q : VK} (i : IsA T H ds vs) (hl : ds.length ≤ N.length) (h : RunM T p ts (ds.map some ++ List.replicate (N.length - ds.length) none) (fun _ => False) Rt) (q : ∀ d v S' σ' H', Rt d S' → Sx p H H' → Env T H' σ' S' → Is T H' d v → Q v H') :
    ts { nx := fun _ H' => Q .non H', rt := Q } (L2.start N vs) H := by
  have e := env_start (T := T) (N.length - ds.length) i
  unfold L2.start
  rw [isA_len i]
  exact h _ _ H e (fun S' σ' H' a b c => a.elim) q
/-- fields of a log -/
structure LC (T : Tx) : Prop where
  cls : Cls T.K T.L
  nr : NoAttr T.K T.L "rows"
  na : NoAttr T.K T.L "at"
theorem evd_rows (lc : LC T) (h : EvD T te S (.log p Vs n)) : EvD T (tFld T.K te "rows") S (.lst (Vs.map De.row)) := fun σ H e Q q =>
  h σ H e _ fun v H1 e1 i1 => by
    obtain ⟨h0, dx, a, vs, h1, h2, h3⟩ := is_log.mp i1
    exact ⟨p, T.L, dx, _, _, h0, h1, lc.cls, lc.nr, rfl, q _ H1 e1 (is_lst.mpr ⟨a, vs, rfl, h2, rowsAt_isA.mp h3⟩)⟩
theorem evd_at (lc : LC T) (h : EvD T te S (.log p Vs n)) : EvD T (tFld T.K te "at") S (di (n : Int)) := fun σ H e Q q =>
  h σ H e _ fun v H1 e1 i1 => by
    obtain ⟨h0, dx, a, vs, h1, h2, h3⟩ := is_log.mp i1
    exact ⟨p, T.L, dx, _, _, h0, h1, lc.cls, lc.na, rfl, q _ H1 e1 (is_v.mpr rfl)⟩
theorem evd_methL {sp : Sp} {E : XK} {t : TA} {m : Str} (hm : ∀ a k, (logF a k).lookup m = none) (h : EvD T ta S (.log p Vs n)) (k : EvL T t S ds) (q : SD T sp (.log p Vs n :: ds) d E) : EvD T (tMeth T.L m sp [] E ta t) S d := fun σ H e Q w =>
  h σ H e _ fun v H1 e1 i1 => by
    obtain ⟨h0, dx, a, vs, h1, h2, h3⟩ := is_log.mp i1
    refine ⟨p, dx, _, h0, h1, hm .., k σ H1 (e.mono e1) _ fun vs H2 e2 i2 => ?_⟩
    rw [List.append_nil]
    exact q H2 _ (isA_cons.mpr ⟨v, vs, rfl, i1.mono e2, i2⟩) Q fun x H3 e3 i3 => w x H3 ((e1.trans e2).trans e3) i3
theorem evx_methL {sp : Sp} {E : XK} {t : TA} {m : Str} {C : Addr} (hm : ∀ a k, (logF a k).lookup m = none) (h : EvD T ta S (.log p Vs n)) (k : EvL T t S ds) (q : SX T sp (.log p Vs n :: ds) E C) : EvX T (tMeth T.L m sp [] E ta t) S E C := fun σ H e x Q =>
  h σ H e _ fun v H1 e1 i1 => by
    obtain ⟨h0, dx, a, vs, h1, h2, h3⟩ := is_log.mp i1
    refine ⟨p, dx, _, h0, h1, hm .., k σ H1 (e.mono e1) _ fun vs H2 e2 i2 => ?_⟩
    rw [List.append_nil]
    exact q H2 _ (isA_cons.mpr ⟨v, vs, rfl, i1.mono e2, i2⟩) (fun H' s => x H' ((e1.trans e2).trans s)) Q
/-- self.rows = e, self.at op= e -/
theorem runm_rows (lc : LC T) (hi : S[i]? = some (some (.log p Vs n))) (nl : NlX S i) (h : EvD T te S (.lst (Vs'.map De.row))) (k : Nx (S.set i (some (.log p Vs' n)))) : RunM T p (sFld T.K (tVar i) te "rows") S Nx Rt := fun D σ H e nx r =>
  h σ H e _ fun v H1 e1 i1 => by
    obtain ⟨v0, h0, h0'⟩ := (e.mono e1).2 i _ hi
    obtain ⟨rfl, dx, a, vs, h1, h2, h3⟩ := is_log.mp h0'
    obtain ⟨b, ws, rfl, h4, h5⟩ := is_lst.mp i1
    refine ⟨_, h0, p, T.L, dx, _, rfl, h1, lc.cls, lc.nr, Nat.le_of_ble_eq_true rfl, ?_⟩
    have s2 : Sx p H1 (upd H1 p (.ins T.L dx (putF "rows" (.ref b) (logF a n)))) := fun c o ne q => by rw [upd_ne ne]; exact q
    have hb : b ≠ p := fun z => by rw [z, h1] at h4; cases h4
    exact nx _ σ _ k ((sx_of e1).trans s2) (env_sx (e.mono e1) hi nl s2 ⟨dx, b, ws, upd_same, by rw [upd_ne hb]; exact h4, rows_sx h1 s2 (rowsAt_isA.mpr h5)⟩)
theorem runm_at {rd : V → V → Hp → VK → Prop} {k : Int} (lc : LC T) (hi : S[i]? = some (some (.log p Vs n))) (nl : NlX S i) (h : EvD T te S (di k)) (hr : ∀ (H : Hp) (Q : VK), Q (.int (n' : Int)) H → rd (.int (n : Int)) (.int k) H Q) (kk : Nx (S.set i (some (.log p Vs n')))) : RunM T p (sFldAug T.K (tVar i) te rd "at") S Nx Rt := fun D σ H e nx r => by
  obtain ⟨v0, h0, h0'⟩ := e.2 i _ hi
  obtain ⟨rfl, dx, a, vs, h1, h2, h3⟩ := is_log.mp h0'
  refine ⟨_, h0, p, T.L, dx, _, _, rfl, h1, lc.cls, lc.na, rfl, h σ H e _ fun v H1 e1 i1 => ?_⟩
  rw [is_v.mp i1]
  refine hr H1 _ ⟨dx, _, e1 _ _ h1, Nat.le_of_ble_eq_true rfl, ?_⟩
  have s2 : Sx p H1 (upd H1 p (.ins T.L dx (putF "at" (.int (n' : Int)) (logF a n)))) := fun c o ne q => by rw [upd_ne ne]; exact q
  have ha : a ≠ p := fun z => by rw [z, h1] at h2; cases h2
  exact nx _ σ _ kk ((sx_of e1).trans s2) (env_sx (e.mono e1) hi nl s2 ⟨dx, a, vs, upd_same, by rw [upd_ne ha]; exact e1 _ _ h2, rows_sx (e1 _ _ h1) s2 (rowsAt_mono e1 h3)⟩)
end
/-! ### fresh lists -/
def EvF (T : Tx) (te : TE) (S : Sl) (d : De) : Prop := ∀ σ H, Env T H σ S → ∀ Q : VK, (∀ p H', H p = none → Same H H' → Is T H' d (.ref p) → Q (.ref p) H') → te σ H Q
theorem evf_lcRF {n : Nat} {lo hi : Int} {ta : TA} {te : TE} {tt : TT} (h : Nat → De) (pr : Nat → Bool) (hs : EvL T ta S [di lo, di hi]) (hz : hi - lo ≤ 100000)
    (ht : ∀ k, k < (hi - lo).toNat → EvB T tt (S.set n (some (di (lo + (k : Int))))) (pr k))
    (he : ∀ k, k < (hi - lo).toNat → pr k = true → EvD T te (S.set n (some (di (lo + (k : Int))))) (h k)) (hn : ∀ k, k < (hi - lo).toNat → (h k).noL = true) :
    EvF T (tLc (iAny2 ta) (gName n) tt te [n]) S (.lst (((List.range (hi - lo).toNat).filter pr).map h)) := fun σ H e Q q =>
  hs σ H e _ fun vs H1 e1 i1 => by
    obtain ⟨v, r, rfl, h1, h2⟩ := isA_cons.mp i1
    obtain ⟨v', r', rfl, h1', h2'⟩ := isA_cons.mp h2
    rw [isA_nil.mp h2', is_v.mp h1, is_v.mp h1']
    refine ⟨lo, hi, rfl, fun D hD => ?_⟩
    refine lc_range (Lw T H1 D (fun k => ((List.range k).filter pr).map h)) ⟨hD, same_new hD, _, upd_same, isA_nil.mpr rfl⟩ (fun i H' hi' pv => ?_) (fun H' pv => ?_)
    · have hE : ∀ H'', Same H1 H'' → Env T H'' ((wipe σ [n]).set n (some (.int (lo + (i : Int))))) (S.set n (some (di (lo + (i : Int))))) := fun H'' s => env_own (e.mono (e1.trans s)) (is_v.mpr rfl)
      refine ⟨wipe_one σ n _, ht i hi' _ H' (hE H' pv.2.1) _ fun H3 e3 => ?_⟩
      have pv3 : Lw T H1 D (fun k => ((List.range k).filter pr).map h) i H3 := by
        obtain ⟨p1, p2, ws, p3, p4⟩ := pv
        exact ⟨p1, p2.trans e3, ws, e3 _ _ p3, p4.mono e3⟩
      cases hp : pr i with
      | true =>
        rw [if_pos rfl]
        refine lw_yes pv3 (by omega) (by rw [List.length_map]; have := List.length_filter_le pr (List.range i); rw [List.length_range] at this; omega) hE (he i hi' hp) ?_ (rng_noL (by omega) hn)
        rw [List.range_succ, List.filter_append, List.map_append]; simp [List.filter_cons, hp]
      | false =>
        rw [if_neg Bool.false_ne_true]
        obtain ⟨p1, p2, ws, p3, p4⟩ := pv3
        refine ⟨p1, p2, ws, p3, ?_⟩
        have e2 : ((List.range (i + 1)).filter pr).map h = ((List.range i).filter pr).map h := by
          rw [List.range_succ, List.filter_append, List.map_append]; simp [List.filter_cons, hp]
        show IsA T H3 (((List.range (i + 1)).filter pr).map h) ws
        rw [e2]
        exact p4
    · obtain ⟨p1, p2, ws, p3, p4⟩ := pv
      refine q D H' ?_ (e1.trans p2) (is_lst.mpr ⟨D, ws, rfl, p3, p4⟩)
      cases z : H D with
      | none => rfl
      | some o => rw [e1 _ _ z] at hD; cases hD
theorem EvF.d {te : TE} {d : De} (h : EvF T te S d) : EvD T te S d := fun σ H e Q q => h σ H e Q fun p H' _ s i => q _ H' s i
end Fx

/-! FwA0: the program's first defs. -/
namespace Fx
open PySem PySem.Spec PyProof.Rows L2 Fw
def De.place : De → Bool
  | .v (.int _) => true
  | _ => false
theorem kitB_ii : kitB "int" "int" = some true := by decide +kernel
section
variable {P : Program} {w : World} {K : PySem.W.Frag} {mg : Str → Option Value} {base : Heap} (T : Tt K mg)
def spIsPlace (K : PySem.W.Frag) : Sp := spD (tx K) (fun d : De => [d]) (fun d => ∃ n, d.tyn = some n) (fun d => db d.place)
theorem place_kit {d : De} {n : String} (h : d.tyn = some n) : ∃ b1 b2, kitB n "int" = some b1 ∧ kitB n "bool" = some b2 ∧ d.place = (b1 && !b2) := by
  cases d with
  | v x =>
    cases x <;> cases h
    · exact ⟨_, _, (by decide +kernel : kitB "NoneType" "int" = some false), (by decide +kernel : kitB "NoneType" "bool" = some false), rfl⟩
    · exact ⟨_, _, (by decide +kernel : kitB "bool" "int" = some true), (by decide +kernel : kitB "bool" "bool" = some true), rfl⟩
    · exact ⟨_, _, (by decide +kernel : kitB "int" "int" = some true), (by decide +kernel : kitB "int" "bool" = some false), rfl⟩
    · exact ⟨_, _, (by decide +kernel : kitB "str" "int" = some false), (by decide +kernel : kitB "str" "bool" = some false), rfl⟩
  | tup ds => cases h; exact ⟨_, _, (by decide +kernel : kitB "tuple" "int" = some false), (by decide +kernel : kitB "tuple" "bool" = some false), rfl⟩
  | lst ds => cases h; exact ⟨_, _, (by decide +kernel : kitB "list" "int" = some false), (by decide +kernel : kitB "list" "bool" = some false), rfl⟩
  | _ => cases h
include T
theorem c_is_place : Cal P w K mg base CX0 1 "is_place" (spIsPlace K) := by
  obtain ⟨fd, F⟩ := fd_is_place T
  refine ⟨⟨fd, ["thing"], fn0 F sc_is_place (spD_len fun _ => rfl) (fun cdv A outer s H vs Q E hr h => ?_), gl_is_place T, F.kp, F.bindsN (fun _ _ _ _ _ _ us hl => match us, hl with | [_], _ => rfl)⟩⟩
  obtain ⟨d, i, ⟨n, hn⟩, q⟩ := h
  refine ⟨_, (pss_one (ps_ret (pe_and (pe_callB (r := rIsi K) call_isi (by rfl) (fr_isinstance T) (by decide +kernel) (pa_cons (pv 0) (pa_cons (pe_bltn (v := .ty "int") (by rfl) (fr_int T) (by decide +kernel) rfl) pa_nil))) (pe_one (pe_not (pe_callB (r := rIsi K) call_isi (by rfl) (fr_isinstance T) (by decide +kernel) (pa_cons (pv 0) (pa_cons (pe_bltn (v := .ty "bool") (by rfl) (fr_bool T) (by decide +kernel) rfl) pa_nil)))))))), ?_⟩
  refine by_run (ds := [d]) (d := db d.place) i (Nat.le_of_ble_eq_true rfl) ?_ q
  obtain ⟨b1, b2, k1, k2, e⟩ := place_kit hn
  rw [e]
  exact run_ret (evd_and (evd_cb (evl_cons (evd_var rfl) (evl_cons evd_c evl_nil)) (dc_isi hn k1)) fun h => (evd_not (evd_cb (evl_cons (evd_var rfl) (evl_cons evd_c evl_nil)) (dc_isi hn k2)))) rfl
def spIsValue (K : PySem.W.Frag) : Sp := spD (tx K) (fun c : C => [dc c]) (fun _ => True) (fun _ => db true)
theorem c_is_value : Cal P w K mg base CX0 2 "is_value" (spIsValue K) := by
  obtain ⟨fd, F⟩ := fd_is_value T
  refine ⟨⟨fd, ["thing"], fn0 F sc_is_value (spD_len fun _ => rfl) (fun cdv A outer s H vs Q E hr h => ?_), gl_is_value T, F.kp, F.bindsN (fun _ _ _ _ _ _ us hl => match us, hl with | [_], _ => rfl)⟩⟩
  obtain ⟨c, i, _, q⟩ := h
  refine ⟨_, (pss_one (ps_ret (pe_or (pe_cmpR op_isNo (pv 0) pe_non (nomark _)) (pe_one (pe_cal (c_is_place T) (hr.mono (by decide)) rfl pass0 (pa_cons (pv 0) pa_nil)))))), ?_⟩
  refine by_run (ds := [dc c]) (d := db true) i (Nat.le_of_ble_eq_true rfl) ?_ q
  cases c with
  | none => exact run_ret (evd_is (evd_or (evd_op (evd_var rfl) evd_c d2_isNo) (l := true) fun h => by simp [cv] at h) rfl) rfl
  | some j => exact run_ret (evd_is (evd_or (evd_op (evd_var rfl) evd_c d2_isNo) fun h => (evd_call (evl_cons (evd_var rfl) evl_nil) (sd_D (di j) ⟨_, rfl⟩))) rfl) rfl
def spAreValues (K : PySem.W.Frag) : Sp := spD (tx K) (fun a : Bool × List C × Int => [De.sq a.1 (dcs a.2.1), di a.2.2]) (fun a => a.2.2 ≤ a.2.1.length ∧ a.2.1.length ≤ 4000) (fun _ => db true)
theorem c_are_values : Cal P w K mg base CX0 3 "are_values" (spAreValues K) := by
  obtain ⟨fd, F⟩ := fd_are_values T
  refine ⟨⟨fd, ["things", "fewest"], fn0 F sc_are_values (spD_len fun _ => rfl) (fun cdv A outer s H vs Q E hr h => ?_), gl_are_values T, F.kp, F.bindsN (fun _ _ _ _ _ _ us hl => match us, hl with | [_, _], _ => rfl)⟩⟩
  obtain ⟨⟨b, cs, n⟩, i, ⟨h1, h2⟩, q⟩ := h
  dsimp only at h1 h2
  have e1 : (cs.map fun _ => db true) = (cs.map fun _ => true).map db := by rw [List.map_map]; rfl
  have e2 : (cs.map fun _ => true).all id = true := by rw [List.all_map]; exact List.all_eq_true.mpr fun _ _ => rfl
  cases b with
  | true =>
    refine ⟨_, (pss_cons (ps_if (PW.pt (pw_or (pt_not (pt_val (pe_callB (r := rIsiT K) call_isiT (by rfl) (fr_isinstance T) (by decide +kernel) (pa_cons (pv 0) (pa_cons (pe_tup (pa_cons (pe_bltn (v := .ty "tuple") (by rfl) (fr_tuple T) (by decide +kernel) rfl) (pa_cons (pe_bltn (v := .ty "list") (by rfl) (fr_list T) (by decide +kernel) rfl) pa_nil))) pa_nil))))) (pw_or1 (pt_not (pt_chain op_le op_le (pv 1) (pe_callB (r := rLenS K) call_lenS (by rfl) (fr_len T) PySem.boot_len (pa_cons (pv 0) pa_nil)) (pe_glob (v := .int 4000) rfl (most_eq T) ⟨_, rfl⟩)))))) (pss_one (ps_ret pe_bl)) pss_nil)
      (pss_one (ps_ret (pe_callB (r := rAll K) (cr_all rfl) (by rfl) (fr_all T) (by decide +kernel) (pa_cons (pe_lc (own := [("thing", 2)]) (g := gName 2) rfl sc_are_values.nd (pi_list (pv 0)) (blkOk_by (own := [("thing", 2)]) (N := n_are_values) (sc := defScope s_are_values) (by decide +kernel)) (fun _ _ _ _ _ => pg_name (i := 2) sc_are_values.nd rfl (Or.inl rfl)) (fun _ _ _ _ _ => pts_nil) (fun _ _ _ _ _ => (pe_cal (c_is_value T) (hr.mono (by decide)) rfl pass0 (pa_cons (pv 2) pa_nil)))) pa_nil))))), ?_⟩
    refine by_run (ds := [.lst (dcs cs), di n]) (d := db true) i (Nat.le_of_ble_eq_true rfl) ?_ q
    refine run_seq (run_if (b := false) (evb_is (evb_or (k := false) (l := false) (evb_is (evb_not (evb_val (evd_cb (evl_cons (evd_var rfl) (evl_cons (evd_tup (evl_cons evd_c (evl_cons evd_c evl_nil)) (by decide)) evl_nil)) (dc_isiT2 (r := true) rfl (by decide +kernel : kitB "list" "tuple" = some false) (by decide +kernel : kitB "list" "list" = some true) rfl)))) rfl) fun h => evb_is (evb_not (evb_chain (evd_var rfl) (evd_cb (evl_cons (evd_var rfl) evl_nil) dc_lenL) d2_I0 (fun h => evd_c) (fun h => d2_I0))) ?_) rfl) (fun h => by cases h) fun _ => run_next ?_)
    · simp only [List.length_map]
      rw [decide_eq_true h1, decide_eq_true (by omega)]; rfl
    · refine run_ret (evd_is (evd_all (bs := cs.map fun _ => true) (evl_cons (by
        rw [← e1]
        exact evd_lcL cs dc (fun _ => db true) (evd_var rfl) (by omega) (fun x hx => (evd_call (evl_cons (evd_var rfl) evl_nil) (sd_D x trivial))) (fun _ _ => rfl)) evl_nil)) (by rw [e2])) rfl
  | false =>
    refine ⟨_, (pss_cons (ps_if (PW.pt (pw_or (pt_not (pt_val (pe_callB (r := rIsiT K) call_isiT (by rfl) (fr_isinstance T) (by decide +kernel) (pa_cons (pv 0) (pa_cons (pe_tup (pa_cons (pe_bltn (v := .ty "tuple") (by rfl) (fr_tuple T) (by decide +kernel) rfl) (pa_cons (pe_bltn (v := .ty "list") (by rfl) (fr_list T) (by decide +kernel) rfl) pa_nil))) pa_nil))))) (pw_or1 (pt_not (pt_chain op_le op_le (pv 1) (pe_callB (r := rLenS K) call_lenS (by rfl) (fr_len T) PySem.boot_len (pa_cons (pv 0) pa_nil)) (pe_glob (v := .int 4000) rfl (most_eq T) ⟨_, rfl⟩)))))) (pss_one (ps_ret pe_bl)) pss_nil)
      (pss_one (ps_ret (pe_callB (r := rAll K) (cr_all rfl) (by rfl) (fr_all T) (by decide +kernel) (pa_cons (pe_lc (own := [("thing", 2)]) (g := gName 2) rfl sc_are_values.nd (pi_tup (pv 0)) (blkOk_by (own := [("thing", 2)]) (N := n_are_values) (sc := defScope s_are_values) (by decide +kernel)) (fun _ _ _ _ _ => pg_name (i := 2) sc_are_values.nd rfl (Or.inl rfl)) (fun _ _ _ _ _ => pts_nil) (fun _ _ _ _ _ => (pe_cal (c_is_value T) (hr.mono (by decide)) rfl pass0 (pa_cons (pv 2) pa_nil)))) pa_nil))))), ?_⟩
    refine by_run (ds := [.tup (dcs cs), di n]) (d := db true) i (Nat.le_of_ble_eq_true rfl) ?_ q
    refine run_seq (run_if (b := false) (evb_is (evb_or (k := false) (l := false) (evb_is (evb_not (evb_val (evd_cb (evl_cons (evd_var rfl) (evl_cons (evd_tup (evl_cons evd_c (evl_cons evd_c evl_nil)) (by decide)) evl_nil)) (dc_isiT2 (r := true) rfl (by decide +kernel : kitB "tuple" "tuple" = some true) (by decide +kernel : kitB "tuple" "list" = some false) rfl)))) rfl) fun h => evb_is (evb_not (evb_chain (evd_var rfl) (evd_cb (evl_cons (evd_var rfl) evl_nil) dc_lenT) d2_I0 (fun h => evd_c) (fun h => d2_I0))) ?_) rfl) (fun h => by cases h) fun _ => run_next ?_)
    · simp only [List.length_map]
      rw [decide_eq_true h1, decide_eq_true (by omega)]; rfl
    · refine run_ret (evd_is (evd_all (bs := cs.map fun _ => true) (evl_cons (by
        rw [← e1]
        exact evd_lcT cs dc (fun _ => db true) (evd_var rfl) (by omega) (fun x hx => (evd_call (evl_cons (evd_var rfl) evl_nil) (sd_D x trivial))) (fun _ _ => rfl)) evl_nil)) (by rw [e2])) rfl
end
end Fx

/-! FwA1: rows. -/
namespace Fx
open PySem PySem.Spec PyProof.Rows L2 Fw
/-! ### setting an instance's field -/


section
variable {T : Tx}
theorem sq_sx {x R dx : Addr} {fs : List (Str × V)} {H H' : Hp} (hx : H x = some (.ins R dx fs)) (s : Sx x H H') {b : Bool} {cs : List C} {v : V} (h : Is T H (De.sq b (dcs cs)) v) : Is T H' (De.sq b (dcs cs)) v := by
  cases b with
  | true =>
    obtain ⟨p, vs, rfl, h2, h3⟩ := is_lst.mp (show Is T H (.lst _) v from h)
    exact is_lst.mpr ⟨p, vs, rfl, s _ _ (fun z => by rw [z, hx] at h2; cases h2) h2, isA_vs.mpr (isA_vs.mp h3)⟩
  | false =>
    obtain ⟨p, vs, rfl, h2, h3⟩ := is_tup.mp (show Is T H (.tup _) v from h)
    exact is_tup.mpr ⟨p, vs, rfl, s _ _ (fun z => by rw [z, hx] at h2; cases h2) h2, isA_vs.mpr (isA_vs.mp h3)⟩
/-- o.f = tuple(e) -/
theorem step_tup {x dx : Addr} {v : V} {H : Hp} {fs : List (Str × V)} {b : Bool} {cs : List C} {σ : L2.St} {i j : Nat} {f : Str} {D : Ends} (cl : Cls T.K T.R) (na : NoAttr T.K T.R f) (hx : H x = some (.ins T.R dx fs)) (hv : Is T H (De.sq b (dcs cs)) v) (hj : σ[j]? = some (some v)) (h0 : σ[i]? = some (some (.ref x))) (hl : fs.length < 1000)
    (k : ∀ H' p, Sx x H H' → H' x = some (.ins T.R dx (putF f (.ref p) fs)) → H' p = some (.tup (cs.map cv)) → p ≠ x → D.nx σ H') : sFld T.K (tVar i) (tCB (rTupS T.K) (tCons (tVar j) tNil)) f D σ H := by
  refine ⟨v, hj, ?_⟩
  cases b with
  | true =>
    obtain ⟨p, vs, rfl, h2, h3⟩ := is_lst.mp (show Is T H (.lst _) v from hv)
    rw [isA_vs.mp h3] at h2
    refine ⟨p, _, rfl, .inl ⟨SqL.of h2, fun l hl' => ?_⟩⟩
    have hlx : l ≠ x := fun z => by rw [z, hx] at hl'; cases hl'
    have hxl : x ≠ l := fun z => hlx z.symm
    refine ⟨_, h0, x, T.R, dx, fs, rfl, by rw [upd_ne hxl]; exact hx, cl, na, hl, ?_⟩
    refine k _ l (fun b o n e => ?_) upd_same (by rw [upd_ne hlx, upd_same]) hlx
    rw [upd_ne n, upd_ne (ne_of_none e hl')]
    exact e
  | false =>
    obtain ⟨p, vs, rfl, h2, h3⟩ := is_tup.mp (show Is T H (.tup _) v from hv)
    rw [isA_vs.mp h3] at h2
    have hpx : p ≠ x := fun z => by rw [z, hx] at h2; cases h2
    refine ⟨p, _, rfl, .inr ⟨SqT.of h2, ?_⟩⟩
    refine ⟨_, h0, x, T.R, dx, fs, rfl, hx, cl, na, hl, ?_⟩
    refine k _ p (fun b o n e => ?_) upd_same (by rw [upd_ne hpx]; exact h2) hpx
    rw [upd_ne n]
    exact e
theorem step_int {x dx : Addr} {v : V} {H : Hp} {fs : List (Str × V)} {σ : L2.St} {i j : Nat} {f : Str} {D : Ends} (cl : Cls T.K T.R) (na : NoAttr T.K T.R f) (hx : H x = some (.ins T.R dx fs)) (hj : σ[j]? = some (some v)) (h0 : σ[i]? = some (some (.ref x))) (hl : fs.length < 1000)
    (k : ∀ H', Sx x H H' → H' x = some (.ins T.R dx (putF f v fs)) → D.nx σ H') : sFld T.K (tVar i) (tVar j) f D σ H := by
  refine ⟨v, hj, _, h0, x, T.R, dx, fs, rfl, hx, cl, na, hl, ?_⟩
  refine k _ (fun b o n e => ?_) upd_same
  rw [upd_ne n]
  exact e
end
def sqs (a : Bool × Bool × Bool) (F : Fm) : List De := [De.sq a.1 (dcs F.l), De.sq a.2.1 (dcs F.m), di F.f, De.sq a.2.2 (dcs F.r)]
/-- what Row asks -/
structure Fm.Fit (F : Fm) : Prop where
  l1 : F.l ≠ []
  l2 : F.l.length ≤ 4000
  m2 : F.m.length ≤ 4000
  r1 : F.r ≠ []
  r2 : F.r.length ≤ 4000
theorem Fm.Fit.ok {F : Fm} (h : Fm.Fit F) : F.Ok := ⟨h.l1, h.r1⟩
section
variable {P : Program} {w : World} {K : PySem.W.Frag} {mg : Str → Option Value} {base : Heap} (T : Tt K mg)
def spLeast (K : PySem.W.Frag) : Sp := spD (tx K) (fun xs : List C => [.tup (dcs xs)]) (fun xs => xs ≠ [] ∧ xs.length ≤ 100000) (fun xs => .tup (dcs (xs.take (leastLen xs))))
def spInit (K : PySem.W.Frag) : Sp := fun vs H Q _ => ∃ (a : Bool × Bool × Bool) (F : Fm) (x dx : Addr), IsA (tx K) H (.v (.ref x) :: sqs a F) vs ∧ Fm.Fit F ∧ H x = some (.ins (rowA K) dx []) ∧
  ∀ H', Sx x H H' → Is (tx K) H' (.row F) (.ref x) → Q .non H'
theorem spInit_len : ∀ vs H Q E, spInit K vs H Q E → vs.length = 5 := fun vs H Q E ⟨a, F, x, dx, i, _⟩ => by rw [isA_len i]; rfl
def spTells (K : PySem.W.Frag) : Sp := spD (tx K) (fun a : Fm × Int => [.row a.1, di a.2]) (fun a => a.1.Ok) (fun a => dc (a.1.at a.2))
def spTold (K : PySem.W.Frag) : Sp := spD (tx K) (fun F : Fm => [.row F]) (fun _ => True) dF
include T
theorem c_least_round : Cal P w K mg base CX0 1 "least_round" (spLeast K) := by
  obtain ⟨fd, F⟩ := fd_least_round T
  refine ⟨⟨fd, ["values"], fn0 F sc_least_round (spD_len fun _ => rfl) (fun cdv A outer s H vs Q E hr h => ?_), gl_least_round T, F.kp, F.bindsN (fun _ _ _ _ _ _ us hl => match us, hl with | [_], _ => rfl)⟩⟩
  obtain ⟨xs, i, ⟨h0, h1⟩, q⟩ := h
  refine ⟨_, (pss_cons (ps_for PassesOwn.never rfl (pi_any2 rfl (fr_range T) (pa_cons pe_int (pa_cons (pe_callB (r := rLenS K) call_lenS (by rfl) (fr_len T) PySem.boot_len (pa_cons (pv 0) pa_nil)) pa_nil))) (pg_name (i := 1) sc_least_round.nd rfl (Or.inl rfl)) (pss_one (ps_if (PW.pt (pw_and (pt_cmpR op_eq (pe_op op_mod (pe_callB (r := rLenS K) call_lenS (by rfl) (fr_len T) PySem.boot_len (pa_cons (pv 0) pa_nil)) (pv 1)) pe_int (nomark _)) (pw_and1 (pt_cmpR (op_eqD hr.units) (pv 0) (pe_op op_repA (pe_slice sl_tup (pv 0) po_none (po_some (pv 1))) (pe_op op_fdiv (pe_callB (r := rLenS K) call_lenS (by rfl) (fr_len T) PySem.boot_len (pa_cons (pv 0) pa_nil)) (pv 1))) (nomark _))))) (pss_one (ps_ret (pe_slice sl_tup (pv 0) po_none (po_some (pv 1))))) pss_nil)))
      (pss_one (ps_ret (pv 0)))), ?_⟩
  refine by_run (ds := [.tup (dcs xs)]) (d := .tup (dcs (xs.take (leastLen xs)))) i (Nat.le_of_ble_eq_true rfl) ?_ q
  have hpos : 0 < xs.length := List.length_pos_iff.mpr h0
  refine run_seq (run_for2P (lo := 1) (hi := xs.length) (fun _ => [some (.tup (dcs xs)), none]) (fun k => ∀ j, 1 ≤ j → j < 1 + k → ¬ okR xs j) (evl_cons evd_c (evl_cons (evd_is (evd_cb (evl_cons (evd_var rfl) evl_nil) dc_lenT) (by rw [dcs_len])) evl_nil)) (fun H σ e => e) (fun j a b => by omega) (fun k hk hP => ?_) (fun hP => ?_))
  · have hk2 : 1 + k < xs.length := by omega
    have eMod : ((xs.length : Int) % (1 + (k : Int)) = 0) ↔ xs.length % (1 + k) = 0 := by
      rw [show (1 + (k : Int)) = ((1 + k : Nat) : Int) by omega, ← Int.natCast_emod]; omega
    have t1 : EvB (tx K) (tTest (tOp rEq (tOp (rI (fun _ j => 0 < j) fun i j => .int (i % j)) (tCB (rLenS K) (tCons (tVar 0) tNil)) (tVar 1)) (tC (.int 0)))) [some (.tup (dcs xs)), some (di (1 + (k : Int)))] (decide (xs.length % (1 + k) = 0)) :=
      evb_is (evb_test (evd_op (evd_op (evd_is (evd_cb (evl_cons (evd_var rfl) evl_nil) dc_lenT) (by rw [dcs_len])) (evd_var rfl) (d2_I (by omega))) evd_c d2_eqI)) (by rw [decide_eq_decide]; exact eMod)
    have sl : EvD (tx K) (tSl (rSlT K) (tVar 0) tNoPart (tPart (tVar 1))) [some (.tup (dcs xs)), some (di (1 + (k : Int)))] (.tup (dcs (xs.take (1 + k)))) :=
      evd_is (evd_slT (evd_var rfl) evo_no (evo_some (evd_var rfl)) (by
        rw [dcs_len]
        rintro ⟨_, z⟩
        rw [show (1 + (k : Int)) = ((1 + k : Nat) : Int) by omega, HT.sIx_nat, Nat.min_eq_left (by omega)] at z
        omega)) (by
        rw [cut_take (k := 1 + k) (by rw [dcs_len]; omega) (by omega), dcs_take])
    have t2 : xs.length % (1 + k) = 0 → EvB (tx K) (tTest (tOp (rEqD K) (tVar 0) (tOp (rRepA K) (tSl (rSlT K) (tVar 0) tNoPart (tPart (tVar 1))) (tOp (rI CDiv fun i j => .int (i / j)) (tCB (rLenS K) (tCons (tVar 0) tNil)) (tVar 1))))) [some (.tup (dcs xs)), some (di (1 + (k : Int)))] (decide (xs = rep (xs.length / (1 + k)) (xs.take (1 + k)))) := fun hm => by
      obtain ⟨c, hc⟩ := Nat.dvd_of_mod_eq_zero hm
      have hc2 : 2 ≤ c := by
        rcases Nat.lt_or_ge c 2 with z | z
        · have : c = 0 ∨ c = 1 := by omega
          rcases this with rfl | rfl
          · omega
          · rw [Nat.mul_one] at hc; omega
        · exact z
      have hq : xs.length / (1 + k) = c := by rw [hc]; exact Nat.mul_div_cancel_left _ (by omega)
      have hq2 : (xs.length : Int) / (1 + (k : Int)) = (c : Int) := by rw [← hq, show (1 + (k : Int)) = ((1 + k : Nat) : Int) by omega, ← Int.natCast_ediv]
      have htl : (dcs (xs.take (1 + k))).length = 1 + k := by rw [dcs_len, List.length_take]; omega
      refine evb_test (evd_op (evd_var rfl) (evd_is (evd_op sl (evd_is (evd_op (evd_is (evd_cb (evl_cons (evd_var rfl) evl_nil) dc_lenT) (by rw [dcs_len])) (evd_var rfl) (d2_I ⟨by omega, by omega⟩)) (by rw [hq2])) (d2_repT (by omega) (by rw [hc] at h1; have := Nat.le_mul_of_pos_left c (show 0 < 1 + k by omega); omega) (fun z => by rw [z] at htl; simp at htl; omega) (by rw [htl, Int.toNat_natCast, ← hc]; omega))) (by rw [Int.toNat_natCast, dcs_rep, hq])) d2_eqTs)
    refine run_if (evb_and t1 fun h => t2 (of_decide_eq_true h)) (fun hb => ?_) (fun hb => ?_)
    · rw [Bool.and_eq_true, decide_eq_true_eq, decide_eq_true_eq] at hb
      have hok : okR xs (1 + k) := hb
      have hle : leastLen xs = 1 + k := leastLen_hit (by omega) hk2 hok (fun i a b => hP i a b)
      exact run_ret sl (by rw [hle])
    · refine run_next ⟨fun j a b => ?_, fun H σ e => env_less e rfl fun i hi => ?_⟩
      · by_cases ej : j = 1 + k
        · subst ej
          intro z
          have : (decide (xs.length % (1 + k) = 0) && decide (xs = rep (xs.length / (1 + k)) (xs.take (1 + k)))) = true := by
            rw [Bool.and_eq_true, decide_eq_true_eq, decide_eq_true_eq]; exact z
          rw [this] at hb; cases hb
        · exact hP j a (by omega)
      · match i, hi with
        | 0, _ => exact .inr rfl
        | 1, _ => exact .inl rfl
  · have hle : leastLen xs = xs.length := leastLen_none h0 (fun i a b => hP i a (by omega))
    exact run_ret (evd_is (evd_var rfl) (by rw [hle, List.take_length])) rfl
theorem k_Row : CalK P w K mg base CX0 4 "Row" (spInit K) := by
  obtain ⟨fd, F⟩ := fd_Row_init T
  refine ⟨⟨_, fd, ["self", "left", "middle", "first", "right"], fn0 F sc_Row_init (spInit_len) (fun cdv A outer s H vs Q E hr h => ?_), mk_Row T, gl_Row T, F.bindsN (fun _ _ _ _ _ _ us hl => match us, hl with | [_, _, _, _, _], _ => rfl)⟩⟩
  obtain ⟨⟨b1, b2, b3⟩, F, x, dx, i, ft, hx, q⟩ := h
  refine ⟨_, (pss_cons (ps_if (PW.pt (pw_or (pt_not (pt_val (pe_cal (c_are_values T) (hr.mono (by decide)) rfl pass0 (pa_cons (pv 1) (pa_cons pe_int pa_nil))))) (pw_or (pt_not (pt_val (pe_cal (c_are_values T) (hr.mono (by decide)) rfl pass0 (pa_cons (pv 2) (pa_cons pe_int pa_nil))))) (pw_or (pt_not (pt_val (pe_cal (c_is_place T) (hr.mono (by decide)) rfl pass0 (pa_cons (pv 3) pa_nil)))) (pw_or1 (pt_not (pt_val (pe_cal (c_are_values T) (hr.mono (by decide)) rfl pass0 (pa_cons (pv 4) (pa_cons pe_int pa_nil)))))))))) (pss_one ps_never) pss_nil)
      (pss_cons (ps_fld (pv 0) (pe_callTy call_tupS (by rfl) (fr_tuple T) (by decide +kernel) (pa_cons (pv 1) pa_nil)) rfl)
      (pss_cons (ps_fld (pv 0) (pe_callTy call_tupS (by rfl) (fr_tuple T) (by decide +kernel) (pa_cons (pv 2) pa_nil)) rfl)
      (pss_cons (ps_fld (pv 0) (pv 3) rfl)
      (pss_one (ps_fld (pv 0) (pe_callTy call_tupS (by rfl) (fr_tuple T) (by decide +kernel) (pa_cons (pv 4) pa_nil)) rfl)))))), ?_⟩
  have e := env_start (T := tx K) 0 i
  obtain ⟨v0, r0, rfl, i0, j0⟩ := isA_cons.mp i
  obtain ⟨v1, r1, rfl, i1, j1⟩ := isA_cons.mp j0
  obtain ⟨v2, r2, rfl, i2, j2⟩ := isA_cons.mp j1
  obtain ⟨v3, r3, rfl, i3, j3⟩ := isA_cons.mp j2
  obtain ⟨v4, r4, rfl, i4, j4⟩ := isA_cons.mp j3
  obtain rfl := isA_nil.mp j4
  obtain rfl := is_v.mp i0
  obtain rfl := is_v.mp i3
  have hl1 : 1 ≤ F.l.length := List.length_pos_iff.mpr ft.l1
  have hr1 : 1 ≤ F.r.length := List.length_pos_iff.mpr ft.r1
  refine evb_or (S := [some (.v (.ref x)), some (De.sq b1 (dcs F.l)), some (De.sq b2 (dcs F.m)), some (di F.f), some (De.sq b3 (dcs F.r))]) (evb_not (evb_val (evd_call (evl_cons (evd_var rfl) (evl_cons evd_c evl_nil)) (sd_D (b1, F.l, 1) ⟨by show (1 : Int) ≤ (F.l.length : Int); omega, ft.l2⟩)))) (fun h => evb_or (evb_not (evb_val (evd_call (evl_cons (evd_var rfl) (evl_cons evd_c evl_nil)) (sd_D (b2, F.m, 0) ⟨by show (0 : Int) ≤ (F.m.length : Int); omega, ft.m2⟩)))) (fun h => evb_or (evb_not (evb_val (evd_call (evl_cons (evd_var rfl) evl_nil) (sd_D (di F.f) ⟨_, rfl⟩)))) (fun h => evb_not (evb_val (evd_call (evl_cons (evd_var rfl) (evl_cons evd_c evl_nil)) (sd_D (b3, F.r, 1) ⟨by show (1 : Int) ≤ (F.r.length : Int); omega, ft.r2⟩)))))) _ H e _ (fun H1 e1 => ?_)
  have hx1 := e1 _ _ hx
  refine step_tup (T := tx K) (x := x) (b := b1) (cs := F.l) (v := v1) (cl_Row T) (na_left T) hx1 (i1.mono e1) rfl rfl (Nat.le_of_ble_eq_true rfl) (fun H2 p s2 hx2 hp np => ?_)
  refine step_tup (T := tx K) (x := x) (b := b2) (cs := F.m) (v := v2) (cl_Row T) (na_middle T) hx2 (sq_sx hx1 s2 (i2.mono e1)) rfl rfl (Nat.le_of_ble_eq_true rfl) (fun H3 p' s3 hx3 hp' np' => ?_)
  refine step_int (T := tx K) (x := x) (cl_Row T) (na_first T) hx3 rfl rfl (Nat.le_of_ble_eq_true rfl) (fun H4 s4 hx4 => ?_)
  refine step_tup (T := tx K) (x := x) (b := b3) (cs := F.r) (v := v4) (cl_Row T) (na_right T) hx4 (sq_sx hx3 s4 (sq_sx hx2 s3 (sq_sx hx1 s2 (i4.mono e1)))) rfl rfl (Nat.le_of_ble_eq_true rfl) (fun H5 p'' s5 hx5 hp'' np'' => ?_)
  refine q H5 (fun b o n z => s5 _ _ n (s4 _ _ n (s3 _ _ n (s2 _ _ n (e1 _ _ z))))) (is_row.mpr ⟨x, dx, p, p', p'', rfl, hx5, s5 _ _ np (s4 _ _ np (s3 _ _ np hp)), s5 _ _ np' (s4 _ _ np' hp'), hp''⟩)
omit T in
theorem evd_makeRow {S : Sl} {E : XK} {t : TA} (a : Bool × Bool × Bool) (F : Fm) (h : EvL (tx K) t S (sqs a F)) (ft : Fm.Fit F) : EvD (tx K) (tMake (He.ga K "Row") (spInit K) [] E t) S (.row F) := fun σ H e Q q =>
  h σ H e _ fun vs H1 e1 i1 => fun x dx hx hdx hne => by
    have s1 : Same H1 (upd (upd H1 dx (.own x)) x (.ins (rowA K) dx [])) := fun b o z => by
      rw [upd_ne (ne_of_none z hx), upd_ne (ne_of_none z hdx)]; exact z
    refine ⟨a, F, x, dx, isA_cons.mpr ⟨_, _, rfl, is_v.mpr rfl, by rw [List.append_nil]; exact i1.mono s1⟩, ft, upd_same, fun H' s' hr => ⟨rfl, ?_⟩⟩
    exact q _ H' (e1.trans fun b o z => s' b o (fun y => by rw [y, hx] at z; cases z) (s1 b o z)) hr
theorem m_tells : CalM P w K mg base CX0 1 (rowA K) "tells" (spTells K) := by
  obtain ⟨fd, F⟩ := fd_Row_tells T
  refine ⟨⟨_, fd, ["self", "place"], fn0 F sc_Row_tells (spD_len fun _ => rfl) (fun cdv A outer s H vs Q E hr h => ?_), me_tells T, F.bindsN (fun _ _ _ _ _ _ us hl => match us, hl with | [_, _], _ => rfl)⟩⟩
  obtain ⟨⟨F, p⟩, i, hok, q⟩ := h
  refine ⟨_, (pss_cons (ps_set (i := 2) sc_Row_tells.nd rfl (Or.inl rfl) (pe_op op_sub (pv 1) (pe_fld (pv 0) rfl)))
      (pss_cons (ps_if (pt_cmpR op_lt (pv 2) pe_int (nomark _)) (pss_one (ps_ret (pe_ix (r := rIxT K) ix_tup (pe_fld (pv 0) rfl) (pe_op op_mod (pv 2) (pe_callB (r := rLenS K) call_lenS (by rfl) (fr_len T) PySem.boot_len (pa_cons (pe_fld (pv 0) rfl) pa_nil))) (fun _ _ => rfl)))) pss_nil)
      (pss_cons (ps_if (pt_cmpR op_lt (pv 2) (pe_callB (r := rLenS K) call_lenS (by rfl) (fr_len T) PySem.boot_len (pa_cons (pe_fld (pv 0) rfl) pa_nil)) (nomark _)) (pss_one (ps_ret (pe_ix (r := rIxT K) ix_tup (pe_fld (pv 0) rfl) (pv 2) (fun _ _ => rfl)))) pss_nil)
      (pss_one (ps_ret (pe_ix (r := rIxT K) ix_tup (pe_fld (pv 0) rfl) (pe_op op_mod (pe_op op_sub (pv 2) (pe_callB (r := rLenS K) call_lenS (by rfl) (fr_len T) PySem.boot_len (pa_cons (pe_fld (pv 0) rfl) pa_nil))) (pe_callB (r := rLenS K) call_lenS (by rfl) (fr_len T) PySem.boot_len (pa_cons (pe_fld (pv 0) rfl) pa_nil))) (fun _ _ => rfl))))))), ?_⟩
  refine by_run (ds := [.row F, di p]) (d := dc (F.at p)) i (Nat.le_of_ble_eq_true rfl) ?_ q
  have hl : 0 < F.l.length := List.length_pos_iff.mpr hok.l0
  have hr : 0 < F.r.length := List.length_pos_iff.mpr hok.r0
  refine run_seq (run_ex (d' := di (p - F.f)) (evd_op (evd_var rfl) (evd_first (rc T) (evd_var rfl)) d2_I0) rfl (run_seq (run_if (evb_test (evd_op (evd_var rfl) evd_c d2_I0)) (fun hb => ?_) (fun hb => run_next (run_seq (run_if (evb_test (evd_op (evd_var rfl) (evd_cb (evl_cons (evd_middle (rc T) (evd_var rfl)) evl_nil) dc_lenT) d2_I0)) (fun hb2 => ?_) (fun hb2 => run_next ?_)))))))
  · have hb := of_decide_eq_true hb
    obtain ⟨k, h1, h2, h3⟩ := rg_mod (xs := F.l) (i := p - F.f) hl
    refine run_ret (evd_is (evd_op (evd_left (rc T) (evd_var rfl)) (evd_op (evd_var rfl) (evd_cb (evl_cons (evd_left (rc T) (evd_var rfl)) evl_nil) dc_lenT) (d2_I (by rw [dcs_len]; omega))) (d2_ixT (k := k) (dcs_get h2) (by rw [dcs_len]; exact h1))) ?_) rfl
    rw [Fm.at_l (by omega), h3]
  · have hb := of_decide_eq_false hb
    have hb2 := of_decide_eq_true hb2
    rw [dcs_len] at hb2
    refine run_ret (evd_is (evd_op (evd_middle (rc T) (evd_var rfl)) (evd_var rfl) (d2_ixT (k := (p - F.f).toNat) (dcs_get (by omega)) (by omega))) ?_) rfl
    rw [Fm.at_m (by omega) (by omega)]
  · have hb := of_decide_eq_false hb
    have hb2 := of_decide_eq_false hb2
    rw [dcs_len] at hb2
    obtain ⟨k, h1, h2, h3⟩ := rg_mod (xs := F.r) (i := p - F.f - (F.m.length : Int)) hr
    refine run_ret (evd_is (evd_op (evd_right (rc T) (evd_var rfl)) (evd_op (evd_op (evd_var rfl) (evd_cb (evl_cons (evd_middle (rc T) (evd_var rfl)) evl_nil) dc_lenT) d2_I0) (evd_cb (evl_cons (evd_right (rc T) (evd_var rfl)) evl_nil) dc_lenT) (d2_I (by rw [dcs_len]; omega))) (d2_ixT (k := k) (dcs_get h2) (by rw [dcs_len, dcs_len]; exact h1))) ?_) rfl
    rw [Fm.at_r (by omega), h3]
theorem m_told : CalM P w K mg base CX0 1 (rowA K) "told" (spTold K) := by
  obtain ⟨fd, F⟩ := fd_Row_told T
  refine ⟨⟨_, fd, ["self"], fn0 F sc_Row_told (spD_len fun _ => rfl) (fun cdv A outer s H vs Q E hr h => ?_), me_told T, F.bindsN (fun _ _ _ _ _ _ us hl => match us, hl with | [_], _ => rfl)⟩⟩
  obtain ⟨F, i, _, q⟩ := h
  refine ⟨_, (pss_one (ps_ret (pe_tup (pa_cons (pe_fld (pv 0) rfl) (pa_cons (pe_fld (pv 0) rfl) (pa_cons (pe_fld (pv 0) rfl) (pa_cons (pe_fld (pv 0) rfl) pa_nil))))))), ?_⟩
  refine by_run (ds := [.row F]) (d := dF F) i (Nat.le_of_ble_eq_true rfl) ?_ q
  exact run_ret (evd_tup (evl_cons (evd_left (rc T) (evd_var rfl)) (evl_cons (evd_middle (rc T) (evd_var rfl)) (evl_cons (evd_first (rc T) (evd_var rfl)) (evl_cons (evd_right (rc T) (evd_var rfl)) evl_nil)))) (Nat.le_of_ble_eq_true rfl)) rfl
end
end Fx

/-! FwA2: plain rows. -/
namespace Fx
open PySem PySem.Spec PyProof.Rows L2 Fw
def ownE (F : Fm) : List Int := if F.f = 0 ∧ F.m = [] ∧ F.l = F.r then [] else [F.f, F.e]
section
variable {P : Program} {w : World} {K : PySem.W.Frag} {mg : Str → Option Value} {base : Heap} (T : Tt K mg)
def spCells (K : PySem.W.Frag) : Sp := spD (tx K) (fun a : Fm × Int × Int => [.row a.1, di a.2.1, di a.2.2]) (fun a => a.1.Ok ∧ a.2.2 - a.2.1 ≤ 100000) (fun a => .tup (dcs (cells a.1.at a.2.1 (a.2.2 - a.2.1).toNat)))
def spRight (K : PySem.W.Frag) : Sp := spD (tx K) (fun a : Fm × Int × Int => [.row a.1, di a.2.1, di a.2.2]) (fun a => a.1.Ok ∧ a.2.2 ≤ a.1.e) (fun a => di (rbGo a.1.at a.2.1 (a.1.e - a.2.2).toNat a.1.e))
def spLeft (K : PySem.W.Frag) : Sp := spD (tx K) (fun a : Fm × Int × Int => [.row a.1, di a.2.1]) (fun a => a.1.Ok ∧ a.1.f ≤ a.2.2 ∧ a.1.at a.2.2 ≠ a.1.at (a.2.2 - a.2.1) ∧ ∀ p, a.1.f ≤ p → p < a.2.2 → a.1.at p = a.1.at (p - a.2.1)) (fun a => di a.2.2)
def spPlain (K : PySem.W.Frag) : Sp := spD (tx K) (fun F : Fm => [.row F]) (fun F => Fm.Fit F) (fun F => .row (plf F.at))
def spOwn (K : PySem.W.Frag) : Sp := spD (tx K) (fun F : Fm => [.row F]) (fun _ => True) (fun F => .lst ((ownE F).map di))
def spSpread (K : PySem.W.Frag) : Sp := spD (tx K) (fun a : (Bool × Bool × Bool) × Fm => sqs a.1 a.2) (fun a => Fm.Fit { a.2 with m := [] }) (fun a => .row a.2)
def spLaid (K : PySem.W.Frag) : Sp := spD (tx K) (fun a : (Bool × Bool × Bool) × Fm => sqs a.1 a.2) (fun a => Fm.Fit a.2) (fun a => .row (plf a.2.at))
def spMeasure (K : PySem.W.Frag) : Sp := spD (tx K) (fun a : Nat × Nat => [di a.1, di a.2]) (fun _ => True) (fun a => di (Nat.gcd a.1 a.2 : Nat))
def spOf (K : PySem.W.Frag) : Sp := spD (tx K) (fun a : C × C => [.obj (He.ga K "Unlike"), dc a.1, dc a.2]) (fun _ => True) (fun a => dc (if a.1 = a.2 then none else some 1))
include T
theorem c_cells : Cal P w K mg base CX0 2 "cells" (spCells K) := by
  obtain ⟨fd, F⟩ := fd_cells T
  refine ⟨⟨fd, ["row", "first", "last"], fn0 F sc_cells (spD_len fun _ => rfl) (fun cdv A outer s H vs Q E hr h => ?_), gl_cells T, F.kp, F.bindsN (fun _ _ _ _ _ _ us hl => match us, hl with | [_, _, _], _ => rfl)⟩⟩
  obtain ⟨⟨F, a, b⟩, i, ⟨hok, hz⟩, q⟩ := h
  refine ⟨_, (pss_one (ps_ret (pe_callTy call_tupS (by rfl) (fr_tuple T) (by decide +kernel) (pa_cons (pe_lc (own := [("place", 3)]) (g := gName 3) rfl sc_cells.nd (pi_any2 rfl (fr_range T) (pa_cons (pv 1) (pa_cons (pv 2) pa_nil))) (blkOk_by (own := [("place", 3)]) (N := n_cells) (sc := defScope s_cells) (by decide +kernel)) (fun _ _ _ _ _ => pg_name (i := 3) sc_cells.nd rfl (Or.inl rfl)) (fun _ _ _ _ _ => pts_nil) (fun _ _ _ _ _ => (pe_calM (pv 0) (cl_Row T) (m_tells T) (hr.mono (by decide)) pass0 (pa_cons (pv 3) pa_nil)))) pa_nil)))), ?_⟩
  refine by_run (ds := [.row F, di a, di b]) (d := .tup (dcs (cells F.at a (b - a).toNat))) i (Nat.le_of_ble_eq_true rfl) ?_ q
  exact run_ret (evd_is (evd_cb (evl_cons (evd_lcR2 (fun k => dc (F.at (a + (k : Int)))) (evl_cons (evd_var rfl) (evl_cons (evd_var rfl) evl_nil)) hz (fun k hk => (evd_meth rowF_tells (evd_var rfl) (evl_cons (evd_var rfl) evl_nil) (sd_D (F, a + (k : Int)) hok))) (fun _ _ => rfl)) evl_nil) dc_tupL) (by rw [dcs_cells])) rfl
theorem c_right_begin : Cal P w K mg base CX0 2 "right_begin" (spRight K) := by
  obtain ⟨fd, F⟩ := fd_right_begin T
  refine ⟨⟨fd, ["row", "many", "least"], fn0 F sc_right_begin (spD_len fun _ => rfl) (fun cdv A outer s H vs Q E hr h => ?_), gl_right_begin T, F.kp, F.bindsN (fun _ _ _ _ _ _ us hl => match us, hl with | [_, _, _], _ => rfl)⟩⟩
  obtain ⟨⟨F, r, a⟩, i, ⟨hok, hz⟩, q⟩ := h
  refine ⟨_, (pss_cons (ps_set (i := 3) sc_right_begin.nd rfl (Or.inl rfl) (pe_op op_add (pe_fld (pv 0) rfl) (pe_callB (r := rLenS K) call_lenS (by rfl) (fr_len T) PySem.boot_len (pa_cons (pe_fld (pv 0) rfl) pa_nil))))
      (pss_cons (ps_while PassesOwn.never (PW.pt (pw_and (pt_cmpR op_gt (pv 3) (pv 2) (nomark _)) (pw_and1 (pt_cmpR op_eq (pe_calM (pv 0) (cl_Row T) (m_tells T) (hr.mono (by decide)) pass0 (pa_cons (pe_op op_sub (pv 3) pe_int) pa_nil)) (pe_calM (pv 0) (cl_Row T) (m_tells T) (hr.mono (by decide)) pass0 (pa_cons (pe_op op_add (pe_op op_sub (pv 3) pe_int) (pv 1)) pa_nil)) (nomark _))))) (pss_one (ps_aug (i := 3) sc_right_begin.nd rfl (Or.inl rfl) pe_int ip_sub)))
      (pss_one (ps_ret (pv 3))))), ?_⟩
  refine by_run (ds := [.row F, di r, di a]) (d := di (rbGo F.at r (F.e - a).toNat F.e)) i (Nat.le_of_ble_eq_true rfl) ?_ q
  dsimp only at hz hok
  refine run_seq (run_ex (d' := di F.e) (evd_op (evd_first (rc T) (evd_var rfl)) (evd_is (evd_cb (evl_cons (evd_middle (rc T) (evd_var rfl)) evl_nil) dc_lenT) (by rw [dcs_len])) d2_I0) rfl ?_)
  refine run_seq (run_while (fun p : Int => [some (.row F), some (di r), some (di a), some (di p)]) (fun p => (p - a).toNat) (fun p => a ≤ p ∧ rbGo F.at r (p - a).toNat p = rbGo F.at r (F.e - a).toNat F.e) (fun p => decide (p > a) && decide (F.at (p - 1) = F.at (p - 1 + r))) F.e ⟨hz, rfl⟩ (fun H σ e => e) (fun p hp => ?_) (fun p hp hb => ?_) (fun p hp hb => ?_))
  · exact evb_and (evb_test (evd_op (evd_var rfl) (evd_var rfl) d2_I0)) fun h => (evb_test (evd_op (evd_meth rowF_tells (evd_var rfl) (evl_cons (evd_op (evd_var rfl) evd_c d2_I0) evl_nil) (sd_D (F, p - 1) hok)) (evd_meth rowF_tells (evd_var rfl) (evl_cons (evd_op (evd_op (evd_var rfl) evd_c d2_I0) (evd_var rfl) d2_I0) evl_nil) (sd_D (F, p - 1 + r) hok)) d2_eqC))
  · rw [Bool.and_eq_true, decide_eq_true_eq, decide_eq_true_eq] at hb
    refine run_aug (a := p) (b := 1) rfl evd_c (p - 1) (fun H Q q => ⟨_, _, rfl, rfl, q⟩) ⟨p - 1, ⟨by omega, ?_⟩, by omega, fun H σ e => e⟩
    rw [← hp.2]
    obtain ⟨n, hn⟩ : ∃ n, (p - a).toNat = n + 1 := ⟨(p - a).toNat - 1, by omega⟩
    rw [hn, rbGo, if_pos hb.2, show (p - 1 - a).toNat = n by omega]
  · refine run_ret (evd_is (evd_var rfl) ?_) rfl
    rw [← hp.2]
    by_cases e : p = a
    · rw [e, show (a - a).toNat = 0 by omega]; rfl
    · obtain ⟨n, hn⟩ : ∃ n, (p - a).toNat = n + 1 := ⟨(p - a).toNat - 1, by omega⟩
      rw [decide_eq_true (by omega), Bool.true_and, decide_eq_false_iff_not] at hb
      rw [hn, rbGo, if_neg hb]
theorem c_left_end : Cal P w K mg base CX0 2 "left_end" (spLeft K) := by
  obtain ⟨fd, F⟩ := fd_left_end T
  refine ⟨⟨fd, ["row", "many"], fn0 F sc_left_end (spD_len fun _ => rfl) (fun cdv A outer s H vs Q E hr h => ?_), gl_left_end T, F.kp, F.bindsN (fun _ _ _ _ _ _ us hl => match us, hl with | [_, _], _ => rfl)⟩⟩
  obtain ⟨⟨F, l, E'⟩, i, ⟨hok, h1, h2, h3⟩, q⟩ := h
  refine ⟨_, (pss_cons (ps_set (i := 2) sc_left_end.nd rfl (Or.inl rfl) (pe_fld (pv 0) rfl))
      (pss_cons (ps_while PassesOwn.never (pt_cmpR op_eq (pe_calM (pv 0) (cl_Row T) (m_tells T) (hr.mono (by decide)) pass0 (pa_cons (pv 2) pa_nil)) (pe_calM (pv 0) (cl_Row T) (m_tells T) (hr.mono (by decide)) pass0 (pa_cons (pe_op op_sub (pv 2) (pv 1)) pa_nil)) (nomark _)) (pss_one (ps_aug (i := 2) sc_left_end.nd rfl (Or.inl rfl) pe_int ip_add)))
      (pss_one (ps_ret (pv 2))))), ?_⟩
  refine by_run (ds := [.row F, di l]) (d := di E') i (Nat.le_of_ble_eq_true rfl) ?_ q
  dsimp only at h1 h2 h3 hok
  refine run_seq (run_asg (evd_first (rc T) (evd_var rfl)) ?_)
  refine run_seq (run_while (fun p : Int => [some (.row F), some (di l), some (di p)]) (fun p => (E' - p).toNat) (fun p => F.f ≤ p ∧ p ≤ E') (fun p => decide (F.at p = F.at (p - l))) F.f ⟨Int.le_refl _, h1⟩ (fun H σ e => e) (fun p hp => ?_) (fun p hp hb => ?_) (fun p hp hb => ?_))
  · exact evb_test (evd_op (evd_meth rowF_tells (evd_var rfl) (evl_cons (evd_var rfl) evl_nil) (sd_D (F, p) hok)) (evd_meth rowF_tells (evd_var rfl) (evl_cons (evd_op (evd_var rfl) (evd_var rfl) d2_I0) evl_nil) (sd_D (F, p - l) hok)) d2_eqC)
  · have hb := of_decide_eq_true hb
    have hne : p ≠ E' := fun z => h2 (by rw [← z]; exact hb)
    exact run_aug (a := p) (b := 1) rfl evd_c (p + 1) (fun H Q q => ⟨_, _, rfl, rfl, q⟩) ⟨p + 1, ⟨by omega, by omega⟩, by omega, fun H σ e => e⟩
  · have hb := of_decide_eq_false hb
    refine run_ret (evd_is (evd_var rfl) ?_) rfl
    have : p = E' := by
      by_cases e : p = E'
      · exact e
      · exact absurd (h3 p hp.1 (by omega)) hb
    rw [this]
theorem c_plain : Cal P w K mg base CX0 6 "plain" (spPlain K) := by
  obtain ⟨fd, F⟩ := fd_plain T
  refine ⟨⟨fd, ["row"], fn0 F sc_plain (spD_len fun _ => rfl) (fun cdv A outer s H vs Q E hr h => ?_), gl_plain T, F.kp, F.bindsN (fun _ _ _ _ _ _ us hl => match us, hl with | [_], _ => rfl)⟩⟩
  obtain ⟨F, i, ft, q⟩ := h
  refine ⟨_, (pss_cons (ps_set (i := 1) sc_plain.nd rfl (Or.inl rfl) (pe_callB (r := rLenS K) call_lenS (by rfl) (fr_len T) PySem.boot_len (pa_cons (pe_cal (c_least_round T) (hr.mono (by decide)) rfl pass0 (pa_cons (pe_fld (pv 0) rfl) pa_nil)) pa_nil)))
      (pss_cons (ps_set (i := 2) sc_plain.nd rfl (Or.inl rfl) (pe_callB (r := rLenS K) call_lenS (by rfl) (fr_len T) PySem.boot_len (pa_cons (pe_cal (c_least_round T) (hr.mono (by decide)) rfl pass0 (pa_cons (pe_fld (pv 0) rfl) pa_nil)) pa_nil)))
      (pss_cons (ps_set (i := 3) sc_plain.nd rfl (Or.inl rfl) (pe_op op_sub (pe_op op_sub (pe_fld (pv 0) rfl) (pv 1)) (pv 2)))
      (pss_cons (ps_set (i := 4) sc_plain.nd rfl (Or.inl rfl) (pe_cal (c_right_begin T) (hr.mono (by decide)) rfl pass0 (pa_cons (pv 0) (pa_cons (pv 2) (pa_cons (pv 3) pa_nil)))))
      (pss_cons (ps_if (pt_cmpR op_eq (pv 4) (pv 3) (nomark _)) (pss_cons (ps_set (i := 5) sc_plain.nd rfl (Or.inl rfl) (pe_cal (c_cells T) (hr.mono (by decide)) rfl pass0 (pa_cons (pv 0) (pa_cons pe_int (pa_cons (pv 2) pa_nil)))))
      (pss_one (ps_ret (pe_calK (k_Row T) (hr.mono (by decide)) rfl pass0 (pa_cons (pv 5) (pa_cons (pe_tup pa_nil) (pa_cons pe_int (pa_cons (pv 5) pa_nil)))))))) pss_nil)
      (pss_cons (ps_set (i := 6) sc_plain.nd rfl (Or.inl rfl) (pe_callB (call_min2' rfl) (by rfl) (fr_min T) (by decide +kernel) (pa_cons (pv 4) (pa_cons (pe_cal (c_left_end T) (hr.mono (by decide)) rfl pass0 (pa_cons (pv 0) (pa_cons (pv 1) pa_nil))) pa_nil))))
      (pss_one (ps_ret (pe_calK (k_Row T) (hr.mono (by decide)) rfl pass0 (pa_cons (pe_cal (c_cells T) (hr.mono (by decide)) rfl pass0 (pa_cons (pv 0) (pa_cons (pe_op op_sub (pv 6) (pv 1)) (pa_cons (pv 6) pa_nil)))) (pa_cons (pe_cal (c_cells T) (hr.mono (by decide)) rfl pass0 (pa_cons (pv 0) (pa_cons (pv 6) (pa_cons (pv 4) pa_nil)))) (pa_cons (pv 6) (pa_cons (pe_cal (c_cells T) (hr.mono (by decide)) rfl pass0 (pa_cons (pv 0) (pa_cons (pv 4) (pa_cons (pe_op op_add (pv 4) (pv 2)) pa_nil)))) pa_nil))))))))))))), ?_⟩
  refine by_run (ds := [.row F]) (d := .row (plf F.at)) i (Nat.le_of_ble_eq_true rfl) ?_ q
  have t := Fm.tw ft.ok
  have a1 := leastLen_ok ft.l1
  have a2 := leastLen_ok ft.r1
  have b1 := ft.l2
  have b2 := ft.r2
  have b3 := ft.m2
  generalize hl : leastLen F.l = l at t a1
  generalize hr : leastLen F.r = r at t a2
  have hab := t.ab
  have he : F.e = F.f + (F.m.length : Int) := rfl
  refine run_seq (run_ex (d' := di (l : Nat)) (evd_cb (evl_cons (evd_call (evl_cons (evd_left (rc T) (evd_var rfl)) evl_nil) (sd_D F.l ⟨ft.l1, by omega⟩)) evl_nil) dc_lenT) (by rw [dcs_len, List.length_take, hl, Nat.min_eq_left (by omega)]) ?_)
  refine run_seq (run_ex (d' := di (r : Nat)) (evd_cb (evl_cons (evd_call (evl_cons (evd_right (rc T) (evd_var rfl)) evl_nil) (sd_D F.r ⟨ft.r1, by omega⟩)) evl_nil) dc_lenT) (by rw [dcs_len, List.length_take, hr, Nat.min_eq_left (by omega)]) ?_)
  refine run_seq (run_asg (evd_op (evd_op (evd_first (rc T) (evd_var rfl)) (evd_var rfl) d2_I0) (evd_var rfl) d2_I0) ?_)
  refine run_seq (run_asg (evd_call (evl_cons (evd_var rfl) (evl_cons (evd_var rfl) (evl_cons (evd_var rfl) evl_nil))) (sd_D (F, (r : Int), F.f - l - r) ⟨ft.ok, by show F.f - l - r ≤ F.e; omega⟩)) ?_)
  obtain ⟨s1, s2, s3, s4⟩ := rbGo_spec (f := F.at) (r := (r : Int)) (n := (F.e - (F.f - l - r)).toNat) (p := F.e)
  show Run (tx K) _ [some (.row F), some (di (l : Nat)), some (di (r : Nat)), some (di (F.f - l - r)), some (di (rbGo F.at (r : Int) (F.e - (F.f - l - r)).toNat F.e)), none, none] _ _
  generalize rbGo F.at (r : Int) (F.e - (F.f - l - r)).toNat F.e = B at s1 s2 s3 s4
  refine run_seq (run_if (evb_test (evd_op (evd_var rfl) (evd_var rfl) d2_eqI)) (fun hb => ?_) (fun hb => run_next ?_))
  · have hb := of_decide_eq_true hb
    have hall : ∀ p, F.f - l - r ≤ p → F.at (p + r) = F.at p := fun p hp => by
      by_cases z : p < F.e
      · exact (s3 p (by omega) z).symm
      · exact t.pr p (by omega)
    obtain ⟨p1, p2⟩ := t.round hall
    have e1 := plf_of p1 p2
    refine run_seq (run_ex (d' := .tup (dcs (cells F.at 0 r))) (evd_call (evl_cons (evd_var rfl) (evl_cons evd_c (evl_cons (evd_var rfl) evl_nil))) (sd_D (F, 0, (r : Int)) ⟨ft.ok, by show (r : Int) - 0 ≤ 100000; omega⟩)) (by show De.tup (dcs (cells F.at 0 ((r : Int) - 0).toNat)) = _; rw [show ((r : Int) - 0).toNat = r by omega]) ?_)
    refine run_ret (evd_is (evd_makeRow (false, false, false) ⟨cells F.at 0 r, [], 0, cells F.at 0 r⟩ (evl_cons (evd_var rfl) (evl_cons (evd_tup evl_nil (Nat.le_of_ble_eq_true rfl)) (evl_cons evd_c (evl_cons (evd_var rfl) evl_nil)))) ⟨cells_ne t.lr.pos, by rw [cells_len]; omega, by simp, cells_ne t.lr.pos, by rw [cells_len]; omega⟩) (by rw [e1])) rfl
  · have hb := of_decide_eq_false hb
    have hne : F.at (B - 1) ≠ F.at (B - 1 + r) := by
      rcases s4 with z | z
      · exact absurd (by omega) hb
      · exact z
    have hB : ∀ p, B ≤ p → F.at (p + r) = F.at p := fun p hp => by
      by_cases z : p < F.e
      · exact (s3 p hp z).symm
      · exact t.pr p (by omega)
    obtain ⟨E', e1, e2, e3⟩ := least_ge (t.some hne)
    obtain ⟨p1, p2⟩ := t.plain hB hne e1 e2 (fun p u v => by have := e3 p u v; exact Classical.byContradiction this)
    have e4 := plf_of p1 p2
    have l0 := t.ll.pos
    have r0 := t.lr.pos
    refine run_seq (run_asg (evd_cb (evl_cons (evd_var rfl) (evl_cons (evd_call (evl_cons (evd_var rfl) (evl_cons (evd_var rfl) evl_nil)) (sd_D (F, (l : Int), E') ⟨ft.ok, e1, e2, fun p u v => Classical.byContradiction (e3 p u v)⟩)) evl_nil)) dc_min2) ?_)
    show Run (tx K) _ [some (.row F), some (di (l : Nat)), some (di (r : Nat)), some (di (F.f - l - r)), some (di B), none, some (di (min B E'))] _ _
    refine run_ret (evd_is (evd_makeRow (false, false, false) ⟨cells F.at (min B E' - l) l, cells F.at (min B E') (B - min B E').toNat, min B E', cells F.at B r⟩ (evl_cons (evd_is (evd_call (evl_cons (evd_var rfl) (evl_cons (evd_op (evd_var rfl) (evd_var rfl) d2_I0) (evl_cons (evd_var rfl) evl_nil))) (sd_D (F, min B E' - l, min B E') ⟨ft.ok, by show min B E' - (min B E' - l) ≤ 100000; omega⟩)) (by show De.tup (dcs (cells F.at (min B E' - l) (min B E' - (min B E' - l)).toNat)) = _; rw [show (min B E' - (min B E' - l)).toNat = l by omega]; rfl)) (evl_cons (evd_is (evd_call (evl_cons (evd_var rfl) (evl_cons (evd_var rfl) (evl_cons (evd_var rfl) evl_nil))) (sd_D (F, min B E', B) ⟨ft.ok, by show B - min B E' ≤ 100000; omega⟩)) rfl) (evl_cons (evd_var rfl) (evl_cons (evd_is (evd_call (evl_cons (evd_var rfl) (evl_cons (evd_var rfl) (evl_cons (evd_op (evd_var rfl) (evd_var rfl) d2_I0) evl_nil))) (sd_D (F, B, B + r) ⟨ft.ok, by show B + r - B ≤ 100000; omega⟩)) (by show De.tup (dcs (cells F.at B (B + r - B).toNat)) = _; rw [show (B + r - B).toNat = r by omega]; rfl)) evl_nil)))) ⟨cells_ne l0, by rw [cells_len]; omega, by rw [cells_len]; omega, cells_ne r0, by rw [cells_len]; omega⟩) (by rw [e4])) rfl
theorem c_own_ends : Cal P w K mg base CX0 1 "own_ends" (spOwn K) := by
  obtain ⟨fd, F⟩ := fd_own_ends T
  refine ⟨⟨fd, ["row"], fn0 F sc_own_ends (spD_len fun _ => rfl) (fun cdv A outer s H vs Q E hr h => ?_), gl_own_ends T, F.kp, F.bindsN (fun _ _ _ _ _ _ us hl => match us, hl with | [_], _ => rfl)⟩⟩
  obtain ⟨F, i, _, q⟩ := h
  refine ⟨_, (pss_cons (ps_if (PW.pt (pw_and (pt_cmpR op_eq (pe_fld (pv 0) rfl) pe_int (nomark _)) (pw_and (pt_cmpR (op_eqD hr.units) (pe_fld (pv 0) rfl) (pe_tup pa_nil) (nomark _)) (pw_and1 (pt_cmpR (op_eqD hr.units) (pe_fld (pv 0) rfl) (pe_fld (pv 0) rfl) (nomark _)))))) (pss_one (ps_ret (pe_lst pa_nil))) pss_nil)
      (pss_one (ps_ret (pe_lst (pa_cons (pe_fld (pv 0) rfl) (pa_cons (pe_op op_add (pe_fld (pv 0) rfl) (pe_callB (r := rLenS K) call_lenS (by rfl) (fr_len T) PySem.boot_len (pa_cons (pe_fld (pv 0) rfl) pa_nil))) pa_nil)))))), ?_⟩
  refine by_run (ds := [.row F]) (d := .lst ((ownE F).map di)) i (Nat.le_of_ble_eq_true rfl) ?_ q
  refine run_seq (run_if (evb_and (evb_test (evd_op (evd_first (rc T) (evd_var rfl)) evd_c d2_eqI)) fun h => (evb_and (evb_test (evd_op (evd_middle (rc T) (evd_var rfl)) (evd_tup evl_nil (Nat.le_of_ble_eq_true rfl)) (d2_eqTs (ys := [])))) fun h => (evb_test (evd_op (evd_left (rc T) (evd_var rfl)) (evd_right (rc T) (evd_var rfl)) d2_eqTs)))) (fun hb => ?_) (fun hb => run_next ?_))
  · simp only [Bool.and_eq_true, decide_eq_true_eq] at hb
    exact run_ret (evd_lst evl_nil (by decide)) (by unfold ownE; rw [if_pos hb]; rfl)
  · have hb : ¬ (F.f = 0 ∧ F.m = [] ∧ F.l = F.r) := fun z => by
      rw [decide_eq_true z.1, decide_eq_true z.2.1, decide_eq_true z.2.2] at hb
      cases hb
    refine run_ret (evd_lst (evl_cons (evd_first (rc T) (evd_var rfl)) (evl_cons (evd_op (evd_first (rc T) (evd_var rfl)) (evd_is (evd_cb (evl_cons (evd_middle (rc T) (evd_var rfl)) evl_nil) dc_lenT) (by rw [dcs_len])) d2_I0) evl_nil)) (Nat.le_of_ble_eq_true rfl)) (by unfold ownE; rw [if_neg hb]; rfl)
theorem c_spread : Cal P w K mg base CX0 6 "spread" (spSpread K) := by
  obtain ⟨fd, F⟩ := fd_spread T
  refine ⟨⟨fd, ["left", "middle", "first", "right"], fn0 F sc_spread (spD_len fun _ => rfl) (fun cdv A outer s H vs Q E hr h => ?_), gl_spread T, F.kp, F.bindsN (fun _ _ _ _ _ _ us hl => match us, hl with | [_, _, _, _], _ => rfl)⟩⟩
  obtain ⟨⟨⟨b1, b2, b3⟩, F⟩, i, ft, q⟩ := h
  refine ⟨_, (pss_cons (ps_set (i := 4) sc_spread.nd rfl (Or.inl rfl) (pe_calK (k_Row T) (hr.mono (by decide)) rfl pass0 (pa_cons (pv 0) (pa_cons (pe_tup pa_nil) (pa_cons (pv 2) (pa_cons (pv 3) pa_nil))))))
      (pss_cons (ps_fld (pv 4) (pe_callTy call_tupS (by rfl) (fr_tuple T) (by decide +kernel) (pa_cons (pv 1) pa_nil)) rfl)
      (pss_one (ps_ret (pv 4))))), ?_⟩
  have e := env_start (T := tx K) 1 i
  obtain ⟨v1, r1, rfl, i1, j1⟩ := isA_cons.mp i
  obtain ⟨v2, r2, rfl, i2, j2⟩ := isA_cons.mp j1
  obtain ⟨v3, r3, rfl, i3, j3⟩ := isA_cons.mp j2
  obtain ⟨v4, r4, rfl, i4, j4⟩ := isA_cons.mp j3
  obtain rfl := isA_nil.mp j4
  have args : EvL (tx K) (tCons (tVar 0) (tCons (tTup tNil) (tCons (tVar 2) (tCons (tVar 3) tNil)))) [some (De.sq b1 (dcs F.l)), some (De.sq b2 (dcs F.m)), some (di F.f), some (De.sq b3 (dcs F.r)), none] (sqs (b1, false, b3) { F with m := [] }) :=
    evl_cons (evd_var rfl) (evl_cons (evd_tup evl_nil (Nat.le_of_ble_eq_true rfl)) (evl_cons (evd_var rfl) (evl_cons (evd_var rfl) evl_nil)))
  unfold tSeq tAsg tMake
  refine args _ H e _ fun vs H1 e1 k1 => fun x dx hx hdx hne => ?_
  have s1 : Same H1 (upd (upd H1 dx (.own x)) x (.ins (rowA K) dx [])) := fun b o z => by
    rw [upd_ne (ne_of_none z hx), upd_ne (ne_of_none z hdx)]; exact z
  refine ⟨(b1, false, b3), { F with m := [] }, x, dx, isA_cons.mpr ⟨_, _, rfl, is_v.mpr rfl, by rw [List.append_nil]; exact k1.mono s1⟩, ft, upd_same, fun H2 s2 hr2 => ⟨rfl, ?_⟩⟩
  have i2' := sq_sx upd_same s2 ((i2.mono e1).mono s1)
  obtain ⟨p, dx', pa, pb, pc, hp, h1, h2, h3, h4⟩ := is_row.mp hr2
  cases hp
  refine step_tup (T := tx K) (x := x) (b := b2) (cs := F.m) (v := v2) (i := 4) (j := 1) (cl_Row T) (na_middle T) h1 i2' rfl rfl (Nat.le_of_ble_eq_true rfl) (fun H3 pm s3 hx3 hp3 np3 => ?_)
  refine ⟨_, rfl, q _ H3 (fun b o z => ?_) (is_row.mpr ⟨x, dx', pa, pm, pc, rfl, hx3, s3 _ _ (fun z => by rw [z, h1] at h2; cases h2) h2, hp3, s3 _ _ (fun z => by rw [z, h1] at h4; cases h4) h4⟩)⟩
  have nb : b ≠ x := fun y => by have := e1 _ _ z; rw [y, hx] at this; cases this
  exact s3 _ _ nb (s2 _ _ nb (s1 _ _ (e1 _ _ z)))
theorem c_laid : Cal P w K mg base CX0 7 "laid" (spLaid K) := by
  obtain ⟨fd, F⟩ := fd_laid T
  refine ⟨⟨fd, ["left", "middle", "first", "right"], fn0 F sc_laid (spD_len fun _ => rfl) (fun cdv A outer s H vs Q E hr h => ?_), gl_laid T, F.kp, F.bindsN (fun _ _ _ _ _ _ us hl => match us, hl with | [_, _, _, _], _ => rfl)⟩⟩
  obtain ⟨⟨⟨b1, b2, b3⟩, F⟩, i, ft, q⟩ := h
  refine ⟨_, (pss_one (ps_ret (pe_cal (c_plain T) (hr.mono (by decide)) rfl pass0 (pa_cons (pe_cal (c_spread T) (hr.mono (by decide)) rfl pass0 (pa_cons (pv 0) (pa_cons (pv 1) (pa_cons (pv 2) (pa_cons (pv 3) pa_nil))))) pa_nil)))), ?_⟩
  refine by_run (ds := sqs (b1, b2, b3) F) (d := .row (plf F.at)) i (Nat.le_of_ble_eq_true rfl) ?_ q
  exact run_ret (evd_call (evl_cons (evd_call (evl_cons (evd_var rfl) (evl_cons (evd_var rfl) (evl_cons (evd_var rfl) (evl_cons (evd_var rfl) evl_nil)))) (sd_D ((b1, b2, b3), F) ⟨ft.l1, ft.l2, Nat.zero_le _, ft.r1, ft.r2⟩)) evl_nil) (sd_D F ft)) rfl
theorem c_common_measure : Cal P w K mg base CX0 1 "common_measure" (spMeasure K) := by
  obtain ⟨fd, F⟩ := fd_common_measure T
  refine ⟨⟨fd, ["one", "other"], fn0 F sc_common_measure (spD_len fun _ => rfl) (fun cdv A outer s H vs Q E hr h => ?_), gl_common_measure T, F.kp, F.bindsN (fun _ _ _ _ _ _ us hl => match us, hl with | [_, _], _ => rfl)⟩⟩
  obtain ⟨⟨m, n⟩, i, _, q⟩ := h
  refine ⟨_, (pss_cons (ps_while PassesOwn.never (pt_cmpR op_ne (pv 1) pe_int (nomark _)) (pss_one (ps_par (i := 0) (j := 1) (by rfl) sc_common_measure.nd rfl rfl (by decide) rfl rfl (pa_cons (pv 1) (pa_cons (pe_op op_mod (pv 0) (pv 1)) pa_nil)) (by rfl))))
      (pss_one (ps_ret (pv 0)))), ?_⟩
  refine by_run (ds := [di m, di n]) (d := di (Nat.gcd m n : Nat)) i (Nat.le_of_ble_eq_true rfl) ?_ q
  refine run_seq (run_while (fun a : Nat × Nat => [some (di (a.1 : Int)), some (di (a.2 : Int))]) (fun a => a.2) (fun a => Nat.gcd a.1 a.2 = Nat.gcd m n) (fun a => !decide ((a.2 : Int) = 0)) (m, n) rfl (fun H σ e => e) (fun a ha => ?_) (fun a ha hb => ?_) (fun a ha hb => ?_))
  · exact evb_test (evd_op (evd_var rfl) evd_c d2_neI)
  · rw [Bool.not_eq_true', decide_eq_false_iff_not] at hb
    have hp : 0 < a.2 := by omega
    refine run_par (a := di (a.2 : Int)) (b := di ((a.1 % a.2 : Nat) : Int)) (evl_cons (evd_var rfl) (evl_cons (evd_is (evd_op (evd_var rfl) (evd_var rfl) (d2_I (by omega))) (by rw [Int.natCast_emod])) evl_nil)) ⟨(a.2, a.1 % a.2), ?_, Nat.mod_lt _ hp, fun H σ e => e⟩
    rw [← ha]
    show Nat.gcd a.2 (a.1 % a.2) = Nat.gcd a.1 a.2
    rw [Nat.gcd_comm a.1 a.2, Nat.gcd_rec a.2 a.1, Nat.gcd_comm]
  · rw [Bool.not_eq_false', decide_eq_true_eq] at hb
    refine run_ret (evd_is (evd_var rfl) ?_) rfl
    rw [← ha, show a.2 = 0 by omega, Nat.gcd_zero_right]
theorem m_of : CalM P w K mg base CX0 1 (He.ga K "Unlike") "of" (spOf K) := by
  obtain ⟨fd, F⟩ := fd_Unlike_of T
  refine ⟨⟨_, fd, ["self", "one", "other"], fn0 F sc_Unlike_of (spD_len fun _ => rfl) (fun cdv A outer s H vs Q E hr h => ?_), me_of T, F.bindsN (fun _ _ _ _ _ _ us hl => match us, hl with | [_, _, _], _ => rfl)⟩⟩
  obtain ⟨⟨a, b⟩, i, _, q⟩ := h
  refine ⟨_, (pss_one (ps_ret (pe_ifExp (pt_cmpR op_eq (pv 1) (pv 2) (nomark _)) pe_non pe_int))), ?_⟩
  refine by_run (ds := [.obj (He.ga K "Unlike"), dc a, dc b]) (d := dc (if a = b then none else some 1)) i (Nat.le_of_ble_eq_true rfl) ?_ q
  refine run_ret (evd_if (evb_test (evd_op (evd_var rfl) (evd_var rfl) d2_eqC)) (fun h => ?_) (fun h => ?_)) rfl
  · rw [if_pos (of_decide_eq_true h)]; exact evd_c
  · rw [if_neg (of_decide_eq_false h)]; exact evd_c
end
end Fx

/-! FwA3: joined, woven, patches. -/
namespace Fw
theorem cells_take (f : Int → C) (a : Int) (n k : Nat) (h : k ≤ n) : (cells f a n).take k = cells f a k := by
  apply List.ext_getElem?
  intro i
  rw [List.getElem?_take]
  by_cases hi : i < k
  · rw [if_pos hi, cells_get (by omega), cells_get hi]
  · rw [if_neg hi, List.getElem?_eq_none (by rw [cells_len]; omega)]
theorem cells_drop (f : Int → C) (a : Int) (n k : Nat) (h : k ≤ n) : (cells f a n).drop k = cells f (a + (k : Int)) (n - k) := by
  apply List.ext_getElem?
  intro i
  rw [List.getElem?_drop]
  by_cases hi : i < n - k
  · rw [cells_get (by omega), cells_get hi]
    congr 2
    omega
  · rw [List.getElem?_eq_none (by rw [cells_len]; omega), List.getElem?_eq_none (by rw [cells_len]; omega)]
def ruU (cs : List C) : C := if cs.getD 0 none = cs.getD 1 none then none else some 1
def ruM (cs : List C) : C := if cs.getD 0 none = none then none else cs.getD 1 none
def ruC (cs : List C) : C := if cs.getD 1 none = none then cs.getD 0 none else cs.getD 2 none
theorem lcmL_snoc (ns : List Nat) (n : Nat) : lcmL (ns ++ [n]) = Nat.lcm (lcmL ns) n := by
  unfold lcmL
  rw [List.foldl_append]; rfl
def rndB (F : Fm) : Bool := decide (F.m = []) && decide (F.l = F.r)
theorem rndB_iff {F : Fm} : rndB F = true ↔ F.Rnd := by
  unfold rndB Fm.Rnd
  rw [Bool.and_eq_true, decide_eq_true_eq, decide_eq_true_eq]
theorem own_eq (Fs : List Fm) : own Fs = Fs.filter fun F => !rndB F := by
  unfold own
  congr 1
  funext F
  rw [Bool.eq_iff_iff]
  simp only [decide_eq_true_eq, Bool.not_eq_true']
  rw [← rndB_iff]
  simp
/-- too many values in a common wheel -/
def TooB (Fs : List Fm) : Bool := decide (lenL Fs > 4000) || decide (lenR Fs > 4000)
noncomputable def wov (Fs : List Fm) (rule : List C → C) : Option Fm := if TooB Fs = true then none else some (plf (wv Fs rule))
theorem sprd_fit {Fs : List Fm} (h : ∀ F ∈ Fs, Pl F) (rule : List C → C) (hb : TooB Fs = false) (hw : hiF Fs - loF Fs ≤ 4000) :
    (sprd Fs rule).l ≠ [] ∧ (sprd Fs rule).l.length ≤ 4000 ∧ (sprd Fs rule).m.length ≤ 4000 ∧ (sprd Fs rule).r ≠ [] ∧ (sprd Fs rule).r.length ≤ 4000 := by
  unfold TooB at hb
  rw [Bool.or_eq_false_iff, decide_eq_false_iff_not, decide_eq_false_iff_not] at hb
  have o := sprd_ok h rule
  refine ⟨o.l0, ?_, ?_, o.r0, ?_⟩
  · show (cells _ _ _).length ≤ _
    rw [cells_len]; omega
  · show (cells _ _ _).length ≤ _
    rw [cells_len]; omega
  · show (cells _ _ _).length ≤ _
    rw [cells_len]; omega
end Fw
namespace Fx
open PySem PySem.Spec PyProof.Rows L2 Fw
section
variable {X : Cx} {CX : CXT} {k : Nat} {sp : Sp} {E : XK} {x y : Str} {i : Nat} {p pos : Pos} {e : Expr} {es : List Expr} {t : TA}
theorem pe_calL (c : Cal X.prog X.w X.K X.mg X.base CX k x sp) (hr : Room k X.A) (hN : X.N[i]? = some y) (hv : Vis X.env.scope y) (hx : Passes CX X E) (ha : PA X (e :: es) t)
    (hdb : (y == ("__debug__" : Str)) = false := by decide) (hcd : (y == ("__classdict__" : Str)) = false := by decide)
    (he : starEach (e :: es) X.env = (false, eval e X.env) :: starEach es X.env := by rfl) (hpl : (backTo pos (starEach es X.env)).any (·.1) = false := by rfl) : PE X (.Call (.Name y p) (e :: es) [] pos) (tCallL i (He.ga X.K x) sp [] E t) := by
  obtain ⟨fd, ps, F, h1, h2, h3⟩ := c.ex
  exact pe_callL F hr hN hv h2 h3 .nil hx ha hdb hcd he hpl
end
theorem ownE_rnd {F : Fm} (h : Pl F) : ownE F = if rndB F = true then [] else [F.f, F.e] := by
  unfold ownE
  by_cases z : rndB F = true
  · rw [if_pos z, if_pos ⟨h.rnd (rndB_iff.mp z), (rndB_iff.mp z).1, (rndB_iff.mp z).2⟩]
  · rw [if_neg z, if_neg fun c => z (rndB_iff.mpr ⟨c.2.1, c.2.2⟩)]
theorem ends_lo {A B : Fm} (hA : Pl A) (hB : Pl B) : minD (if ownE A ++ ownE B = [] then [0] else ownE A ++ ownE B) = loF [A, B] ∧ maxD (if ownE A ++ ownE B = [] then [0] else ownE A ++ ownE B) = hiF [A, B] := by
  have a1 : A.f ≤ A.e := by unfold Fm.e; omega
  have b1 : B.f ≤ B.e := by unfold Fm.e; omega
  rw [ownE_rnd hA, ownE_rnd hB]
  unfold loF hiF
  rw [own_eq]
  cases ra : rndB A <;> cases rb : rndB B <;> simp [List.filter_cons, ra, rb, minD, maxD, List.foldl] <;> omega
section
variable {P : Program} {w : World} {K : PySem.W.Frag} {mg : Str → Option Value} {base : Heap} (T : Tt K mg)
abbrev XT (K : PySem.W.Frag) : Addr := He.ga K "TooMany"
def spRound (K : PySem.W.Frag) : Sp := spE (tx K) (XT K) (fun as : List (List C) => [.lst (as.map fun a => .tup (dcs a))]) (fun as => ∀ a ∈ as, a ≠ [] ∧ a.length ≤ 4000) (fun as => if lcmL (as.map List.length) > 4000 then none else some (di (lcmL (as.map List.length) : Nat)))
def spTimes (K : PySem.W.Frag) : Sp := spD (tx K) (fun ns : List Nat => [.lst (ns.map fun (n : Nat) => di (n : Int))]) (fun ns => ∀ n ∈ ns, 0 < n ∧ n ≤ 4000) (fun ns => di (lcmL ns : Nat))
def spRuled (K : PySem.W.Frag) : Sp := spD (tx K) (fun a : Fm × Fm × Int × Int => [.row a.1, .row a.2.1, .obj (He.ga K "Unlike"), di a.2.2.1, di a.2.2.2]) (fun a => a.1.Ok ∧ a.2.1.Ok ∧ a.2.2.2 - a.2.2.1 ≤ 100000) (fun a => .tup (dcs (cells (wv [a.1, a.2.1] ruU) a.2.2.1 (a.2.2.2 - a.2.2.1).toNat)))
def okRow (F : Fm) : Prop := Pl F ∧ Fm.Fit F
noncomputable def spAllj (K : PySem.W.Frag) : Sp := spE (tx K) (XT K) (fun a : Fm × Fm => [.row a.1, .row a.2, .obj (He.ga K "Unlike")]) (fun a => okRow a.1 ∧ okRow a.2 ∧ hiF [a.1, a.2] - loF [a.1, a.2] ≤ 4000) (fun a => if TooB [a.1, a.2] = true then none else some (.row (sprd [a.1, a.2] ruU)))
noncomputable def spJoined (K : PySem.W.Frag) : Sp := spE (tx K) (XT K) (fun a : Fm × Fm => [.row a.1, .row a.2, .obj (He.ga K "Unlike")]) (fun a => okRow a.1 ∧ okRow a.2 ∧ hiF [a.1, a.2] - loF [a.1, a.2] ≤ 4000) (fun a => (wov [a.1, a.2] ruU).map De.row)
noncomputable def spUnlike (K : PySem.W.Frag) : Sp := spE (tx K) (XT K) (fun a : Fm × Fm => [.row a.1, .row a.2]) (fun a => okRow a.1 ∧ okRow a.2 ∧ hiF [a.1, a.2] - loF [a.1, a.2] ≤ 4000) (fun a => (wov [a.1, a.2] ruU).map De.row)
def spIsRound (K : PySem.W.Frag) : Sp := spD (tx K) (fun F : Fm => [.row F]) (fun _ => True) (fun F => db (rndB F))
def spMarked (K : PySem.W.Frag) : Sp := spD (tx K) (fun a : C × C => [.lst [dc a.1, dc a.2]]) (fun _ => True) (fun a => dc (ruM [a.1, a.2]))
def spChanged (K : PySem.W.Frag) : Sp := spD (tx K) (fun a : C × C × C => [.lst [dc a.1, dc a.2.1, dc a.2.2]]) (fun _ => True) (fun a => dc (ruC [a.1, a.2.1, a.2.2]))
include T
theorem c_common_round : Cal P w K mg base (L2.CX P w) 2 "common_round" (spRound K) := by
  obtain ⟨fd, F⟩ := fd_common_round T
  refine ⟨⟨fd, ["rings"], fnX F sc_common_round (spE_len fun _ => rfl) (fun cdv A outer s H vs Q E hr h => ?_), gl_common_round T, F.kp, F.bindsN (fun _ _ _ _ _ _ us hl => match us, hl with | [_], _ => rfl)⟩⟩
  obtain ⟨as, i, hp, q⟩ := h
  refine ⟨_, (pss_cons (ps_set (i := 1) sc_common_round.nd rfl (Or.inl rfl) pe_int)
      (pss_cons (ps_for (passes_of rfl) rfl (pi_list (pv 0)) (pg_name (i := 2) sc_common_round.nd rfl (Or.inl rfl)) (pss_one (ps_set (i := 1) sc_common_round.nd rfl (Or.inl rfl) (pe_op op_mul (pe_op op_fdiv (pv 1) (pe_cal (c_common_measure T) (hr.mono (by decide)) rfl pass0 (pa_cons (pv 1) (pa_cons (pe_callB (r := rLenS K) call_lenS (by rfl) (fr_len T) PySem.boot_len (pa_cons (pv 2) pa_nil)) pa_nil)))) (pe_callB (r := rLenS K) call_lenS (by rfl) (fr_len T) PySem.boot_len (pa_cons (pv 2) pa_nil))))))
      (pss_cons (ps_if (pt_cmpR op_gt (pv 1) (pe_glob (v := .int 4000) rfl (most_eq T) ⟨_, rfl⟩) (nomark _)) (pss_one (ps_raise rfl (takes_of rfl rfl rfl rfl) (pmk_own PySem.F.excBase_ValueError (ex_TooMany T) (gl_TooMany T) (ke_TooMany T) (rs_TooMany T) rfl))) pss_nil)
      (pss_one (ps_ret (pv 1)))))), ?_⟩
  have hlen : ∀ k, lcmL ((as.take k).map List.length) > 0 := fun k => lcmL_pos fun n hn => by
    obtain ⟨a, ha, rfl⟩ := List.mem_map.mp hn
    exact List.length_pos_iff.mpr (hp a (List.mem_of_mem_take ha)).1
  refine by_rune (ds := [.lst (as.map fun a => .tup (dcs a))]) (o := if lcmL (as.map List.length) > 4000 then none else some (di (lcmL (as.map List.length) : Nat))) i (Nat.le_of_ble_eq_true rfl) ?_ q
  refine rune_seq (run_asg evd_c ?_)
  refine rune_seq (run_forL (ds := as.map fun a => .tup (dcs a)) (fun k => [some (.lst (as.map fun a => .tup (dcs a))), some (di (lcmL ((as.take k).map List.length) : Nat)), none]) (evd_var rfl) (fun H σ e => e) (fun k d hd => ?_) ?_)
  · rw [List.getElem?_map] at hd
    cases ha : as[k]? with
    | none => rw [ha] at hd; cases hd
    | some a =>
      rw [ha] at hd
      cases hd
      obtain ⟨a1, a2⟩ := hp a (List.mem_of_getElem? ha)
      have a0 : 0 < a.length := List.length_pos_iff.mpr a1
      have hL := hlen k
      generalize hm : lcmL ((as.take k).map List.length) = m at hL
      have hg : 0 < Nat.gcd m a.length := Nat.gcd_pos_of_pos_right _ a0
      have hg2 : Nat.gcd m a.length ≤ a.length := Nat.gcd_le_right _ a0
      have hcd : CDiv (m : Int) ((Nat.gcd m a.length : Nat) : Int) := ⟨by omega, by omega⟩
      have e1 : lcmL ((as.take (k + 1)).map List.length) = m / Nat.gcd m a.length * a.length := by
        rw [List.take_add_one, ha, List.map_append]
        show lcmL (_ ++ [a.length]) = _
        rw [lcmL_snoc, hm, lcm_eq]
      refine run_asg (evd_op (evd_op (evd_var rfl) (evd_call (evl_cons (evd_var rfl) (evl_cons (evd_cb (evl_cons (evd_var rfl) evl_nil) dc_lenT) evl_nil)) (by rw [dcs_len]; exact sd_D (m, a.length) trivial)) (d2_I hcd)) (evd_cb (evl_cons (evd_var rfl) evl_nil) dc_lenT) (d2_I (.inr (by rw [dcs_len]; omega)))) (fun H σ e => env_less e rfl fun i hi => ?_)
      match i, hi with
      | 0, _ => exact .inr rfl
      | 1, _ =>
        right
        show some (some (di (lcmL ((as.take (k + 1)).map List.length) : Nat))) = some (some (di (((m : Int) / ((Nat.gcd m a.length : Nat) : Int)) * ((dcs a).length : Int))))
        rw [e1, dcs_len, Int.natCast_mul, Int.natCast_ediv]
      | 2, _ => exact .inl rfl
  · rw [List.length_map, List.take_length]
    by_cases hz : lcmL (as.map List.length) > 4000
    · rw [if_pos hz]
      exact rune_x (runx_1 (runx_if (evb_test (evd_op (evd_var rfl) evd_c d2_I0)) (fun hb => runx_raise) (fun hb => absurd (of_decide_eq_false hb) (by omega))))
    · rw [if_neg hz]
      exact rune_run (run_seq (run_if (evb_test (evd_op (evd_var rfl) evd_c d2_I0)) (fun hb => absurd (of_decide_eq_true hb) (by omega)) (fun hb => run_next (run_ret (evd_var rfl) rfl))))
theorem c_common_times : Cal P w K mg base CX0 2 "common_times" (spTimes K) := by
  obtain ⟨fd, F⟩ := fd_common_times T
  refine ⟨⟨fd, ["numbers"], fn0 F sc_common_times (spD_len fun _ => rfl) (fun cdv A outer s H vs Q E hr h => ?_), gl_common_times T, F.kp, F.bindsN (fun _ _ _ _ _ _ us hl => match us, hl with | [_], _ => rfl)⟩⟩
  obtain ⟨ns, i, hp, q⟩ := h
  refine ⟨_, (pss_cons (ps_set (i := 1) sc_common_times.nd rfl (Or.inl rfl) pe_int)
      (pss_cons (ps_for PassesOwn.never rfl (pi_list (pv 0)) (pg_name (i := 2) sc_common_times.nd rfl (Or.inl rfl)) (pss_one (ps_set (i := 1) sc_common_times.nd rfl (Or.inl rfl) (pe_op op_mul (pe_op op_fdiv (pv 1) (pe_cal (c_common_measure T) (hr.mono (by decide)) rfl pass0 (pa_cons (pv 1) (pa_cons (pv 2) pa_nil)))) (pv 2)))))
      (pss_one (ps_ret (pv 1))))), ?_⟩
  refine by_run (ds := [.lst (ns.map fun (n : Nat) => di (n : Int))]) (d := di (lcmL ns : Nat)) i (Nat.le_of_ble_eq_true rfl) ?_ q
  refine run_seq (run_asg evd_c ?_)
  refine run_seq (run_forL (ds := ns.map fun (n : Nat) => di (n : Int)) (fun k => [some (.lst (ns.map fun (n : Nat) => di (n : Int))), some (di (lcmL (ns.take k) : Nat)), none]) (evd_var rfl) (fun H σ e => e) (fun k d hd => ?_) ?_)
  · rw [List.getElem?_map] at hd
    cases ha : ns[k]? with
    | none => rw [ha] at hd; cases hd
    | some a =>
      rw [ha] at hd
      cases hd
      obtain ⟨a0, a2⟩ := hp a (List.mem_of_getElem? ha)
      have hL : 0 < lcmL (ns.take k) := lcmL_pos fun n hn => (hp n (List.mem_of_mem_take hn)).1
      generalize hm : lcmL (ns.take k) = m at hL
      have hg : 0 < Nat.gcd m a := Nat.gcd_pos_of_pos_right _ a0
      have hg2 : Nat.gcd m a ≤ a := Nat.gcd_le_right _ a0
      have hcd : CDiv (m : Int) ((Nat.gcd m a : Nat) : Int) := ⟨by omega, by omega⟩
      have e1 : lcmL (ns.take (k + 1)) = m / Nat.gcd m a * a := by
        rw [List.take_add_one, ha]
        show lcmL (_ ++ [a]) = _
        rw [lcmL_snoc, hm, lcm_eq]
      refine run_asg (evd_op (evd_op (evd_var rfl) (evd_call (evl_cons (evd_var rfl) (evl_cons (evd_var rfl) evl_nil)) (sd_D (m, a) trivial)) (d2_I hcd)) (evd_var rfl) (d2_I (.inr (by omega)))) (fun H σ e => env_less e rfl fun i hi => ?_)
      match i, hi with
      | 0, _ => exact .inr rfl
      | 1, _ =>
        right
        show some (some (di (lcmL (ns.take (k + 1)) : Nat))) = some (some (di (((m : Int) / ((Nat.gcd m a : Nat) : Int)) * (a : Int))))
        rw [e1, Int.natCast_mul, Int.natCast_ediv]
      | 2, _ => exact .inl rfl
  · rw [List.length_map, List.take_length]; exact run_ret (evd_var rfl) rfl
theorem c_ruled : Cal P w K mg base CX0 2 "ruled" (spRuled K) := by
  obtain ⟨fd, F⟩ := fd_ruled T
  refine ⟨⟨fd, ["one", "other", "rule", "first", "last"], fn0 F sc_ruled (spD_len fun _ => rfl) (fun cdv A outer s H vs Q E hr h => ?_), gl_ruled T, F.kp, F.bindsN (fun _ _ _ _ _ _ us hl => match us, hl with | [_, _, _, _, _], _ => rfl)⟩⟩
  obtain ⟨⟨F, G, a, b⟩, i, ⟨h1, h2, h3⟩, q⟩ := h
  refine ⟨_, (pss_one (ps_ret (pe_callTy call_tupS (by rfl) (fr_tuple T) (by decide +kernel) (pa_cons (pe_lc (own := [("place", 5)]) (g := gName 5) rfl sc_ruled.nd (pi_any2 rfl (fr_range T) (pa_cons (pv 3) (pa_cons (pv 4) pa_nil))) (blkOk_by (own := [("place", 5)]) (N := n_ruled) (sc := defScope s_ruled) (by decide +kernel)) (fun _ _ _ _ _ => pg_name (i := 5) sc_ruled.nd rfl (Or.inl rfl)) (fun _ _ _ _ _ => pts_nil) (fun _ _ _ _ _ => (pe_calM (pv 2) (cl_Unlike T) (m_of T) (hr.mono (by decide)) pass0 (pa_cons (pe_calM (pv 0) (cl_Row T) (m_tells T) (hr.mono (by decide)) pass0 (pa_cons (pv 5) pa_nil)) (pa_cons (pe_calM (pv 1) (cl_Row T) (m_tells T) (hr.mono (by decide)) pass0 (pa_cons (pv 5) pa_nil)) pa_nil))))) pa_nil)))), ?_⟩
  refine by_run (ds := [.row F, .row G, .obj (He.ga K "Unlike"), di a, di b]) (d := .tup (dcs (cells (wv [F, G] ruU) a (b - a).toNat))) i (Nat.le_of_ble_eq_true rfl) ?_ q
  exact run_ret (evd_is (evd_cb (evl_cons (evd_lcR2 (fun k => dc (wv [F, G] ruU (a + (k : Int)))) (evl_cons (evd_var rfl) (evl_cons (evd_var rfl) evl_nil)) h3 (fun k hk => (evd_methO (evd_var rfl) (evl_cons (evd_meth rowF_tells (evd_var rfl) (evl_cons (evd_var rfl) evl_nil) (sd_D (F, a + (k : Int)) h1)) (evl_cons (evd_meth rowF_tells (evd_var rfl) (evl_cons (evd_var rfl) evl_nil) (sd_D (G, a + (k : Int)) h2)) evl_nil)) (sd_D (F.at (a + (k : Int)), G.at (a + (k : Int))) trivial))) (fun _ _ => rfl)) evl_nil) dc_tupL) (by rw [dcs_cells])) rfl
theorem c_is_round : Cal P w K mg base CX0 1 "is_round" (spIsRound K) := by
  obtain ⟨fd, F⟩ := fd_is_round T
  refine ⟨⟨fd, ["row"], fn0 F sc_is_round (spD_len fun _ => rfl) (fun cdv A outer s H vs Q E hr h => ?_), gl_is_round T, F.kp, F.bindsN (fun _ _ _ _ _ _ us hl => match us, hl with | [_], _ => rfl)⟩⟩
  obtain ⟨F, i, _, q⟩ := h
  refine ⟨_, (pss_one (ps_ret (pe_and (pe_cmpR (op_eqD hr.units) (pe_fld (pv 0) rfl) (pe_tup pa_nil) (nomark _)) (pe_one (pe_cmpR (op_eqD hr.units) (pe_fld (pv 0) rfl) (pe_fld (pv 0) rfl) (nomark _)))))), ?_⟩
  refine by_run (ds := [.row F]) (d := db (rndB F)) i (Nat.le_of_ble_eq_true rfl) ?_ q
  exact run_ret (evd_and (evd_op (evd_middle (rc T) (evd_var rfl)) (evd_tup evl_nil (Nat.le_of_ble_eq_true rfl)) (d2_eqTs (ys := []))) fun h => (evd_op (evd_left (rc T) (evd_var rfl)) (evd_right (rc T) (evd_var rfl)) d2_eqTs)) rfl
theorem c_marked_value : Cal P w K mg base CX0 1 "marked_value" (spMarked K) := by
  obtain ⟨fd, F⟩ := fd_marked_value T
  refine ⟨⟨fd, ["values"], fn0 F sc_marked_value (spD_len fun _ => rfl) (fun cdv A outer s H vs Q E hr h => ?_), gl_marked_value T, F.kp, F.bindsN (fun _ _ _ _ _ _ us hl => match us, hl with | [_], _ => rfl)⟩⟩
  obtain ⟨⟨a, b⟩, i, _, q⟩ := h
  refine ⟨_, (pss_cons (ps_asg (pv 0) (pg_lst rfl (pgs_cons (pg_name (i := 1) sc_marked_value.nd rfl (Or.inl rfl)) (pgs_cons (pg_name (i := 2) sc_marked_value.nd rfl (Or.inl rfl)) pgs_nil))))
      (pss_one (ps_ret (pe_ifExp (pt_cmpR op_isNo (pv 1) pe_non (nomark _)) pe_non (pv 2))))), ?_⟩
  refine by_run (ds := [.lst [dc a, dc b]]) (d := dc (ruM [a, b])) i (Nat.le_of_ble_eq_true rfl) ?_ q
  refine run_seq (run_unL (is := [1, 2]) (evd_var rfl) rfl rfl ?_)
  refine run_ret (evd_if (evb_test (evd_op (evd_var rfl) evd_c d2_isNo)) (fun h => ?_) (fun h => ?_)) rfl
  · have h := of_decide_eq_true h
    have : a = none := by cases a with | none => rfl | some i => cases h
    subst this
    exact evd_c
  · have h := of_decide_eq_false h
    have : a ≠ none := fun z => h (by rw [z]; rfl)
    refine evd_is (evd_var rfl) ?_
    show dc b = dc (if a = none then none else b)
    rw [if_neg this]
theorem c_changed_value : Cal P w K mg base CX0 1 "changed_value" (spChanged K) := by
  obtain ⟨fd, F⟩ := fd_changed_value T
  refine ⟨⟨fd, ["values"], fn0 F sc_changed_value (spD_len fun _ => rfl) (fun cdv A outer s H vs Q E hr h => ?_), gl_changed_value T, F.kp, F.bindsN (fun _ _ _ _ _ _ us hl => match us, hl with | [_], _ => rfl)⟩⟩
  obtain ⟨⟨a, b, c⟩, i, _, q⟩ := h
  refine ⟨_, (pss_cons (ps_asg (pv 0) (pg_lst rfl (pgs_cons (pg_name (i := 1) sc_changed_value.nd rfl (Or.inl rfl)) (pgs_cons (pg_name (i := 2) sc_changed_value.nd rfl (Or.inl rfl)) (pgs_cons (pg_name (i := 3) sc_changed_value.nd rfl (Or.inl rfl)) pgs_nil)))))
      (pss_one (ps_ret (pe_ifExp (pt_cmpR op_isNo (pv 2) pe_non (nomark _)) (pv 1) (pv 3))))), ?_⟩
  refine by_run (ds := [.lst [dc a, dc b, dc c]]) (d := dc (ruC [a, b, c])) i (Nat.le_of_ble_eq_true rfl) ?_ q
  refine run_seq (run_unL (is := [1, 2, 3]) (evd_var rfl) rfl rfl ?_)
  refine run_ret (evd_if (evb_test (evd_op (evd_var rfl) evd_c d2_isNo)) (fun h => ?_) (fun h => ?_)) rfl
  · have h := of_decide_eq_true h
    have : b = none := by cases b with | none => rfl | some i => cases h
    subst this
    exact evd_var rfl
  · have h := of_decide_eq_false h
    have : b ≠ none := fun z => h (by rw [z]; rfl)
    refine evd_is (evd_var rfl) ?_
    show dc c = dc (if b = none then a else c)
    rw [if_neg this]
end
end Fx

/-! FwA4: joined, woven, patches, whole. -/
namespace Fx
open PySem PySem.Spec PyProof.Rows L2 Fw
theorem lenL2 (F G : Fm) : lenL [F, G] = lcmL ([F.l, G.l].map List.length) := rfl
theorem lenR2 (F G : Fm) : lenR [F, G] = lcmL ([F.r, G.r].map List.length) := rfl
/-- the rules that woven is given -/
def ruleN : Bool → Str
  | true => "marked_value"
  | false => "changed_value"
def ruleF : Bool → List C → C
  | true => ruM
  | false => ruC
def ruleK : Bool → Nat
  | true => 2
  | false => 3
section
variable {P : Program} {w : World} {K : PySem.W.Frag} {mg : Str → Option Value} {base : Heap} (T : Tt K mg)
noncomputable def spWoven (K : PySem.W.Frag) : Sp := spE (tx K) (XT K) (fun a : Bool × List Fm => [.lst (a.2.map De.row), .v (.ref (He.ga K (ruleN a.1)))]) (fun a => (∀ F ∈ a.2, okRow F) ∧ a.2.length = ruleK a.1 ∧ hiF a.2 - loF a.2 ≤ 4000) (fun a => (wov a.2 (ruleF a.1)).map De.row)
noncomputable def ptM (F G : Fm) : Fm := plf (wv [F, G] ruU)
noncomputable def ptN (F G : Fm) : Fm := plf (wv [ptM F G, G] ruM)
noncomputable def spPatchOf (K : PySem.W.Frag) : Sp := spE (tx K) (XT K) (fun a : Fm × Fm => [.row a.1, .row a.2]) (fun a => okRow a.1 ∧ okRow a.2 ∧ hiF [a.1, a.2] - loF [a.1, a.2] ≤ 4000 ∧ (TooB [a.1, a.2] = false → hiF [ptM a.1 a.2, a.2] - loF [ptM a.1 a.2, a.2] ≤ 4000)) (fun a => if TooB [a.1, a.2] = true then none else some (.tup [.row (ptM a.1 a.2), .row (ptN a.1 a.2)]))
noncomputable def spPatched (K : PySem.W.Frag) : Sp := spD (tx K) (fun a : Fm × Fm × Fm => [.row a.1, .tup [.row a.2.1, .row a.2.2]]) (fun a => okRow a.1 ∧ okRow a.2.1 ∧ okRow a.2.2 ∧ hiF [a.1, a.2.1, a.2.2] - loF [a.1, a.2.1, a.2.2] ≤ 4000 ∧ TooB [a.1, a.2.1, a.2.2] = false) (fun a => .row (plf (wv [a.1, a.2.1, a.2.2] ruC)))
theorem wov_some {Fs : List Fm} {rule : List C → C} (h : TooB Fs = false) : wov Fs rule = some (plf (wv Fs rule)) := by
  unfold wov; rw [if_neg (by rw [h]; exact Bool.false_ne_true)]
theorem wov_none {Fs : List Fm} {rule : List C → C} (h : TooB Fs = true) : wov Fs rule = none := by
  unfold wov; rw [if_pos h]
theorem too_iff {Fs : List Fm} : TooB Fs = false ↔ lenL Fs ≤ 4000 ∧ lenR Fs ≤ 4000 := by
  unfold TooB
  rw [Bool.or_eq_false_iff, decide_eq_false_iff_not, decide_eq_false_iff_not]
  omega
/-- a woven row is a row of the kind that is kept -/
theorem okRow_wv {Fs : List Fm} (h : ∀ F ∈ Fs, Pl F) (rule : List C → C) (hb : TooB Fs = false) (hw : hiF Fs - loF Fs ≤ 4000) : okRow (plf (wv Fs rule)) := by
  obtain ⟨h1, h2, h3, h4, h5, _⟩ := wv_plf h rule
  obtain ⟨b1, b2⟩ := too_iff.mp hb
  have c1 := Nat.le_of_dvd (lenL_pos h) h3
  have c2 := Nat.le_of_dvd (lenR_pos h) h4
  exact ⟨h1, h1.ok.l0, by omega, by omega, h1.ok.r0, by omega⟩
theorem too_pt {F G : Fm} (hF : Pl F) (hG : Pl G) (h : TooB [F, G] = false) : TooB [ptM F G, G] = false := by
  have hp : ∀ A ∈ [F, G], Pl A := fun A hA => by simp at hA; rcases hA with rfl | rfl <;> assumption
  obtain ⟨h1, h2, h3, h4, _⟩ := wv_plf hp ruU
  obtain ⟨b1, b2⟩ := too_iff.mp h
  refine too_iff.mpr ⟨?_, ?_⟩
  · refine Nat.le_trans (Nat.le_of_dvd (lenL_pos hp) (lcmL_dvd fun n hn => ?_)) b1
    simp at hn
    rcases hn with rfl | rfl
    · exact h3
    · exact dvd_lcmL (by simp)
  · refine Nat.le_trans (Nat.le_of_dvd (lenR_pos hp) (lcmL_dvd fun n hn => ?_)) b2
    simp at hn
    rcases hn with rfl | rfl
    · exact h4
    · exact dvd_lcmL (by simp)
include T
theorem c_all_joined : Cal P w K mg base (L2.CX P w) 7 "all_joined" (spAllj K) := by
  obtain ⟨fd, F⟩ := fd_all_joined T
  refine ⟨⟨fd, ["one", "other", "rule"], fnX F sc_all_joined (spE_len fun _ => rfl) (fun cdv A outer s H vs Q E hr h => ?_), gl_all_joined T, F.kp, F.bindsN (fun _ _ _ _ _ _ us hl => match us, hl with | [_, _, _], _ => rfl)⟩⟩
  obtain ⟨⟨F, G⟩, i, ⟨⟨pF, fF⟩, ⟨pG, fG⟩, hw⟩, q⟩ := h
  refine ⟨_, (pss_cons (ps_set (i := 3) sc_all_joined.nd rfl (Or.inl rfl) (pe_cal (c_plain T) (hr.mono (by decide)) rfl pass0 (pa_cons (pv 0) pa_nil)))
      (pss_cons (ps_set (i := 4) sc_all_joined.nd rfl (Or.inl rfl) (pe_cal (c_plain T) (hr.mono (by decide)) rfl pass0 (pa_cons (pv 1) pa_nil)))
      (pss_cons (ps_set (i := 5) sc_all_joined.nd rfl (Or.inl rfl) (pe_cal (c_common_round T) (hr.mono (by decide)) rfl (passes_call (takes_of rfl rfl rfl rfl) (fun _ _ _ _ h => h)) (pa_cons (pe_lst (pa_cons (pe_fld (pv 3) rfl) (pa_cons (pe_fld (pv 4) rfl) pa_nil))) pa_nil)))
      (pss_cons (ps_set (i := 6) sc_all_joined.nd rfl (Or.inl rfl) (pe_cal (c_common_round T) (hr.mono (by decide)) rfl (passes_call (takes_of rfl rfl rfl rfl) (fun _ _ _ _ h => h)) (pa_cons (pe_lst (pa_cons (pe_fld (pv 3) rfl) (pa_cons (pe_fld (pv 4) rfl) pa_nil))) pa_nil)))
      (pss_cons (ps_set (i := 7) sc_all_joined.nd rfl (Or.inl rfl) (pe_orT (pe_op op_cat (pe_cal (c_own_ends T) (hr.mono (by decide)) rfl pass0 (pa_cons (pv 3) pa_nil)) (pe_cal (c_own_ends T) (hr.mono (by decide)) rfl pass0 (pa_cons (pv 4) pa_nil))) (pe_one (pe_lst (pa_cons pe_int pa_nil)))))
      (pss_cons (ps_par (i := 8) (j := 9) (by rfl) sc_all_joined.nd rfl rfl (by decide) rfl rfl (pa_cons (pe_callB (cr_min rfl) (by rfl) (fr_min T) (by decide +kernel) (pa_cons (pv 7) pa_nil)) (pa_cons (pe_callB (cr_max rfl) (by rfl) (fr_max T) (by decide +kernel) (pa_cons (pv 7) pa_nil)) pa_nil)) (by rfl))
      (pss_cons (ps_set (i := 10) sc_all_joined.nd rfl (Or.inl rfl) (pe_cal (c_ruled T) (hr.mono (by decide)) rfl pass0 (pa_cons (pv 3) (pa_cons (pv 4) (pa_cons (pv 2) (pa_cons (pe_op op_sub (pv 8) (pv 5)) (pa_cons (pv 8) pa_nil)))))))
      (pss_cons (ps_set (i := 11) sc_all_joined.nd rfl (Or.inl rfl) (pe_cal (c_ruled T) (hr.mono (by decide)) rfl pass0 (pa_cons (pv 3) (pa_cons (pv 4) (pa_cons (pv 2) (pa_cons (pv 8) (pa_cons (pv 9) pa_nil)))))))
      (pss_one (ps_ret (pe_cal (c_spread T) (hr.mono (by decide)) rfl pass0 (pa_cons (pv 10) (pa_cons (pv 11) (pa_cons (pv 8) (pa_cons (pe_cal (c_ruled T) (hr.mono (by decide)) rfl pass0 (pa_cons (pv 3) (pa_cons (pv 4) (pa_cons (pv 2) (pa_cons (pv 9) (pa_cons (pe_op op_add (pv 9) (pv 6)) pa_nil)))))) pa_nil))))))))))))))), ?_⟩
  refine by_rune (ds := [.row F, .row G, .obj (He.ga K "Unlike")]) (o := if TooB [F, G] = true then none else some (.row (sprd [F, G] ruU))) i (Nat.le_of_ble_eq_true rfl) ?_ q
  dsimp only at pF fF pG fG hw
  have hp : ∀ A ∈ [F, G], Pl A := fun A hA => by simp at hA; rcases hA with rfl | rfl <;> assumption
  refine rune_seq (run_ex (d' := .row F) (evd_call (evl_cons (evd_var rfl) evl_nil) (sd_D F fF)) (by rw [pF.plf]) ?_)
  refine rune_seq (run_ex (d' := .row G) (evd_call (evl_cons (evd_var rfl) evl_nil) (sd_D G fG)) (by rw [pG.plf]) ?_)
  have hl : ∀ a ∈ [F.l, G.l], a ≠ [] ∧ a.length ≤ 4000 := fun a ha => by
    simp at ha; rcases ha with rfl | rfl
    · exact ⟨fF.l1, fF.l2⟩
    · exact ⟨fG.l1, fG.l2⟩
  have hr' : ∀ a ∈ [F.r, G.r], a ≠ [] ∧ a.length ≤ 4000 := fun a ha => by
    simp at ha; rcases ha with rfl | rfl
    · exact ⟨fF.r1, fF.r2⟩
    · exact ⟨fG.r1, fG.r2⟩
  by_cases hL : lenL [F, G] > 4000
  · have hT : TooB [F, G] = true := by unfold TooB; rw [decide_eq_true hL]; rfl
    rw [if_pos hT]
    exact rune_x (runx_1 (runx_asg (evx_call (evl_cons (evd_lst (evl_cons (evd_left (rc T) (evd_var rfl)) (evl_cons (evd_left (rc T) (evd_var rfl)) evl_nil)) (Nat.le_of_ble_eq_true rfl)) evl_nil) (sx_E [F.l, G.l] hl (by rw [← lenL2, if_pos hL])))))
  refine rune_seq (run_asg (evd_call (evl_cons (evd_lst (evl_cons (evd_left (rc T) (evd_var rfl)) (evl_cons (evd_left (rc T) (evd_var rfl)) evl_nil)) (Nat.le_of_ble_eq_true rfl)) evl_nil) (sd_E (d := di (lenL [F, G] : Nat)) [F.l, G.l] hl (by rw [← lenL2, if_neg hL]))) ?_)
  by_cases hR : lenR [F, G] > 4000
  · have hT : TooB [F, G] = true := by unfold TooB; rw [decide_eq_true hR, Bool.or_true]
    rw [if_pos hT]
    exact rune_x (runx_1 (runx_asg (evx_call (evl_cons (evd_lst (evl_cons (evd_right (rc T) (evd_var rfl)) (evl_cons (evd_right (rc T) (evd_var rfl)) evl_nil)) (Nat.le_of_ble_eq_true rfl)) evl_nil) (sx_E [F.r, G.r] hr' (by rw [← lenR2, if_pos hR])))))
  refine rune_seq (run_asg (evd_call (evl_cons (evd_lst (evl_cons (evd_right (rc T) (evd_var rfl)) (evl_cons (evd_right (rc T) (evd_var rfl)) evl_nil)) (Nat.le_of_ble_eq_true rfl)) evl_nil) (sd_E (d := di (lenR [F, G] : Nat)) [F.r, G.r] hr' (by rw [← lenR2, if_neg hR]))) ?_)
  have hT : TooB [F, G] = false := too_iff.mpr ⟨by omega, by omega⟩
  rw [if_neg (by rw [hT]; exact Bool.false_ne_true)]
  have ne : ∀ xs : List Int, (if xs = [] then [0] else xs) ≠ [] := fun xs => by split <;> simp_all
  refine rune_run (run_seq (run_ex (d' := .lst ((if ownE F ++ ownE G = [] then [0] else ownE F ++ ownE G).map di)) (evd_orL (es := [di 0]) (evd_op (evd_call (evl_cons (evd_var rfl) evl_nil) (sd_D F trivial)) (evd_call (evl_cons (evd_var rfl) evl_nil) (sd_D G trivial)) (d2_cat (by
    have h1 : ∀ A : Fm, (ownE A).length ≤ 2 := fun A => by unfold ownE; split <;> simp
    have a1 := h1 F
    have a2 := h1 G
    rw [List.length_map, List.length_map]
    omega))) (fun h => (evd_lst (evl_cons evd_c evl_nil) (Nat.le_of_ble_eq_true rfl)))) (by
      rw [← List.map_append]
      by_cases z : ownE F ++ ownE G = []
      · rw [if_pos (by rw [z]; rfl), if_pos z]; rfl
      · rw [if_neg (fun y => z (List.map_eq_nil_iff.mp y)), if_neg z]) ?_))
  obtain ⟨e1, e2⟩ := ends_lo pF pG
  refine run_seq (run_par (a := di (loF [F, G])) (b := di (hiF [F, G])) (evl_cons (evd_is (evd_cb (evl_cons (evd_var rfl) evl_nil) (dc_min (ne _))) (by rw [e1])) (evl_cons (evd_is (evd_cb (evl_cons (evd_var rfl) evl_nil) (dc_max (ne _))) (by rw [e2])) evl_nil)) ?_)
  have lh := lo_le_hi [F, G]
  refine run_seq (run_ex (d' := .tup (dcs (sprd [F, G] ruU).l)) (evd_call (evl_cons (evd_var rfl) (evl_cons (evd_var rfl) (evl_cons (evd_var rfl) (evl_cons (evd_op (evd_var rfl) (evd_var rfl) d2_I0) (evl_cons (evd_var rfl) evl_nil))))) (sd_D (F, G, loF [F, G] - (lenL [F, G] : Nat), loF [F, G]) ⟨pF.ok, pG.ok, by show loF [F, G] - (loF [F, G] - (lenL [F, G] : Nat)) ≤ 100000; omega⟩)) (by
    show De.tup (dcs (cells _ _ (loF [F, G] - (loF [F, G] - (lenL [F, G] : Nat))).toNat)) = _
    rw [show (loF [F, G] - (loF [F, G] - ((lenL [F, G] : Nat) : Int))).toNat = lenL [F, G] by omega]; rfl) ?_)
  refine run_seq (run_ex (d' := .tup (dcs (sprd [F, G] ruU).m)) (evd_call (evl_cons (evd_var rfl) (evl_cons (evd_var rfl) (evl_cons (evd_var rfl) (evl_cons (evd_var rfl) (evl_cons (evd_var rfl) evl_nil))))) (sd_D (F, G, loF [F, G], hiF [F, G]) ⟨pF.ok, pG.ok, by show hiF [F, G] - loF [F, G] ≤ 100000; omega⟩)) rfl ?_)
  have sf := sprd_fit hp ruU hT hw
  refine run_ret (evd_call (evl_cons (evd_var rfl) (evl_cons (evd_var rfl) (evl_cons (evd_var rfl) (evl_cons (evd_is (evd_call (evl_cons (evd_var rfl) (evl_cons (evd_var rfl) (evl_cons (evd_var rfl) (evl_cons (evd_var rfl) (evl_cons (evd_op (evd_var rfl) (evd_var rfl) d2_I0) evl_nil))))) (sd_D (F, G, hiF [F, G], hiF [F, G] + (lenR [F, G] : Nat)) ⟨pF.ok, pG.ok, by show hiF [F, G] + (lenR [F, G] : Nat) - hiF [F, G] ≤ 100000; omega⟩)) (by
    show De.tup (dcs (cells _ _ (hiF [F, G] + (lenR [F, G] : Nat) - hiF [F, G]).toNat)) = .tup (dcs (sprd [F, G] ruU).r)
    rw [show (hiF [F, G] + ((lenR [F, G] : Nat) : Int) - hiF [F, G]).toNat = lenR [F, G] by omega]; rfl)) evl_nil)))) (sd_D ((false, false, false), sprd [F, G] ruU) ⟨sf.1, sf.2.1, Nat.zero_le _, sf.2.2.2.1, sf.2.2.2.2⟩)) rfl
theorem c_joined : Cal P w K mg base (L2.CX P w) 8 "joined" (spJoined K) := by
  obtain ⟨fd, F⟩ := fd_joined T
  refine ⟨⟨fd, ["one", "other", "rule"], fnX F sc_joined (spE_len fun _ => rfl) (fun cdv A outer s H vs Q E hr h => ?_), gl_joined T, F.kp, F.bindsN (fun _ _ _ _ _ _ us hl => match us, hl with | [_, _, _], _ => rfl)⟩⟩
  obtain ⟨⟨F, G⟩, i, ⟨hF, hG, hw⟩, q⟩ := h
  refine ⟨_, (pss_one (ps_ret (pe_cal (c_plain T) (hr.mono (by decide)) rfl pass0 (pa_cons (pe_cal (c_all_joined T) (hr.mono (by decide)) rfl (passes_call (takes_of rfl rfl rfl rfl) (fun _ _ _ _ h => h)) (pa_cons (pv 0) (pa_cons (pv 1) (pa_cons (pv 2) pa_nil)))) pa_nil)))), ?_⟩
  refine by_rune (ds := [.row F, .row G, .obj (He.ga K "Unlike")]) (o := (wov [F, G] ruU).map De.row) i (Nat.le_of_ble_eq_true rfl) ?_ q
  dsimp only at hF hG hw
  have hp : ∀ A ∈ [F, G], Pl A := fun A hA => by
    simp at hA; rcases hA with rfl | rfl
    · exact hF.1
    · exact hG.1
  cases hT : TooB [F, G] with
  | true =>
    rw [wov_none hT]
    exact rune_x (runx_ret (evx_args (elx_here (evx_call (evl_cons (evd_var rfl) (evl_cons (evd_var rfl) (evl_cons (evd_var rfl) evl_nil))) (sx_E (F, G) ⟨hF, hG, hw⟩ (by rw [if_pos hT]))))))
  | false =>
    rw [wov_some hT]
    have sf := sprd_fit hp ruU hT hw
    exact rune_run (run_ret (evd_is (evd_call (evl_cons (evd_call (evl_cons (evd_var rfl) (evl_cons (evd_var rfl) (evl_cons (evd_var rfl) evl_nil))) (sd_E (d := .row (sprd [F, G] ruU)) (F, G) ⟨hF, hG, hw⟩ (by rw [if_neg (by rw [hT]; exact Bool.false_ne_true)]))) evl_nil) (sd_D (sprd [F, G] ruU) ⟨sf.1, sf.2.1, sf.2.2.1, sf.2.2.2.1, sf.2.2.2.2⟩)) (by rw [sprd_at hp])) rfl)
theorem c_unlike : Cal P w K mg base (L2.CX P w) 9 "unlike" (spUnlike K) := by
  obtain ⟨fd, F⟩ := fd_unlike T
  refine ⟨⟨fd, ["one", "other"], fnX F sc_unlike (spE_len fun _ => rfl) (fun cdv A outer s H vs Q E hr h => ?_), gl_unlike T, F.kp, F.bindsN (fun _ _ _ _ _ _ us hl => match us, hl with | [_, _], _ => rfl)⟩⟩
  obtain ⟨⟨F, G⟩, i, ⟨hF, hG, hw⟩, q⟩ := h
  refine ⟨_, (pss_one (ps_ret (pe_cal (c_joined T) (hr.mono (by decide)) rfl (passes_call (takes_of rfl rfl rfl rfl) (fun _ _ _ _ h => h)) (pa_cons (pv 0) (pa_cons (pv 1) (pa_cons (pe_new0 (mk_Unlike T) rfl (gl_Unlike T)) pa_nil)))))), ?_⟩
  refine by_rune (ds := [.row F, .row G]) (o := (wov [F, G] ruU).map De.row) i (Nat.le_of_ble_eq_true rfl) ?_ q
  dsimp only at hF hG hw
  cases hT : TooB [F, G] with
  | true =>
    rw [wov_none hT]
    exact rune_x (runx_ret (evx_call (evl_cons (evd_var rfl) (evl_cons (evd_var rfl) (evl_cons evd_new0 evl_nil))) (sx_E (F, G) ⟨hF, hG, hw⟩ (by rw [wov_none hT]; rfl))))
  | false =>
    rw [wov_some hT]
    exact rune_run (run_ret (evd_call (evl_cons (evd_var rfl) (evl_cons (evd_var rfl) (evl_cons evd_new0 evl_nil))) (sd_E (d := .row (plf (wv [F, G] ruU))) (F, G) ⟨hF, hG, hw⟩ (by rw [wov_some hT]; rfl))) rfl)
end
end Fx

/-! FwA5: woven, patch_of, patched. -/
namespace Fx
open PySem PySem.Spec PyProof.Rows L2 Fw
section
variable {P : Program} {w : World} {K : PySem.W.Frag} {mg : Str → Option Value} {base : Heap} (T : Tt K mg)
def spRule (K : PySem.W.Frag) : Bool → Sp
  | true => spMarked K
  | false => spChanged K
theorem sd_rule {b : Bool} {Fs : List Fm} {E : XK} (h : Fs.length = ruleK b) (p : Int) : SD (tx K) (spRule K b) [.lst (Fs.map fun F => dc (F.at p))] (dc (wv Fs (ruleF b) p)) E := by
  cases b with
  | true =>
    match Fs, h with
    | [F, G], _ => exact sd_D (F.at p, G.at p) trivial
  | false =>
    match Fs, h with
    | [F, G, J], _ => exact sd_D (F.at p, G.at p, J.at p) trivial
include T
theorem c_rule (b : Bool) : Cal P w K mg base CX0 1 (ruleN b) (spRule K b) := by
  cases b with
  | true => exact c_marked_value T
  | false => exact c_changed_value T
theorem c_woven : Cal P w K mg base (L2.CX P w) 8 "woven" (spWoven K) := by
  obtain ⟨fd, F⟩ := fd_woven T
  refine ⟨⟨fd, ["rows", "rule"], fnX F sc_woven (spE_len fun _ => rfl) (fun cdv A outer s H vs Q E hr h => ?_), gl_woven T, F.kp, F.bindsN (fun _ _ _ _ _ _ us hl => match us, hl with | [_, _], _ => rfl)⟩⟩
  obtain ⟨⟨b, Fs⟩, i, ⟨hF, hk, hw⟩, q⟩ := h
  refine ⟨_, (pss_cons (ps_setLc (i := 2) (own := [("row", 11)]) (g := gName 11) rfl sc_woven.nd rfl rfl (sw_true rfl rfl rfl (by decide +kernel)) (pi_list (pv 0)) (blkOk_by (own := [("row", 11)]) (N := n_woven) (sc := defScope s_woven) (by decide +kernel)) (fun _ _ _ _ _ => pg_name (i := 11) sc_woven.nd rfl (Or.inl rfl)) (fun _ _ _ _ _ => pts_nil) (fun _ _ _ _ _ => (pe_cal (c_plain T) (hr.mono (by decide)) rfl pass0 (pa_cons (pv 11) pa_nil))))
      (pss_cons (ps_set (i := 3) sc_woven.nd rfl (Or.inl rfl) (pe_cal (c_common_times T) (hr.mono (by decide)) rfl pass0 (pa_cons (pe_lc (own := [("row", 11)]) (g := gName 11) rfl sc_woven.nd (pi_list (pv 2)) (blkOk_by (own := [("row", 11)]) (N := n_woven) (sc := defScope s_woven) (by decide +kernel)) (fun _ _ _ _ _ => pg_name (i := 11) sc_woven.nd rfl (Or.inl rfl)) (fun _ _ _ _ _ => pts_nil) (fun _ _ _ _ _ => (pe_callB (r := rLenS K) call_lenS (by rfl) (fr_len T) PySem.boot_len (pa_cons (pe_fldK (K := K) rfl (pv 11) (by rfl)) pa_nil)))) pa_nil)))
      (pss_cons (ps_set (i := 4) sc_woven.nd rfl (Or.inl rfl) (pe_cal (c_common_times T) (hr.mono (by decide)) rfl pass0 (pa_cons (pe_lc (own := [("row", 11)]) (g := gName 11) rfl sc_woven.nd (pi_list (pv 2)) (blkOk_by (own := [("row", 11)]) (N := n_woven) (sc := defScope s_woven) (by decide +kernel)) (fun _ _ _ _ _ => pg_name (i := 11) sc_woven.nd rfl (Or.inl rfl)) (fun _ _ _ _ _ => pts_nil) (fun _ _ _ _ _ => (pe_callB (r := rLenS K) call_lenS (by rfl) (fr_len T) PySem.boot_len (pa_cons (pe_fldK (K := K) rfl (pv 11) (by rfl)) pa_nil)))) pa_nil)))
      (pss_cons (ps_if (PW.pt (pw_or (pt_cmpR op_gt (pv 3) (pe_glob (v := .int 4000) rfl (most_eq T) ⟨_, rfl⟩) (nomark _)) (pw_or1 (pt_cmpR op_gt (pv 4) (pe_glob (v := .int 4000) rfl (most_eq T) ⟨_, rfl⟩) (nomark _))))) (pss_one (ps_raise rfl (takes_of rfl rfl rfl rfl) (pmk_own PySem.F.excBase_ValueError (ex_TooMany T) (gl_TooMany T) (ke_TooMany T) (rs_TooMany T) rfl))) pss_nil)
      (pss_cons (ps_setLc (i := 5) (own := [("row", 11)]) (g := gName 11) rfl sc_woven.nd rfl rfl (sw_true rfl rfl rfl (by decide +kernel)) (pi_list (pv 2)) (blkOk_by (own := [("row", 11)]) (N := n_woven) (sc := defScope s_woven) (by decide +kernel)) (fun _ _ _ _ _ => pg_name (i := 11) sc_woven.nd rfl (Or.inl rfl)) (fun _ _ _ _ _ => pts_one (pt_not (pt_val (pe_cal (c_is_round T) (hr.mono (by decide)) rfl pass0 (pa_cons (pv 11) pa_nil))))) (fun _ _ _ _ _ => (pv 11)))
      (pss_cons (ps_set (i := 6) sc_woven.nd rfl (Or.inl rfl) (pe_minD rfl (hu2 hr) rfl (fr_min T) (pe_lc (own := [("row", 11)]) (g := gName 11) rfl sc_woven.nd (pi_list (pv 5)) (blkOk_by (own := [("row", 11)]) (N := n_woven) (sc := defScope s_woven) (by decide +kernel)) (fun _ _ _ _ _ => pg_name (i := 11) sc_woven.nd rfl (Or.inl rfl)) (fun _ _ _ _ _ => pts_nil) (fun _ _ _ _ _ => (pe_fldK (K := K) rfl (pv 11) (by rfl))))))
      (pss_cons (ps_set (i := 7) sc_woven.nd rfl (Or.inl rfl) (pe_maxD rfl (hu2 hr) rfl (fr_max T) (pe_lc (own := [("row", 11)]) (g := gName 11) rfl sc_woven.nd (pi_list (pv 5)) (blkOk_by (own := [("row", 11)]) (N := n_woven) (sc := defScope s_woven) (by decide +kernel)) (fun _ _ _ _ _ => pg_name (i := 11) sc_woven.nd rfl (Or.inl rfl)) (fun _ _ _ _ _ => pts_nil) (fun _ _ _ _ _ => (pe_op op_add (pe_fldK (K := K) rfl (pv 11) (by rfl)) (pe_callB (r := rLenS K) call_lenS (by rfl) (fr_len T) PySem.boot_len (pa_cons (pe_fldK (K := K) rfl (pv 11) (by rfl)) pa_nil)))))))
      (pss_cons (ps_set (i := 8) sc_woven.nd rfl (Or.inl rfl) (pe_lst pa_nil))
      (pss_cons (ps_for (passes_of rfl) rfl (pi_any2 rfl (fr_range T) (pa_cons (pe_op op_sub (pv 6) (pv 3)) (pa_cons (pe_op op_add (pv 7) (pv 4)) pa_nil))) (pg_name (i := 9) sc_woven.nd rfl (Or.inr rfl)) (pss_one (ps_expr (pe_bm PySem.F.plainAttrs_list PySem.F.slot_list_append PySem.F.type_list_append mt_append (pv 8) (pa_cons (pe_calL (i := 1) (c_rule T b) (hr.mono (by decide)) rfl (Or.inl rfl) pass0 (pa_cons (pe_lc (own := [("row", 11)]) (g := gName 11) rfl sc_woven.nd (pi_list (pv 2)) (blkOk_by (own := [("row", 11)]) (N := n_woven) (sc := defScope s_woven) (by decide +kernel)) (fun _ _ _ _ _ => pg_name (i := 11) sc_woven.nd rfl (Or.inl rfl)) (fun _ _ _ _ _ => pts_nil) (fun _ _ _ _ _ => (pe_calM (pv 11) (cl_Row T) (m_tells T) (hr.mono (by decide)) pass0 (pa_cons (pv 9) pa_nil)))) pa_nil)) pa_nil)))))
      (pss_cons (ps_set (i := 10) sc_woven.nd rfl (Or.inl rfl) (pe_op op_sub (pe_op op_add (pv 3) (pv 7)) (pv 6)))
      (pss_one (ps_ret (pe_cal (c_laid T) (hr.mono (by decide)) rfl pass0 (pa_cons (pe_slice sl_list (pv 8) po_none (po_some (pv 3))) (pa_cons (pe_slice sl_list (pv 8) (po_some (pv 3)) (po_some (pv 10))) (pa_cons (pv 6) (pa_cons (pe_slice sl_list (pv 8) (po_some (pv 10)) po_none) pa_nil))))))))))))))))), ?_⟩
  refine by_rune (ds := [.lst (Fs.map De.row), .v (.ref (He.ga K (ruleN b)))]) (o := (wov Fs (ruleF b)).map De.row) i (Nat.le_of_ble_eq_true rfl) ?_ q
  dsimp only at hF hk hw
  have hp : ∀ A ∈ Fs, Pl A := fun A hA => (hF A hA).1
  have hz : Fs.length ≤ 3 := by rw [hk]; cases b <;> decide
  refine rune_seq (run_ex (d' := .lst (Fs.map De.row)) (evd_lcL Fs De.row (fun F => .row (plf F.at)) (evd_var rfl) (by omega) (fun x hx => (evd_call (evl_cons (evd_var rfl) evl_nil) (sd_D x (hF x hx).2))) (fun _ _ => rfl)) (by
    congr 1
    exact List.map_congr_left fun F hx => by rw [(hp F hx).plf]) ?_)
  refine rune_seq (run_ex (d' := di (lenL Fs : Nat)) (evd_call (evl_cons (evd_lcL Fs De.row (fun F => di (F.l.length : Int)) (evd_var rfl) (by omega) (fun x hx => (evd_is (evd_cb (evl_cons (evd_left (rc T) (evd_var rfl)) evl_nil) dc_lenT) (by rw [dcs_len]))) (fun _ _ => rfl)) evl_nil) (by
    have z := sd_D (T := tx K) (args := fun ns : List Nat => [.lst (ns.map fun (n : Nat) => di (n : Int))]) (pre := fun ns => ∀ n ∈ ns, 0 < n ∧ n ≤ 4000) (res := fun ns => di (lcmL ns : Nat)) (E := E0) (Fs.map fun F => F.l.length) (fun n hn => by
      obtain ⟨F, hx, rfl⟩ := List.mem_map.mp hn
      exact ⟨List.length_pos_iff.mpr (hF F hx).2.l1, (hF F hx).2.l2⟩)
    rw [List.map_map] at z
    exact z)) rfl ?_)
  refine rune_seq (run_ex (d' := di (lenR Fs : Nat)) (evd_call (evl_cons (evd_lcL Fs De.row (fun F => di (F.r.length : Int)) (evd_var rfl) (by omega) (fun x hx => (evd_is (evd_cb (evl_cons (evd_right (rc T) (evd_var rfl)) evl_nil) dc_lenT) (by rw [dcs_len]))) (fun _ _ => rfl)) evl_nil) (by
    have z := sd_D (T := tx K) (args := fun ns : List Nat => [.lst (ns.map fun (n : Nat) => di (n : Int))]) (pre := fun ns => ∀ n ∈ ns, 0 < n ∧ n ≤ 4000) (res := fun ns => di (lcmL ns : Nat)) (E := E0) (Fs.map fun F => F.r.length) (fun n hn => by
      obtain ⟨F, hx, rfl⟩ := List.mem_map.mp hn
      exact ⟨List.length_pos_iff.mpr (hF F hx).2.r1, (hF F hx).2.r2⟩)
    rw [List.map_map] at z
    exact z)) rfl ?_)
  have test : EvB (tx K) (tOr (tTest (tOp (rI0 fun i j => V.bl (decide (j < i))) (tVar 3) (tC (V.int 4000)))) (tTest (tOp (rI0 fun i j => V.bl (decide (j < i))) (tVar 4) (tC (V.int 4000))))) [some (.lst (Fs.map De.row)), some (.v (.ref (He.ga K (ruleN b)))), some (.lst (Fs.map De.row)), some (di (lenL Fs : Nat)), some (di (lenR Fs : Nat)), none, none, none, none, none, none, none] (TooB Fs) :=
    evb_is (evb_or (evb_test (evd_op (evd_var rfl) evd_c d2_I0)) fun h => (evb_test (evd_op (evd_var rfl) evd_c d2_I0))) (by unfold TooB; congr 1 <;> (rw [decide_eq_decide]; omega))
  cases hT : TooB Fs with
  | true =>
    rw [wov_none hT]
    exact rune_x (runx_1 (runx_if test (fun hb => runx_raise) (fun hb => by rw [hT] at hb; cases hb)))
  | false =>
    rw [wov_some hT]
    refine rune_run (run_seq (run_if test (fun hb => by rw [hT] at hb; cases hb) (fun hb => run_next ?_)))
    refine run_seq (run_ex (d' := .lst ((own Fs).map De.row)) (evd_lcF Fs De.row De.row (fun F => !rndB F) (evd_var rfl) (by omega) (fun x hx => evb_not (evb_val (evd_call (evl_cons (evd_var rfl) evl_nil) (sd_D x trivial)))) (fun x hx _ => evd_var rfl) (fun _ _ => rfl)) (by rw [own_eq]) ?_)
    have ho : (own Fs).length ≤ 3 := Nat.le_trans (by rw [own_eq]; exact List.length_filter_le _ _) hz
    refine run_seq (run_ex (d' := di (loF Fs)) (evd_minD (k := true) (ns := (own Fs).map fun F => F.f) (evd_is (evd_lcL (own Fs) De.row (fun F => di F.f) (evd_var rfl) (by omega) (fun x hx => (evd_first (rc T) (evd_var rfl))) (fun _ _ => rfl)) (by rw [List.map_map]; rfl))) rfl ?_)
    refine run_seq (run_ex (d' := di (hiF Fs)) (evd_minD (k := false) (ns := (own Fs).map fun F => F.e) (evd_is (evd_lcL (own Fs) De.row (fun F => di F.e) (evd_var rfl) (by omega) (fun x hx => (evd_op (evd_first (rc T) (evd_var rfl)) (evd_is (evd_cb (evl_cons (evd_middle (rc T) (evd_var rfl)) evl_nil) dc_lenT) (by rw [dcs_len])) d2_I0)) (fun _ _ => rfl)) (by rw [List.map_map]; rfl))) rfl ?_)
    have lh := lo_le_hi Fs
    obtain ⟨b1, b2⟩ := too_iff.mp hT
    have sf := sprd_fit hp (ruleF b) hT hw
    refine run_app (i := 9) (j := 8) (lo := loF Fs - (lenL Fs : Nat)) (hi := hiF Fs + (lenR Fs : Nat)) (fun k => dc (wv Fs (ruleF b) (loF Fs - (lenL Fs : Nat) + (k : Int)))) (Nat.le_of_ble_eq_true rfl) (by decide) (evl_cons (evd_op (evd_var rfl) (evd_var rfl) d2_I0) (evl_cons (evd_op (evd_var rfl) (evd_var rfl) d2_I0) evl_nil)) (by omega) (fun k hk' => ?_) (fun _ _ => rfl) ?_
    · exact evd_callL rfl (evl_cons (evd_lcL Fs De.row (fun F => dc (F.at (loF Fs - (lenL Fs : Nat) + (k : Int)))) (evd_var rfl) (by omega) (fun x hx => (evd_meth rowF_tells (evd_var rfl) (evl_cons (evd_var rfl) evl_nil) (sd_D (x, loF Fs - (lenL Fs : Nat) + (k : Int)) (hp x hx).ok))) (fun _ _ => rfl)) evl_nil) (sd_rule hk _)
    · rw [dcs_cells]
      generalize hn : (hiF Fs + ((lenR Fs : Nat) : Int) - (loF Fs - ((lenL Fs : Nat) : Int))).toNat = n
      have e1 : n = lenL Fs + (hiF Fs - loF Fs).toNat + lenR Fs := by omega
      have e2 : (lenL Fs : Int) + hiF Fs - loF Fs = ((lenL Fs + (hiF Fs - loF Fs).toNat : Nat) : Int) := by omega
      refine run_seq (run_asg (evd_op (evd_op (evd_var rfl) (evd_var rfl) d2_I0) (evd_var rfl) d2_I0) ?_)
      refine run_ret (evd_is (evd_call (evl_cons (evd_is (evd_slL (evd_var rfl) evo_no (evo_some (evd_var rfl))) (e := .lst (dcs (sprd Fs (ruleF b)).l)) ?_) (evl_cons (evd_is (evd_slL (evd_var rfl) (evo_some (evd_var rfl)) (evo_some (evd_var rfl))) (e := .lst (dcs (sprd Fs (ruleF b)).m)) ?_) (evl_cons (evd_var rfl) (evl_cons (evd_is (evd_slL (evd_var rfl) (evo_some (evd_var rfl)) evo_no) (e := .lst (dcs (sprd Fs (ruleF b)).r)) ?_) evl_nil)))) (sd_D ((true, true, true), sprd Fs (ruleF b)) ⟨sf.1, sf.2.1, sf.2.2.1, sf.2.2.2.1, sf.2.2.2.2⟩)) (by rw [sprd_at hp])) rfl
      · rw [cut_take (k := lenL Fs) (by rw [dcs_len, cells_len]; omega) rfl, dcs_take, cells_take _ _ _ _ (by omega)]
        rfl
      · rw [cut_mid (k := lenL Fs) (m := lenL Fs + (hiF Fs - loF Fs).toNat) (by rw [dcs_len, cells_len]; omega) rfl e2, dcs_drop, dcs_take, cells_drop _ _ _ _ (by omega), cells_take _ _ _ _ (by omega)]
        show De.lst (dcs (cells _ _ _)) = .lst (dcs (cells _ (loF Fs) _))
        congr 3 <;> omega
      · rw [cut_drop (k := lenL Fs + (hiF Fs - loF Fs).toNat) e2, dcs_drop, cells_drop _ _ _ _ (by omega)]
        show De.lst (dcs (cells _ _ _)) = .lst (dcs (cells _ (hiF Fs) _))
        congr 3 <;> omega
theorem c_patch_of : Cal P w K mg base (L2.CX P w) 10 "patch_of" (spPatchOf K) := by
  obtain ⟨fd, F⟩ := fd_patch_of T
  refine ⟨⟨fd, ["one", "other"], fnX F sc_patch_of (spE_len fun _ => rfl) (fun cdv A outer s H vs Q E hr h => ?_), gl_patch_of T, F.kp, F.bindsN (fun _ _ _ _ _ _ us hl => match us, hl with | [_, _], _ => rfl)⟩⟩
  obtain ⟨⟨F, G⟩, i, ⟨hF, hG, hw, hm⟩, q⟩ := h
  refine ⟨_, (pss_cons (ps_set (i := 2) sc_patch_of.nd rfl (Or.inl rfl) (pe_cal (c_unlike T) (hr.mono (by decide)) rfl (passes_call (takes_of rfl rfl rfl rfl) (fun _ _ _ _ h => h)) (pa_cons (pv 0) (pa_cons (pv 1) pa_nil))))
      (pss_one (ps_ret (pe_tup (pa_cons (pv 2) (pa_cons (pe_cal (c_woven T) (hr.mono (by decide)) rfl (passes_call (takes_of rfl rfl rfl rfl) (fun _ _ _ _ h => h)) (pa_cons (pe_lst (pa_cons (pv 2) (pa_cons (pv 1) pa_nil))) (pa_cons (pe_glob (v := .ref (He.ga K "marked_value")) rfl (gl_marked_value T) rfl) pa_nil))) pa_nil)))))), ?_⟩
  refine by_rune (ds := [.row F, .row G]) (o := if TooB [F, G] = true then none else some (.tup [.row (ptM F G), .row (ptN F G)])) i (Nat.le_of_ble_eq_true rfl) ?_ q
  dsimp only at hF hG hw hm
  have hp : ∀ A ∈ [F, G], Pl A := fun A hA => by
    simp at hA; rcases hA with rfl | rfl
    · exact hF.1
    · exact hG.1
  cases hT : TooB [F, G] with
  | true =>
    rw [if_pos rfl]
    exact rune_x (runx_1 (runx_asg (evx_call (evl_cons (evd_var rfl) (evl_cons (evd_var rfl) evl_nil)) (sx_E (F, G) ⟨hF, hG, hw⟩ (by rw [wov_none hT]; rfl)))))
  | false =>
    rw [if_neg Bool.false_ne_true]
    have oM : okRow (ptM F G) := okRow_wv hp ruU hT hw
    have hT2 := too_pt hF.1 hG.1 hT
    refine rune_run (run_seq (run_asg (evd_call (evl_cons (evd_var rfl) (evl_cons (evd_var rfl) evl_nil)) (sd_E (d := .row (ptM F G)) (F, G) ⟨hF, hG, hw⟩ (by rw [wov_some hT]; rfl))) ?_))
    refine run_ret (evd_tup (evl_cons (evd_var rfl) (evl_cons (evd_call (evl_cons (evd_lst (evl_cons (evd_var rfl) (evl_cons (evd_var rfl) evl_nil)) (Nat.le_of_ble_eq_true rfl)) (evl_cons evd_c evl_nil)) (sd_E (d := .row (ptN F G)) (true, [ptM F G, G]) ⟨fun A hA => ?_, rfl, hm hT⟩ (by show (wov [ptM F G, G] ruM).map De.row = _; rw [wov_some hT2]; rfl))) evl_nil)) (Nat.le_of_ble_eq_true rfl)) rfl
    have hA' : A ∈ [ptM F G, G] := hA
    simp at hA'; rcases hA' with rfl | rfl
    · exact oM
    · exact hG
theorem c_patched : Cal P w K mg base CX0 9 "patched" (spPatched K) := by
  obtain ⟨fd, F⟩ := fd_patched T
  refine ⟨⟨fd, ["row", "patch"], fn0 F sc_patched (spD_len fun _ => rfl) (fun cdv A outer s H vs Q E hr h => ?_), gl_patched T, F.kp, F.bindsN (fun _ _ _ _ _ _ us hl => match us, hl with | [_, _], _ => rfl)⟩⟩
  obtain ⟨⟨F, G, J⟩, i, ⟨hF, hG, hJ, hw, hT⟩, q⟩ := h
  refine ⟨_, (pss_cons (ps_asg (pv 1) (pg_tup rfl (pgs_cons (pg_name (i := 2) sc_patched.nd rfl (Or.inl rfl)) (pgs_cons (pg_name (i := 3) sc_patched.nd rfl (Or.inl rfl)) pgs_nil))))
      (pss_one (ps_ret (pe_cal (c_woven T) (hr.mono (by decide)) rfl passF (pa_cons (pe_lst (pa_cons (pv 0) (pa_cons (pv 2) (pa_cons (pv 3) pa_nil)))) (pa_cons (pe_glob (v := .ref (He.ga K "changed_value")) rfl (gl_changed_value T) rfl) pa_nil)))))), ?_⟩
  refine by_run (ds := [.row F, .tup [.row G, .row J]]) (d := .row (plf (wv [F, G, J] ruC))) i (Nat.le_of_ble_eq_true rfl) ?_ q
  dsimp only at hF hG hJ hw hT
  refine run_seq (run_unT (is := [2, 3]) (evd_var rfl) rfl rfl ?_)
  refine run_ret (evd_call (evl_cons (evd_lst (evl_cons (evd_var rfl) (evl_cons (evd_var rfl) (evl_cons (evd_var rfl) evl_nil))) (Nat.le_of_ble_eq_true rfl)) (evl_cons evd_c evl_nil)) (sd_E (d := .row (plf (wv [F, G, J] ruC))) (false, [F, G, J]) ⟨fun A hA => ?_, rfl, hw⟩ (by show (wov [F, G, J] ruC).map De.row = _; rw [wov_some hT]; rfl))) rfl
  have hA' : A ∈ [F, G, J] := hA
  simp at hA'; rcases hA' with rfl | rfl | rfl
  · exact hF
  · exact hG
  · exact hJ
end
end Fx

/-! FwL: the log. -/
namespace Fx
open PySem PySem.Spec PyProof.Rows L2 Fw
open Classical in
/-- what do does: the rows, the one that is on, the answer -/
noncomputable def doV (Vs : List Fm) (n : Nat) (G : Fm) : List Fm := if Vs[n]? = some G then Vs else Vs.take (n + 1) ++ [G]
open Classical in
noncomputable def doN (Vs : List Fm) (n : Nat) (G : Fm) : Nat := if Vs[n]? = some G then n else n + 1
open Classical in
noncomputable def doB (Vs : List Fm) (n : Nat) (G : Fm) : Bool := if Vs[n]? = some G then false else true
/-- the version of a number -/
def verO (Vs : List Fm) (n : Nat) : De → Option Fm
  | .v .non => Vs[n]?
  | .v (.int i) => if 0 ≤ i ∧ i < Vs.length then Vs[i.toNat]? else none
  | _ => none
/-- the numbers of the versions that changed the cell at z -/
def whO (Vs : List Fm) (z : Int) : List Int := ((List.range (Vs.length - 1)).filter fun k => !decide ((Vs.map fun F => F.at z)[k + 1]?.getD none = (Vs.map fun F => F.at z)[k]?.getD none)).map fun (k : Nat) => 1 + (k : Int)
section
variable {P : Program} {w : World} {K : PySem.W.Frag} {mg : Str → Option Value} {base : Heap} (T : Tt K mg)
abbrev XV (K : PySem.W.Frag) : Addr := He.ga K "NoVersion"
abbrev XP (K : PySem.W.Frag) : Addr := He.ga K "NoPlace"
def spNeed (K : PySem.W.Frag) : Sp := spE (tx K) (XP K) (fun d : De => [d]) (fun d => ∃ n, d.tyn = some n) (fun d => if d.place = true then some (.v .non) else none)
noncomputable def spLog (K : PySem.W.Frag) : Sp := fun vs H Q _ => ∃ (F : Fm) (x dx : Addr), IsA (tx K) H [.v (.ref x), .row F] vs ∧ Fm.Fit F ∧ H x = some (.ins (logA K) dx []) ∧
  ∀ H', Sx x H H' → LogAt (tx K) H' x [plf F.at] 0 → Q .non H'
def spNow (K : PySem.W.Frag) : Sp := spD (tx K) (fun a : Addr × List Fm × Nat × Fm => [.log a.1 a.2.1 a.2.2.1]) (fun a => a.2.1[a.2.2.1]? = some a.2.2.2) (fun a => .row a.2.2.2)
noncomputable def spDo (K : PySem.W.Frag) : Sp := fun vs H Q _ => ∃ (p : Addr) (Vs : List Fm) (n : Nat) (F : Fm), IsA (tx K) H [.log p Vs n, .row F] vs ∧ Fm.Fit F ∧ n < Vs.length ∧ Vs.length ≤ 1000 ∧
  ∀ H', Sx p H H' → LogAt (tx K) H' p (doV Vs n (plf F.at)) (doN Vs n (plf F.at)) → Q (.bl (doB Vs n (plf F.at))) H'
def spBack (K : PySem.W.Frag) : Sp := fun vs H Q _ => ∃ (p : Addr) (Vs : List Fm) (n : Nat), IsA (tx K) H [.log p Vs n] vs ∧
  ∀ H', Sx p H H' → LogAt (tx K) H' p Vs (n - 1) → Q (.bl (!decide ((n : Int) = 0))) H'
def spHow (K : PySem.W.Frag) : Sp := spD (tx K) (fun a : Addr × List Fm × Nat => [.log a.1 a.2.1 a.2.2]) (fun _ => True) (fun a => di (a.2.1.length : Int))
def spVersion (K : PySem.W.Frag) : Sp := spE (tx K) (XV K) (fun a : Addr × List Fm × Nat × De => [.log a.1 a.2.1 a.2.2.1, a.2.2.2]) (fun a => a.2.2.1 < a.2.1.length ∧ ∃ n, a.2.2.2.tyn = some n) (fun a => (verO a.2.1 a.2.2.1 a.2.2.2).map De.row)
def spWhen (K : PySem.W.Frag) : Sp := fun vs H Q E => ∃ (p : Addr) (Vs : List Fm) (n : Nat) (d : De), IsA (tx K) H [.log p Vs n, d] vs ∧ (∃ n, d.tyn = some n) ∧ (∀ F ∈ Vs, F.Ok) ∧ 1 ≤ Vs.length ∧ Vs.length ≤ 1000 ∧
  (∀ z, d = di z → ∀ q H', H q = none → Same H H' → Is (tx K) H' (.lst ((whO Vs z).map di)) (.ref q) → Q (.ref q) H') ∧ (d.place = false → ∀ H', Same H H' → E (.ref (XP K)) none H')
/-- between's end -/
noncomputable def btO (K : PySem.W.Frag) (Vs : List Fm) (n : Nat) (d e : De) : Addr ⊕ De :=
  match verO Vs n d, verO Vs n e with
  | some F, some G => if TooB [F, G] = true then .inl (XT K) else .inr (.tup [.row (ptM F G), .row (ptN F G)])
  | _, _ => .inl (XV K)
/-- a pair whose patch is not too wide -/
def okPair (F G : Fm) : Prop := okRow F ∧ okRow G ∧ hiF [F, G] - loF [F, G] ≤ 4000 ∧ (TooB [F, G] = false → hiF [ptM F G, G] - loF [ptM F G, G] ≤ 4000)
noncomputable def spBetween (K : PySem.W.Frag) : Sp := fun vs H Q E => ∃ (p : Addr) (Vs : List Fm) (n : Nat) (d e : De), IsA (tx K) H [.log p Vs n, d, e] vs ∧ n < Vs.length ∧ (∃ n, d.tyn = some n) ∧ (∃ n, e.tyn = some n) ∧ (∀ F G, verO Vs n d = some F → verO Vs n e = some G → okPair F G) ∧
  (∀ o, btO K Vs n d e = .inr o → ∀ v H', Same H H' → Is (tx K) H' o v → Q v H') ∧ (∀ C, btO K Vs n d e = .inl C → ∀ H', Same H H' → E (.ref C) none H')
theorem getElem?_map_row (Vs : List Fm) (k : Nat) (F : Fm) (h : Vs[k]? = some F) : (Vs.map De.row)[k]? = some (.row F) := by rw [List.getElem?_map, h]; rfl
include T
theorem lc : LC (tx K) := ⟨cl_Log T, na_rows T, na_at T⟩
theorem c_need_place : Cal P w K mg base (L2.CX P w) 2 "need_place" (spNeed K) := by
  obtain ⟨fd, F⟩ := fd_need_place T
  refine ⟨⟨fd, ["thing"], fnX F sc_need_place (spE_len fun _ => rfl) (fun cdv A outer s H vs Q E hr h => ?_), gl_need_place T, F.kp, F.bindsN (fun _ _ _ _ _ _ us hl => match us, hl with | [_], _ => rfl)⟩⟩
  obtain ⟨d, i, hd, q⟩ := h
  refine ⟨_, (pss_one (ps_if (pt_not (pt_val (pe_cal (c_is_place T) (hr.mono (by decide)) rfl pass0 (pa_cons (pv 0) pa_nil)))) (pss_one (ps_raise rfl (takes_of rfl rfl rfl rfl) (pmk_own PySem.F.excBase_ValueError (ex_NoPlace T) (gl_NoPlace T) (ke_NoPlace T) (rs_NoPlace T) rfl))) pss_nil)), ?_⟩
  refine by_rune (ds := [d]) (o := if d.place = true then some (.v .non) else none) i (Nat.le_of_ble_eq_true rfl) ?_ q
  have t : EvB (tx K) (tNot (tTest (tCall (spIsPlace K) [] E0 (tCons (tVar 0) tNil)))) [some d] (!d.place) := evb_not (evb_test (evd_call (evl_cons (evd_var rfl) evl_nil) (sd_D d hd)))
  cases hp : d.place with
  | true => exact rune_run (run_if t (fun hb => by rw [hp] at hb; cases hb) (fun hb => run_next rfl))
  | false => exact rune_x (runx_if t (fun hb => runx_raise) (fun hb => by rw [hp] at hb; cases hb))
theorem k_Log : CalK P w K mg base CX0 7 "Log" (spLog K) := by
  obtain ⟨fd, F⟩ := fd_Log_init T
  refine ⟨⟨_, fd, ["self", "row"], fn0 F sc_Log_init (fun vs H Q E h => by obtain ⟨F, x, dx, i, _⟩ := h; rw [isA_len i]; rfl) (fun cdv A outer s H vs Q E hr h => ?_), mk_Log T, gl_Log T, F.bindsN (fun _ _ _ _ _ _ us hl => match us, hl with | [_, _], _ => rfl)⟩⟩
  obtain ⟨F, x, dx, i, ft, hx, q⟩ := h
  refine ⟨_, (pss_cons (ps_fld (pv 0) (pe_lst (pa_cons (pe_cal (c_plain T) (hr.mono (by decide)) rfl pass0 (pa_cons (pv 1) pa_nil)) pa_nil)) rfl)
      (pss_one (ps_fld (pv 0) pe_int rfl))), ?_⟩
  have e := env_start (T := tx K) 0 i
  obtain ⟨v0, r0, rfl, i0, j0⟩ := isA_cons.mp i
  obtain ⟨v1, r1, rfl, i1, j1⟩ := isA_cons.mp j0
  obtain rfl := isA_nil.mp j1
  obtain rfl := is_v.mp i0
  have l : EvD (tx K) (tLst (tCons (tCall (spPlain K) [] E0 (tCons (tVar 1) tNil)) tNil)) [some (.v (.ref x)), some (.row F)] (.lst [.row (plf F.at)]) :=
    evd_lst (evl_cons (evd_call (evl_cons (evd_var rfl) evl_nil) (sd_D F ft)) evl_nil) (Nat.le_of_ble_eq_true rfl)
  unfold tSeq sFld
  refine l _ H e _ fun v H1 e1 k1 => ?_
  obtain ⟨b, ws, rfl, h4, h5⟩ := is_lst.mp k1
  have hx1 := e1 _ _ hx
  have hb : b ≠ x := fun z => by rw [z, hx1] at h4; cases h4
  refine ⟨_, rfl, x, logA K, dx, _, rfl, hx1, cl_Log T, na_rows T, by decide, ?_⟩
  refine ⟨_, rfl, x, logA K, dx, _, rfl, upd_same, cl_Log T, na_at T, Nat.le_of_ble_eq_true rfl, ?_⟩
  refine q _ (fun c o ne z => by rw [upd_ne ne, upd_ne ne]; exact e1 _ _ z) ⟨dx, b, ws, upd_same, by rw [upd_ne hb, upd_ne hb]; exact h4, ?_⟩
  obtain ⟨v, r, rfl, g1, g2⟩ := isA_cons.mp h5
  obtain ⟨q0, dx', a', b', c', y0, y1, y2, y3, y4⟩ := is_row.mp g1
  have go : ∀ c o, H1 c = some o → o ≠ .ins (logA K) dx [] → upd (upd H1 x (.ins (logA K) dx (putF "rows" (.ref b) []))) x (.ins (logA K) dx (putF "at" (.int 0) (putF "rows" (.ref b) []))) c = some o := fun c o z ne => by
    have : c ≠ x := fun y => by rw [y, hx1] at z; exact ne (Option.some.inj z).symm
    rw [upd_ne this, upd_ne this]; exact z
  refine ⟨v, r, rfl, ⟨q0, dx', a', b', c', y0, go _ _ y1 (fun z => ?_), go _ _ y2 (fun z => by cases z), go _ _ y3 (fun z => by cases z), go _ _ y4 (fun z => by cases z)⟩, isA_nil.mp g2⟩
  injection z with _ _ z3
  exact absurd z3 (by simp [rowF])
theorem m_now : CalM P w K mg base CX0 1 (logA K) "now" (spNow K) := by
  obtain ⟨fd, F⟩ := fd_Log_now T
  refine ⟨⟨_, fd, ["self"], fn0 F sc_Log_now (spD_len fun _ => rfl) (fun cdv A outer s H vs Q E hr h => ?_), me_now T, F.bindsN (fun _ _ _ _ _ _ us hl => match us, hl with | [_], _ => rfl)⟩⟩
  obtain ⟨⟨p, Vs, n, F⟩, i, hF, q⟩ := h
  refine ⟨_, (pss_one (ps_ret (pe_ix (r := rIxL K) ix_list (pe_fld (pv 0) rfl) (pe_fld (pv 0) rfl) (fun _ _ => rfl)))), ?_⟩
  refine by_run (ds := [.log p Vs n]) (d := .row F) i (Nat.le_of_ble_eq_true rfl) ?_ q
  exact run_ret (evd_op (evd_rows (lc T) (evd_var rfl)) (evd_at (lc T) (evd_var rfl)) (d2_ixL (k := n) (getElem?_map_row Vs n F hF) rfl)) rfl
theorem m_do : CalM P w K mg base CX0 7 (logA K) "do" (spDo K) := by
  obtain ⟨fd, F⟩ := fd_Log_do T
  refine ⟨⟨_, fd, ["self", "row"], fn0 F sc_Log_do (fun vs H Q E h => by obtain ⟨p, Vs, n, F, i, _⟩ := h; rw [isA_len i]; rfl) (fun cdv A outer s H vs Q E hr h => ?_), me_do T, F.bindsN (fun _ _ _ _ _ _ us hl => match us, hl with | [_, _], _ => rfl)⟩⟩
  obtain ⟨p, Vs, n, F, i, ft, hn, hz, q⟩ := h
  refine ⟨_, (pss_cons (ps_set (i := 2) sc_Log_do.nd rfl (Or.inl rfl) (pe_cal (c_plain T) (hr.mono (by decide)) rfl pass0 (pa_cons (pv 1) pa_nil)))
      (pss_cons (ps_if (pt_cmpR (op_eqD hr.units) (pe_calM0 (pv 2) (cl_Row T) (m_told T) (hr.mono (by decide)) pass0) (pe_calM0 (pe_calM0 (pv 0) (cl_Log T) (m_now T) (hr.mono (by decide)) pass0) (cl_Row T) (m_told T) (hr.mono (by decide)) pass0) (nomark _)) (pss_one (ps_ret pe_bl)) pss_nil)
      (pss_cons (ps_fld (pv 0) (pe_op op_cat (pe_slice sl_list (pe_fld (pv 0) rfl) po_none (po_some (pe_op op_add (pe_fld (pv 0) rfl) pe_int))) (pe_lst (pa_cons (pv 2) pa_nil))) rfl)
      (pss_cons (ps_fldaug (pv 0) pe_int in_add)
      (pss_one (ps_ret pe_bl)))))), ?_⟩
  obtain ⟨A', hA⟩ : ∃ A', Vs[n]? = some A' := ⟨_, List.getElem?_eq_getElem hn⟩
  refine by_runM (p := p) (ds := [.log p Vs n, .row F]) (Rt := fun d S' => d = db (doB Vs n (plf F.at)) ∧ S'[0]? = some (some (.log p (doV Vs n (plf F.at)) (doN Vs n (plf F.at))))) i (Nat.le_of_ble_eq_true rfl) ?_ (fun d v S' σ' H' hd s e iv => ?_)
  · refine runm_seq (runm_asg (evd_call (evl_cons (evd_var rfl) evl_nil) (sd_D F ft)) ?_)
    refine runm_seq (runm_if (b := decide (plf F.at = A')) (evb_test (evd_op (evd_meth rowF_told (evd_var rfl) evl_nil (sd_D (plf F.at) trivial)) (evd_meth rowF_told (evd_methL (fun _ _ => rfl) (evd_var rfl) evl_nil (sd_D (p, Vs, n, A') hA)) evl_nil (sd_D A' trivial)) d2_eqF)) (fun h => ?_) (fun h => runm_next ?_))
    · have hc : Vs[n]? = some (plf F.at) := by rw [of_decide_eq_true h]; exact hA
      refine runm_ret evd_c ⟨by unfold doB; rw [if_pos hc], ?_⟩
      unfold doV doN
      rw [if_pos hc, if_pos hc]; rfl
    · have hc : ¬ Vs[n]? = some (plf F.at) := fun z => of_decide_eq_false h (by rw [hA] at z; exact (Option.some.inj z).symm)
      have nl : NlX [some (.log p Vs n), some (.row F), some (.row (plf F.at))] 0 := nlX_of rfl
      refine runm_seq (runm_rows (Vs' := Vs.take (n + 1) ++ [plf F.at]) (lc T) rfl nl (evd_is (evd_op (evd_slL (evd_rows (lc T) (evd_var rfl)) evo_no (evo_some (evd_op (evd_at (lc T) (evd_var rfl)) evd_c d2_I0))) (evd_lst (evl_cons (evd_var rfl) evl_nil) (Nat.le_of_ble_eq_true rfl)) (d2_cat ?_)) ?_) ?_)
      · rw [cut_take (k := n + 1) (by rw [List.length_map]; omega) (by omega), List.length_take, List.length_map]
        show min (n + 1) Vs.length + 1 ≤ 100000
        omega
      · rw [cut_take (k := n + 1) (by rw [List.length_map]; omega) (by omega), List.map_append, List.map_take]; rfl
      · refine runm_seq (runm_at (n' := n + 1) (k := 1) (lc T) rfl (nlX_of rfl) evd_c (fun H Q q => ⟨_, _, rfl, rfl, q⟩) ?_)
        refine runm_ret evd_c ⟨by unfold doB; rw [if_neg hc], ?_⟩
        unfold doV doN
        rw [if_neg hc, if_neg hc]; rfl
  · obtain ⟨rfl, h0⟩ := hd
    obtain ⟨v0, h1, h2⟩ := e.2 0 _ h0
    rw [is_v.mp iv]
    exact q H' s (is_log.mp h2).2
theorem m_back : CalM P w K mg base CX0 1 (logA K) "back" (spBack K) := by
  obtain ⟨fd, F⟩ := fd_Log_back T
  refine ⟨⟨_, fd, ["self"], fn0 F sc_Log_back (fun vs H Q E h => by obtain ⟨p, Vs, n, i, _⟩ := h; rw [isA_len i]; rfl) (fun cdv A outer s H vs Q E hr h => ?_), me_back T, F.bindsN (fun _ _ _ _ _ _ us hl => match us, hl with | [_], _ => rfl)⟩⟩
  obtain ⟨p, Vs, n, i, q⟩ := h
  refine ⟨_, (pss_cons (ps_if (pt_cmpR op_eq (pe_fld (pv 0) rfl) pe_int (nomark _)) (pss_one (ps_ret pe_bl)) pss_nil)
      (pss_cons (ps_fldaug (pv 0) pe_int in_sub)
      (pss_one (ps_ret pe_bl)))), ?_⟩
  refine by_runM (p := p) (ds := [.log p Vs n]) (Rt := fun d S' => d = db (!decide ((n : Int) = 0)) ∧ S'[0]? = some (some (.log p Vs (n - 1)))) i (Nat.le_of_ble_eq_true rfl) ?_ (fun d v S' σ' H' hd s e iv => ?_)
  · refine runm_seq (runm_if (evb_test (evd_op (evd_at (lc T) (evd_var rfl)) evd_c d2_eqI)) (fun h => ?_) (fun h => runm_next ?_))
    · have h := of_decide_eq_true h
      refine runm_ret evd_c ⟨by rw [decide_eq_true h]; rfl, ?_⟩
      rw [show n - 1 = n by omega]; rfl
    · have h := of_decide_eq_false h
      refine runm_seq (runm_at (n' := n - 1) (k := 1) (lc T) rfl (nlX_of rfl) evd_c (fun H Q q => ⟨_, _, rfl, rfl, by rw [show (n : Int) - 1 = ((n - 1 : Nat) : Int) by omega]; exact q⟩) ?_)
      exact runm_ret evd_c ⟨by rw [decide_eq_false h]; rfl, rfl⟩
  · obtain ⟨rfl, h0⟩ := hd
    obtain ⟨v0, h1, h2⟩ := e.2 0 _ h0
    rw [is_v.mp iv]
    exact q H' s (is_log.mp h2).2
theorem m_how_many : CalM P w K mg base CX0 1 (logA K) "how_many" (spHow K) := by
  obtain ⟨fd, F⟩ := fd_Log_how_many T
  refine ⟨⟨_, fd, ["self"], fn0 F sc_Log_how_many (spD_len fun _ => rfl) (fun cdv A outer s H vs Q E hr h => ?_), me_how_many T, F.bindsN (fun _ _ _ _ _ _ us hl => match us, hl with | [_], _ => rfl)⟩⟩
  obtain ⟨⟨p, Vs, n⟩, i, _, q⟩ := h
  refine ⟨_, (pss_one (ps_ret (pe_callB (r := rLenS K) call_lenS (by rfl) (fr_len T) PySem.boot_len (pa_cons (pe_fld (pv 0) rfl) pa_nil)))), ?_⟩
  refine by_run (ds := [.log p Vs n]) (d := di (Vs.length : Int)) i (Nat.le_of_ble_eq_true rfl) ?_ q
  exact run_ret (evd_is (evd_cb (evl_cons (evd_rows (lc T) (evd_var rfl)) evl_nil) dc_lenL) (by rw [List.length_map])) rfl
end
end Fx

/-! FwL2: version, between, when. -/
namespace Fx
open PySem PySem.Spec PyProof.Rows L2 Fw
section
variable {P : Program} {w : World} {K : PySem.W.Frag} {mg : Str → Option Value} {base : Heap} (T : Tt K mg)
/-- a method whose defaults fill up -/
structure CalMD (P : Program) (w : World) (K : PySem.W.Frag) (mg : Str → Option Value) (base : Heap) (CX : CXT) (k : Nat) (C : Addr) (m : Str) (sp : Sp) (dvs : List V) : Prop where
  ex : ∃ f fd ps ds, FnOk P w K mg base CX k f fd ps sp ∧ Meth K C m f ∧ Vals dvs ds ∧ Binds K fd ps ds
theorem pe_calM0D {X : Cx} {CX : CXT} {k : Nat} {sp : Sp} {E : XK} {m : Str} {pos apos : Pos} {o : Expr} {ta : TE} {C : Addr} {dvs : List V} {pl : Sem Bool} (he : PE X o ta) (cl : Cls X.K C) (c : CalMD X.prog X.w X.K X.mg X.base CX k C m sp dvs) (hr : Room k X.A) (hx : Passes CX X E)
    (ht : eval (.Call (.Attribute o m apos) [] [] pos) X.env = (do
      let ov ← eval o X.env
      standAt apos.atName
      let (f, first) ← holding [ov] (getMethod ov m pl)
      callWith pos f first (backTo pos (starEach [] X.env)) (backToKw pos (keywordEach [] X.env))) := by rfl) :
    PE X (.Call (.Attribute o m apos) [] [] pos) (tMeth C m sp dvs E ta tNil) := by
  obtain ⟨f, fd, ps, ds, F, h1, h2, h3⟩ := c.ex
  exact pe_meth0 he cl h1 F hr h3 h2 hx ht
theorem verO_non {Vs : List Fm} {n : Nat} : verO Vs n (.v .non) = Vs[n]? := rfl
include T
theorem v_fn : ∃ f fd ps, FnOk P w K mg base (L2.CX P w) 2 f fd ps (spVersion K) ∧ Meth K (logA K) "version" f ∧ Binds K fd ps [] ∧ ∃ ds, Vals [.non] ds ∧ Binds K fd ps ds := by
  obtain ⟨fd, F⟩ := fd_Log_version T
  obtain ⟨d0, e0, b0⟩ := F.binds1 (ps := ["self", "number"]) 2 1 (List.cons_ne_nil _ _) rfl (fun _ _ _ _ _ _ _ us its h1 h2 => match us, its, h1, h2 with | [_, _], [_], _, _ => ⟨_, rfl, rfl⟩)
  obtain ⟨d1, e1, b1⟩ := F.binds1 (ps := ["self", "number"]) 1 0 (List.cons_ne_nil _ _) rfl (fun _ _ _ _ _ _ _ us its h1 h2 => match us, its, h1, h2 with | [_], [_], _, _ => ⟨_, rfl, rfl⟩)
  have e0' : d0 = [] := by cases e0; rfl
  subst e0'
  refine ⟨_, fd, ["self", "number"], fnX F sc_Log_version (spE_len fun _ => rfl) (fun cdv A outer s H vs Q E hr h => ?_), me_version T, b0, d1, e1, b1⟩
  obtain ⟨⟨p, Vs, n, d⟩, i, ⟨hn, hd⟩, q⟩ := h
  refine ⟨_, (pss_cons (ps_if (pt_cmpR op_isNo (pv 1) pe_non (nomark _)) (pss_one (ps_ret (pe_calM0 (pv 0) (cl_Log T) (m_now T) (hr.mono (by decide)) pass0))) pss_nil)
      (pss_cons (ps_if (PW.pt (pw_or (pt_not (pt_val (pe_cal (c_is_place T) (hr.mono (by decide)) rfl pass0 (pa_cons (pv 1) pa_nil)))) (pw_or1 (pt_not (pt_chain op_le op_lt pe_int (pv 1) (pe_callB (r := rLenS K) call_lenS (by rfl) (fr_len T) PySem.boot_len (pa_cons (pe_fld (pv 0) rfl) pa_nil))))))) (pss_one (ps_raise rfl (takes_of rfl rfl rfl rfl) (pmk_own PySem.F.excBase_ValueError (ex_NoVersion T) (gl_NoVersion T) (ke_NoVersion T) (rs_NoVersion T) rfl))) pss_nil)
      (pss_one (ps_ret (pe_ix (r := rIxL K) ix_list (pe_fld (pv 0) rfl) (pv 1) (fun _ _ => rfl)))))), ?_⟩
  refine by_rune (ds := [.log p Vs n, d]) (o := (verO Vs n d).map De.row) i (Nat.le_of_ble_eq_true rfl) ?_ q
  dsimp only at hn hd
  obtain ⟨A', hA⟩ : ∃ A', Vs[n]? = some A' := ⟨_, List.getElem?_eq_getElem hn⟩
  by_cases hz : d = .v .non
  · subst hz
    show RunE (tx K) _ _ E _ ((Vs[n]?).map De.row)
    rw [hA]
    exact rune_run (run_seq (run_if (b := true) (evb_is (evb_test (evd_op (evd_var rfl) evd_c d2_isNo)) rfl) (fun _ => run_ret (evd_methL (fun _ _ => rfl) (evd_var rfl) evl_nil (sd_D (p, Vs, n, A') hA)) rfl) (fun h => by cases h)))
  · have test : EvB (tx K) (tTest (tOp rIsNo (tVar 1) (tC .non))) [some (.log p Vs n), some d] false := by
      cases d with
      | v x => exact evb_is (evb_test (evd_op (evd_var rfl) evd_c d2_isNo)) (decide_eq_false fun z => hz (by rw [z]))
      | _ => exact evb_test (evd_op (evd_var rfl) evd_c (d2_isNoR rfl))
    refine rune_seq (run_if test (fun h => by cases h) (fun _ => run_next ?_))
    have lenv : EvD (tx K) (tCB (rLenS K) (tCons (tFld K (tVar 0) "rows") tNil)) [some (.log p Vs n), some d] (di (Vs.length : Int)) := evd_is (evd_cb (evl_cons (evd_rows (lc T) (evd_var rfl)) evl_nil) dc_lenL) (by rw [List.length_map])
    by_cases hp : d.place = true
    · obtain ⟨j, rfl⟩ : ∃ j, d = di j := by
        cases d with
        | v x => cases x with
          | int j => exact ⟨j, rfl⟩
          | _ => cases hp
        | _ => cases hp
      have t2 : EvB (tx K) (tOr (tNot (tTest (tCall (spIsPlace K) [] E0 (tCons (tVar 1) tNil)))) (tNot (tTest (tChain (rI0 fun i j => .bl (decide (i ≤ j))) (rI0 fun i j => .bl (decide (i < j))) (tC (.int 0)) (tVar 1) (tCB (rLenS K) (tCons (tFld K (tVar 0) "rows") tNil)))))) [some (.log p Vs n), some (di j)] (!(decide (0 ≤ j) && decide (j < Vs.length))) :=
        evb_is (evb_or (evb_not (evb_test (evd_call (evl_cons (evd_var rfl) evl_nil) (sd_D (di j) hd)))) (fun h => evb_not (evb_chain evd_c (evd_var rfl) d2_I0 (fun h => lenv) (fun h => d2_I0)))) rfl
      by_cases hj : 0 ≤ j ∧ j < Vs.length
      · have hv : verO Vs n (di j) = Vs[j.toNat]? := by show (if 0 ≤ j ∧ j < (Vs.length : Int) then Vs[j.toNat]? else none) = _; rw [if_pos hj]
        obtain ⟨B', hB⟩ : ∃ B', Vs[j.toNat]? = some B' := ⟨_, List.getElem?_eq_getElem (by omega)⟩
        rw [hv, hB]
        refine rune_run (run_seq (run_if t2 (fun h => by rw [decide_eq_true hj.1, decide_eq_true hj.2] at h; cases h) (fun _ => run_next ?_)))
        exact run_ret (evd_op (evd_rows (lc T) (evd_var rfl)) (evd_var rfl) (d2_ixL (k := j.toNat) (getElem?_map_row Vs _ B' hB) (by omega))) rfl
      · have hv : verO Vs n (di j) = none := by show (if 0 ≤ j ∧ j < (Vs.length : Int) then Vs[j.toNat]? else none) = _; rw [if_neg hj]
        rw [hv]
        refine rune_x (runx_1 (runx_if t2 (fun _ => runx_raise) (fun h => absurd ?_ hj)))
        rw [Bool.not_eq_false', Bool.and_eq_true, decide_eq_true_eq, decide_eq_true_eq] at h
        exact h
    · have hv : verO Vs n d = none := by
        cases d with
        | v x => cases x with
          | int j => exact absurd rfl hp
          | non => exact absurd rfl hz
          | _ => rfl
        | _ => rfl
      rw [hv]
      have hp' : d.place = false := by cases h : d.place <;> simp_all
      refine rune_x (runx_1 (runx_if (b := true) (evb_is (evb_or (l := true) (evb_not (evb_test (evd_call (evl_cons (evd_var rfl) evl_nil) (sd_D d hd)))) (fun h => by rw [hp'] at h; cases h)) (by rw [hp']; rfl)) (fun _ => runx_raise) (fun h => by cases h)))
theorem m_version : CalM P w K mg base (L2.CX P w) 2 (logA K) "version" (spVersion K) := by
  obtain ⟨f, fd, ps, h1, h2, h3, _⟩ := v_fn (P := P) (w := w) (base := base) T
  exact ⟨f, fd, ps, h1, h2, h3⟩
theorem m_versionD : CalMD P w K mg base (L2.CX P w) 2 (logA K) "version" (spVersion K) [.non] := by
  obtain ⟨f, fd, ps, h1, h2, _, ds, h4, h5⟩ := v_fn (P := P) (w := w) (base := base) T
  exact ⟨f, fd, ps, ds, h1, h2, h4, h5⟩
theorem m_between : CalM P w K mg base (L2.CX P w) 11 (logA K) "between" (spBetween K) := by
  obtain ⟨fd, F⟩ := fd_Log_between T
  refine ⟨⟨_, fd, ["self", "one", "other"], fnX F sc_Log_between (fun vs H Q E h => by obtain ⟨p, Vs, n, d, e, i, _⟩ := h; rw [isA_len i]; rfl) (fun cdv A outer s H vs Q E hr h => ?_), me_between T, F.bindsN (fun _ _ _ _ _ _ us hl => match us, hl with | [_, _, _], _ => rfl)⟩⟩
  obtain ⟨p, Vs, n, d, e, i, hn, hd, he, hpair, q⟩ := h
  refine ⟨_, (pss_one (ps_ret (pe_cal (c_patch_of T) (hr.mono (by decide)) rfl (passes_call (takes_of rfl rfl rfl rfl) (fun _ _ _ _ h => h)) (pa_cons (pe_calM (pv 0) (cl_Log T) (m_version T) (hr.mono (by decide)) (passes_call (takes_of rfl rfl rfl rfl) (fun _ _ _ _ h => h)) (pa_cons (pv 1) pa_nil)) (pa_cons (pe_calM (pv 0) (cl_Log T) (m_version T) (hr.mono (by decide)) (passes_call (takes_of rfl rfl rfl rfl) (fun _ _ _ _ h => h)) (pa_cons (pv 2) pa_nil)) pa_nil))))), ?_⟩
  cases vd : verO Vs n d with
  | none =>
    have hb : btO K Vs n d e = .inl (XV K) := by unfold btO; rw [vd]
    refine by_runX (ds := [.log p Vs n, d, e]) (C := XV K) i (Nat.le_of_ble_eq_true rfl) ?_ (q.2 _ hb)
    exact runx_ret (evx_args (elx_here (evx_methL (fun _ _ => rfl) (evd_var rfl) (evl_cons (evd_var rfl) evl_nil) (sx_E (p, Vs, n, d) ⟨hn, hd⟩ (by show (verO Vs n d).map De.row = none; rw [vd]; rfl)))))
  | some F =>
    have ev1 : EvD (tx K) (tMeth (logA K) "version" (spVersion K) [] E (tVar 0) (tCons (tVar 1) tNil)) [some (.log p Vs n), some d, some e] (.row F) := evd_methL (fun _ _ => rfl) (evd_var rfl) (evl_cons (evd_var rfl) evl_nil) (sd_E (p, Vs, n, d) ⟨hn, hd⟩ (by show (verO Vs n d).map De.row = _; rw [vd]; rfl))
    cases ve : verO Vs n e with
    | none =>
      have hb : btO K Vs n d e = .inl (XV K) := by unfold btO; rw [vd, ve]
      refine by_runX (ds := [.log p Vs n, d, e]) (C := XV K) i (Nat.le_of_ble_eq_true rfl) ?_ (q.2 _ hb)
      exact runx_ret (evx_args (elx_next ev1 (elx_here (evx_methL (fun _ _ => rfl) (evd_var rfl) (evl_cons (evd_var rfl) evl_nil) (sx_E (p, Vs, n, e) ⟨hn, he⟩ (by show (verO Vs n e).map De.row = none; rw [ve]; rfl))))))
    | some G =>
      have ev2 : EvD (tx K) (tMeth (logA K) "version" (spVersion K) [] E (tVar 0) (tCons (tVar 2) tNil)) [some (.log p Vs n), some d, some e] (.row G) := evd_methL (fun _ _ => rfl) (evd_var rfl) (evl_cons (evd_var rfl) evl_nil) (sd_E (p, Vs, n, e) ⟨hn, he⟩ (by show (verO Vs n e).map De.row = _; rw [ve]; rfl))
      have ok := hpair F G vd ve
      cases hT : TooB [F, G] with
      | true =>
        have hb : btO K Vs n d e = .inl (XT K) := by unfold btO; rw [vd, ve]; show (if TooB [F, G] = true then _ else _) = _; rw [if_pos hT]
        refine by_runX (ds := [.log p Vs n, d, e]) (C := XT K) i (Nat.le_of_ble_eq_true rfl) ?_ (q.2 _ hb)
        exact runx_ret (evx_call (evl_cons ev1 (evl_cons ev2 evl_nil)) (sx_E (F, G) ok (by show (if TooB [F, G] = true then _ else _) = _; rw [if_pos hT])))
      | false =>
        have hb : btO K Vs n d e = .inr (.tup [.row (ptM F G), .row (ptN F G)]) := by unfold btO; rw [vd, ve]; show (if TooB [F, G] = true then _ else _) = _; rw [if_neg (by rw [hT]; exact Bool.false_ne_true)]
        refine by_run (ds := [.log p Vs n, d, e]) (d := .tup [.row (ptM F G), .row (ptN F G)]) i (Nat.le_of_ble_eq_true rfl) ?_ (q.1 _ hb)
        exact run_ret (evd_call (evl_cons ev1 (evl_cons ev2 evl_nil)) (sd_E (F, G) ok (by show (if TooB [F, G] = true then _ else _) = _; rw [if_neg (by rw [hT]; exact Bool.false_ne_true)]))) rfl
theorem m_when : CalM P w K mg base (L2.CX P w) 3 (logA K) "when" (spWhen K) := by
  obtain ⟨fd, F⟩ := fd_Log_when T
  refine ⟨⟨_, fd, ["self", "place"], fnX F sc_Log_when (fun vs H Q E h => by obtain ⟨p, Vs, n, d, i, _⟩ := h; rw [isA_len i]; rfl) (fun cdv A outer s H vs Q E hr h => ?_), me_when T, F.bindsN (fun _ _ _ _ _ _ us hl => match us, hl with | [_, _], _ => rfl)⟩⟩
  obtain ⟨p, Vs, n, d, i, hd, hok, h1, h2, q⟩ := h
  refine ⟨_, (pss_cons (ps_expr (pe_cal (c_need_place T) (hr.mono (by decide)) rfl (passes_call (takes_of rfl rfl rfl rfl) (fun _ _ _ _ h => h)) (pa_cons (pv 1) pa_nil)))
      (pss_cons (ps_set (i := 2) sc_Log_when.nd rfl (Or.inr rfl) (pe_lc (own := [("row", 3)]) (g := gName 3) rfl sc_Log_when.nd (pi_list (pe_fld (pv 0) rfl)) (blkOk_by (own := [("row", 3)]) (N := n_Log_when) (sc := defScope s_Log_when) (by decide +kernel)) (fun _ _ _ _ _ => pg_name (i := 3) sc_Log_when.nd rfl (Or.inl rfl)) (fun _ _ _ _ _ => pts_nil) (fun _ _ _ _ _ => (pe_calM (pv 3) (cl_Row T) (m_tells T) (hr.mono (by decide)) pass0 (pa_cons (pv 1) pa_nil)))))
      (pss_one (ps_ret (pe_lc (own := [("number", 4)]) (g := gName 4) rfl sc_Log_when.nd (pi_any2 rfl (fr_range T) (pa_cons pe_int (pa_cons (pe_callB (r := rLenS K) call_lenS (by rfl) (fr_len T) PySem.boot_len (pa_cons (pv 2) pa_nil)) pa_nil))) (blkOk_by (own := [("number", 4)]) (N := n_Log_when) (sc := defScope s_Log_when) (by decide +kernel)) (fun _ _ _ _ _ => pg_name (i := 4) sc_Log_when.nd rfl (Or.inl rfl)) (fun _ _ _ _ _ => pts_one (pt_cmpR op_ne (pe_ix (r := rIxL K) ix_list (pv 2) (pv 4) (fun _ _ => rfl)) (pe_ix (r := rIxL K) ix_list (pv 2) (pe_op op_sub (pv 4) pe_int) (fun _ _ => rfl)) (nomark _))) (fun _ _ _ _ _ => (pv 4))))))), ?_⟩
  cases hp : d.place with
  | false =>
    refine by_runX (ds := [.log p Vs n, d]) (C := XP K) i (Nat.le_of_ble_eq_true rfl) ?_ (q.2 hp)
    exact runx_1 (runx_drop (evx_call (evl_cons (evd_var rfl) evl_nil) (sx_E d hd (by rw [if_neg (by rw [hp]; exact Bool.false_ne_true)]))))
  | true =>
    obtain ⟨z, rfl⟩ : ∃ j, d = di j := by
      cases d with
      | v x => cases x with
        | int j => exact ⟨j, rfl⟩
        | _ => cases hp
      | _ => cases hp
    have e := env_start (T := tx K) 3 i
    have start : (L2.start n_Log_when vs) = vs.map some ++ List.replicate 3 none := by unfold L2.start; rw [isA_len i]; rfl
    rw [start]
    have s1 : EvD (tx K) (tCall (spNeed K) [] E (tCons (tVar 1) tNil)) [some (.log p Vs n), some (di z), none, none, none] (.v .non) := evd_call (evl_cons (evd_var rfl) evl_nil) (sd_E (di z) hd (by rw [if_pos hp]))
    unfold tSeq tDrop tAsg tRet
    refine s1 _ H e _ fun v1 H1 e1 _ => ?_
    have s2 : EvD (tx K) (tLc (iList K (tFld K (tVar 0) "rows")) (gName 3) tYes (tMeth (rowA K) "tells" (spTells K) [] E0 (tVar 3) (tCons (tVar 1) tNil)) [3]) [some (.log p Vs n), some (di z), none, none, none] (.lst (Vs.map fun F => dc (F.at z))) :=
      evd_lcL Vs De.row (fun F => dc (F.at z)) (evd_rows (lc T) (evd_var rfl)) (by omega) (fun F hF => (evd_meth rowF_tells (evd_var rfl) (evl_cons (evd_var rfl) evl_nil) (sd_D (F, z) (hok F hF)))) (fun _ _ => rfl)
    dsimp only
    refine s2 _ H1 (e.mono e1) _ fun v2 H2 e2 i2 => ?_
    have e3 := ((e.mono (e1.trans e2)).set (i := 2) i2)
    have hl : ((1 : Int) + ((Vs.length - 1 : Nat) : Int)) = (Vs.length : Int) := by omega
    have getc : ∀ k, k < Vs.length → (Vs.map fun F => dc (F.at z))[k]? = some (dc ((Vs.map fun F => F.at z)[k]?.getD none)) := fun k hk => by
      rw [List.getElem?_map, List.getElem?_map, List.getElem?_eq_getElem hk]; rfl
    have s3 : EvF (tx K) (tLc (iAny2 (tCons (tC (.int 1)) (tCons (tCB (rLenS K) (tCons (tVar 2) tNil)) tNil))) (gName 4) (tTest (tOp rNe (tOp (rIxL K) (tVar 2) (tVar 4)) (tOp (rIxL K) (tVar 2) (tOp (rI0 fun i j => .int (i - j)) (tVar 4) (tC (.int 1)))))) (tVar 4) [4]) [some (.log p Vs n), some (di z), some (.lst (Vs.map fun F => dc (F.at z))), none, none] (.lst (((List.range ((Vs.length : Int) - 1).toNat).filter fun k => !decide ((Vs.map fun F => F.at z)[k + 1]?.getD none = (Vs.map fun F => F.at z)[k]?.getD none)).map fun (k : Nat) => di (1 + (k : Int)))) :=
      evf_lcRF (fun k => di (1 + (k : Int))) (fun k => !decide ((Vs.map fun F => F.at z)[k + 1]?.getD none = (Vs.map fun F => F.at z)[k]?.getD none)) (evl_cons evd_c (evl_cons (evd_is (evd_cb (evl_cons (evd_var rfl) evl_nil) dc_lenL) (by rw [List.length_map])) evl_nil)) (by omega)
        (fun k hk => evb_test (evd_op (evd_op (evd_var rfl) (evd_var rfl) (d2_ixL (k := k + 1) (getc _ (by omega)) (by omega))) (evd_op (evd_var rfl) (evd_op (evd_var rfl) evd_c d2_I0) (d2_ixL (k := k) (getc _ (by omega)) (by omega))) d2_neC)) (fun k hk _ => evd_var rfl) (fun _ _ => rfl)
    unfold gName
    dsimp only
    refine s3 _ H2 e3 _ fun q0 H3 hq e4 i4 => ?_
    have hqn : H q0 = none := by
      cases zz : H q0 with
      | none => rfl
      | some o => rw [e2 _ _ (e1 _ _ zz)] at hq; cases hq
    refine q.1 z rfl q0 H3 hqn ((e1.trans e2).trans e4) ?_
    unfold whO
    rw [List.map_map, show Vs.length - 1 = ((Vs.length : Int) - 1).toNat by omega]
    exact i4
end
end Fx

/-! FwC0: the law's draws. -/
namespace Fx
open PySem PySem.Spec PyProof.Rows L2 Fw
/-! ### what is drawn -/
def cell0 (ns : List Int) (k : Int) : Int := if ns = [] then 7919 * k + 11 else ns.getD (k % (ns.length : Int)).toNat 0 * 48271 + 104729 * k + k / (ns.length : Int) * 7919
def cellM (x : Int) : Int := (x % 2147483647) * (x % 2147483647) % 2147483629
def cellZ (ns : List Int) (k : Int) : Int := (cellM (cell0 ns k) * cellM (cell0 ns k) + 69621 * cellM (cell0 ns k) + k) % 2147483587
theorem cellZ_pos (ns : List Int) (k : Int) : 0 ≤ cellZ ns k := Int.emod_nonneg _ (by decide)
theorem cellZ_lt (ns : List Int) (k : Int) : cellZ ns k < 2147483587 := Int.emod_lt_of_pos _ (by decide)
def valL : List C := [none, none, some 0, some 1, some 1, some 5, some (-1), some (10 ^ 60 + 7)]
def valC (c : Int) : C := valL.getD (c % 8).toNat none
def manyL : List Int := [1, 1, 2, 3, 4, 6]
def ringN (ns : List Int) (a : Int) : Nat := (manyL.getD (cellZ ns a % 6).toNat 0).toNat
def ringY (ns : List Int) (a : Int) : List C := (List.range (ringN ns a)).map fun (k : Nat) => valC (cellZ ns (a + 1 + (k : Int)))
def ringC (ns : List Int) (a : Int) : List C := rep (1 + cellZ ns a / 6 % 3).toNat (ringY ns a)
def midL : List Int := [0, 1, 3, 8]
def midC (ns : List Int) (a : Int) : List C := (List.range (midL.getD (cellZ ns a % 4).toNat 0).toNat).map fun (k : Nat) => valC (cellZ ns (a + 1 + (k : Int)))
def rowZ (ns : List Int) (a b : Int) : Fm := ⟨ringC ns (a + 10), midC ns a, b + cellZ ns a / 4 % 9 - 4, ringC ns (a + 20)⟩
def baseL : List Int := [0, 0, 10 ^ 30, -10 ^ 30 - 3, 77]
def baseZ (ns : List Int) : Int := baseL.getD (cellZ ns 3 % 5).toNat 0
theorem manyL_ok (k : Nat) (h : k < 6) : ∃ n : Nat, manyL.getD k 0 = (n : Int) ∧ 1 ≤ n ∧ n ≤ 6 ∧ n ∣ 12 := by
  match k, h with
  | 0, _ => exact ⟨1, rfl, by decide, by decide, by decide⟩
  | 1, _ => exact ⟨1, rfl, by decide, by decide, by decide⟩
  | 2, _ => exact ⟨2, rfl, by decide, by decide, by decide⟩
  | 3, _ => exact ⟨3, rfl, by decide, by decide, by decide⟩
  | 4, _ => exact ⟨4, rfl, by decide, by decide, by decide⟩
  | 5, _ => exact ⟨6, rfl, by decide, by decide, by decide⟩
theorem ringN_ok (ns : List Int) (a : Int) : 1 ≤ ringN ns a ∧ ringN ns a ≤ 6 ∧ ringN ns a ∣ 12 ∧ manyL.getD (cellZ ns a % 6).toNat 0 = (ringN ns a : Int) := by
  have h1 := Int.emod_nonneg (cellZ ns a) (show (6 : Int) ≠ 0 by decide)
  have h2 := Int.emod_lt_of_pos (cellZ ns a) (show (0 : Int) < 6 by decide)
  obtain ⟨n, e, a1, a2, a3⟩ := manyL_ok (cellZ ns a % 6).toNat (by omega)
  unfold ringN
  rw [e, Int.toNat_natCast]
  exact ⟨a1, a2, a3, rfl⟩
theorem ringY_len (ns : List Int) (a : Int) : (ringY ns a).length = ringN ns a := by unfold ringY; rw [List.length_map, List.length_range]
/-- a side of a drawn row -/
def Side (xs : List C) : Prop := xs ≠ [] ∧ xs.length ≤ 36 ∧ ∃ n : Nat, 0 < n ∧ n ∣ 12 ∧ Per (rg xs) (n : Int)
theorem rep_per {ys : List C} (h : ys ≠ []) (t : Nat) (ht : 0 < t) : Per (rg (rep t ys)) (ys.length : Int) := by
  have hl : 0 < ys.length := List.length_pos_iff.mpr h
  have hn : rep t ys ≠ [] := fun z => by
    have := rep_len t ys
    rw [z] at this
    have : 0 < t * ys.length := Nat.mul_pos ht hl
    simp at *; omega
  refine ((okR_per hl hn).mp ⟨?_, ?_⟩).2
  · rw [rep_len]; exact Nat.mul_mod_left _ _
  · rw [rep_len, Nat.mul_div_cancel _ hl]
    have : (rep t ys).take ys.length = ys := by
      cases t with
      | zero => omega
      | succ t =>
        show (List.replicate (t + 1) ys).flatten.take ys.length = ys
        rw [List.replicate_succ, List.flatten_cons, List.take_left]
    rw [this]
theorem ring_side (ns : List Int) (a : Int) : Side (ringC ns a) := by
  obtain ⟨a1, a2, a3, _⟩ := ringN_ok ns a
  have hY : ringY ns a ≠ [] := fun z => by have := ringY_len ns a; rw [z] at this; simp at this; omega
  have t1 := Int.emod_nonneg (cellZ ns a / 6) (show (3 : Int) ≠ 0 by decide)
  have t2 := Int.emod_lt_of_pos (cellZ ns a / 6) (show (0 : Int) < 3 by decide)
  have ht : 0 < (1 + cellZ ns a / 6 % 3).toNat := by omega
  have hl : (ringC ns a).length = (1 + cellZ ns a / 6 % 3).toNat * ringN ns a := by unfold ringC; rw [rep_len, ringY_len]
  have hle : (1 + cellZ ns a / 6 % 3).toNat * ringN ns a ≤ 3 * 6 := Nat.mul_le_mul (by omega) a2
  have hpos : 0 < (1 + cellZ ns a / 6 % 3).toNat * ringN ns a := Nat.mul_pos ht (by omega)
  refine ⟨fun z => ?_, by omega, ringN ns a, by omega, a3, ?_⟩
  · rw [z] at hl; simp at hl; omega
  · have := rep_per hY (1 + cellZ ns a / 6 % 3).toNat ht
    rw [ringY_len] at this
    exact this
theorem midC_len (ns : List Int) (a : Int) : (midC ns a).length ≤ 8 := by
  have h1 := Int.emod_nonneg (cellZ ns a) (show (4 : Int) ≠ 0 by decide)
  have h2 := Int.emod_lt_of_pos (cellZ ns a) (show (0 : Int) < 4 by decide)
  unfold midC
  rw [List.length_map, List.length_range]
  generalize hk : (cellZ ns a % 4).toNat = k
  have : k < 4 := by omega
  match k, this with
  | 0, _ => decide
  | 1, _ => decide
  | 2, _ => decide
  | 3, _ => decide
theorem dis_get {xs : List Int} {k : Nat} (h : k < xs.length) : (xs.map di)[k]? = some (di (xs.getD k 0)) := by
  rw [List.getElem?_map, List.getElem?_eq_getElem h, List.getD_eq_getElem?_getD, List.getElem?_eq_getElem h]
  rfl
theorem d2_ixScr {T : Tx} {ns : List Int} {i : Int} {k : Nat} (h : k < ns.length) (e : i = (k : Int)) : D2 T (rIxL T.K) (.scr ns) (di i) (di (ns.getD k 0)) := fun H x y hx hy Q q => by
  obtain ⟨p, rfl, h2⟩ := is_scr.mp hx
  refine ⟨p, _, i, .int (ns.getD k 0), rfl, is_v.mp hy, h2, ?_, q _ H (Same.refl H) (is_v.mpr rfl)⟩
  rw [e]
  refine atI_nat ?_
  rw [List.getElem?_map, List.getElem?_eq_getElem h, List.getD_eq_getElem?_getD, List.getElem?_eq_getElem h]
  rfl
theorem d2_ixInts {T : Tx} {xs : List Int} {i : Int} (h0 : 0 ≤ i) (h : i < xs.length) : D2 T (rIxL T.K) (.lst (xs.map di)) (di i) (di (xs.getD i.toNat 0)) := d2_ixL (k := i.toNat) (dis_get (by omega)) (by omega)
/-- a row in the law's form: lists or tuples -/
def tF (a : Bool × Bool × Bool) (F : Fm) : De := .tup (sqs a F)
abbrev dL (F : Fm) : De := tF (true, true, true) F
theorem dF_tF (F : Fm) : dF F = tF (false, false, false) F := rfl
section
variable {P : Program} {w : World} {K : PySem.W.Frag} {mg : Str → Option Value} {base : Heap} (T : Tt K mg)
def spCell (K : PySem.W.Frag) : Sp := spD (tx K) (fun a : List Int × Int => [.scr a.1, di a.2]) (fun a => a.1.length ≤ 63) (fun a => di (cellZ a.1 a.2))
def spValue (K : PySem.W.Frag) : Sp := spD (tx K) (fun c : Int => [di c]) (fun _ => True) (fun c => dc (valC c))
def spRing (K : PySem.W.Frag) : Sp := spD (tx K) (fun a : List Int × Int => [.scr a.1, di a.2]) (fun a => a.1.length ≤ 63) (fun a => .lst (dcs (ringC a.1 a.2)))
def spRowZ (K : PySem.W.Frag) : Sp := spD (tx K) (fun a : List Int × Int × Int => [.scr a.1, di a.2.1, di a.2.2]) (fun a => a.1.length ≤ 63) (fun a => dL (rowZ a.1 a.2.1 a.2.2))
def spBase (K : PySem.W.Frag) : Sp := spD (tx K) (fun a : List Int => [.scr a]) (fun a => a.length ≤ 63) (fun a => di (baseZ a))
def spAt (K : PySem.W.Frag) : Sp := spD (tx K) (fun a : (Bool × Bool × Bool) × Fm × Int => [tF a.1 a.2.1, di a.2.2]) (fun a => a.2.1.Ok) (fun a => dc (a.2.1.at a.2.2))
include T
theorem c_law_cell : Cal P w K mg base CX0 1 "_law_cell" (spCell K) := by
  obtain ⟨fd, F⟩ := fd_law_cell T
  refine ⟨⟨fd, ["_law_script", "_law_k"], fn0 F sc_law_cell (spD_len fun _ => rfl) (fun cdv A outer s H vs Q E hr h => ?_), gl_law_cell T, F.kp, F.bindsN (fun _ _ _ _ _ _ us hl => match us, hl with | [_, _], _ => rfl)⟩⟩
  obtain ⟨⟨ns, k⟩, i, hz, q⟩ := h
  refine ⟨_, (pss_cons (ps_set (i := 2) sc_law_cell.nd rfl (Or.inl rfl) (pe_op op_add (pe_op op_mul pe_int (pv 1)) pe_int))
      (pss_cons (ps_if (pt_cmpR (op_neD hr.units) (pv 0) (pe_lst pa_nil) (nomark _)) (pss_cons (ps_set (i := 2) sc_law_cell.nd rfl (Or.inl rfl) (pe_op op_mul (pe_ix (r := rIxL K) ix_list (pv 0) (pe_op op_mod (pv 1) (pe_callB (r := rLenS K) call_lenS (by rfl) (fr_len T) PySem.boot_len (pa_cons (pv 0) pa_nil))) (fun _ _ => rfl)) pe_int))
      (pss_one (ps_set (i := 2) sc_law_cell.nd rfl (Or.inl rfl) (pe_op op_add (pe_op op_add (pv 2) (pe_op op_mul pe_int (pv 1))) (pe_op op_mul (pe_op op_fdiv (pv 1) (pe_callB (r := rLenS K) call_lenS (by rfl) (fr_len T) PySem.boot_len (pa_cons (pv 0) pa_nil))) pe_int))))) pss_nil)
      (pss_cons (ps_set (i := 3) sc_law_cell.nd rfl (Or.inl rfl) (pe_op op_mod (pv 2) pe_int))
      (pss_cons (ps_set (i := 3) sc_law_cell.nd rfl (Or.inl rfl) (pe_op op_mod (pe_op op_mul (pv 3) (pv 3)) pe_int))
      (pss_one (ps_ret (pe_op op_mod (pe_op op_add (pe_op op_add (pe_op op_mul (pv 3) (pv 3)) (pe_op op_mul pe_int (pv 3))) (pv 1)) pe_int))))))), ?_⟩
  refine by_run (ds := [.scr ns, di k]) (d := di (cellZ ns k)) i (Nat.le_of_ble_eq_true rfl) ?_ q
  dsimp only at hz
  refine run_seq (run_asg (evd_op (evd_op evd_c (evd_var rfl) (d2_I (.inl ⟨by decide, by decide⟩))) evd_c d2_I0) ?_)
  refine run_seq (run_mono (Nx := fun S => S = [some (.scr ns), some (di k), some (di (cell0 ns k)), none]) (Rt := fun _ => False) (run_if (evb_test (evd_op (evd_var rfl) (evd_lst evl_nil (by decide)) d2_neScr)) (fun hb => ?_) (fun hb => ?_)) (fun S' hS => ?_) (fun _ z => z.elim))
  · rw [Bool.not_eq_true', decide_eq_false_iff_not] at hb
    have hl : 0 < ns.length := List.length_pos_iff.mpr hb
    have h1 := Int.emod_nonneg k (show (ns.length : Int) ≠ 0 by omega)
    have h2 := Int.emod_lt_of_pos k (show (0 : Int) < ns.length by omega)
    refine run_seq (run_asg (evd_op (evd_op (evd_var rfl) (evd_op (evd_var rfl) (evd_cb (evl_cons (evd_var rfl) evl_nil) dc_lenS) (d2_I (by omega))) (d2_ixScr (k := (k % (ns.length : Int)).toNat) (by omega) (by omega))) evd_c (d2_I (.inr ⟨by decide, by decide⟩))) ?_)
    refine run_ex (d' := di (cell0 ns k)) (evd_op (evd_op (evd_var rfl) (evd_op evd_c (evd_var rfl) (d2_I (.inl ⟨by decide, by decide⟩))) d2_I0) (evd_op (evd_op (evd_var rfl) (evd_cb (evl_cons (evd_var rfl) evl_nil) dc_lenS) (d2_I ⟨by omega, by omega⟩)) evd_c (d2_I (.inr ⟨by decide, by decide⟩))) d2_I0) (by unfold cell0; rw [if_neg hb]) rfl
  · rw [Bool.not_eq_false', decide_eq_true_eq] at hb
    refine run_next ?_
    show [some (De.scr ns), some (di k), some (di (7919 * k + 11)), none] = _
    unfold cell0
    rw [if_pos hb]
  · subst hS
    have hM : ∀ x : Int, 0 ≤ x % 2147483647 ∧ x % 2147483647 < 2147483647 := fun x => ⟨Int.emod_nonneg _ (by decide), Int.emod_lt_of_pos _ (by decide)⟩
    have hM2 : 0 ≤ cellM (cell0 ns k) ∧ cellM (cell0 ns k) < 2147483629 := ⟨Int.emod_nonneg _ (by decide), Int.emod_lt_of_pos _ (by decide)⟩
    obtain ⟨a1, a2⟩ := hM (cell0 ns k)
    refine run_seq (run_asg (evd_op (evd_var rfl) evd_c (d2_I (by decide))) ?_)
    refine run_seq (run_ex (d' := di (cellM (cell0 ns k))) (evd_op (evd_op (evd_var rfl) (evd_var rfl) (d2_I (.inl ⟨by omega, by omega⟩))) evd_c (d2_I (by decide))) rfl ?_)
    exact run_ret (evd_op (evd_op (evd_op (evd_op (evd_var rfl) (evd_var rfl) (d2_I (.inl ⟨by omega, by omega⟩))) (evd_op evd_c (evd_var rfl) (d2_I (.inl ⟨by decide, by decide⟩))) d2_I0) (evd_var rfl) d2_I0) evd_c (d2_I (by decide))) rfl
theorem c_law_value : Cal P w K mg base CX0 1 "_law_value" (spValue K) := by
  obtain ⟨fd, F⟩ := fd_law_value T
  refine ⟨⟨fd, ["_law_cell_here"], fn0 F sc_law_value (spD_len fun _ => rfl) (fun cdv A outer s H vs Q E hr h => ?_), gl_law_value T, F.kp, F.bindsN (fun _ _ _ _ _ _ us hl => match us, hl with | [_], _ => rfl)⟩⟩
  obtain ⟨c, i, _, q⟩ := h
  refine ⟨_, (pss_one (ps_ret (pe_ix (r := rIxL K) ix_list (pe_lst (pa_cons pe_non (pa_cons pe_non (pa_cons pe_int (pa_cons pe_int (pa_cons pe_int (pa_cons pe_int (pa_cons (pe_un un_neg pe_int) (pa_cons (pe_op op_add (pe_op op_pow pe_int pe_int) pe_int) pa_nil))))))))) (pe_op op_mod (pv 0) pe_int) (fun _ _ => rfl)))), ?_⟩
  refine by_run (ds := [di c]) (d := dc (valC c)) i (Nat.le_of_ble_eq_true rfl) ?_ q
  have h1 := Int.emod_nonneg c (show (8 : Int) ≠ 0 by decide)
  have h2 := Int.emod_lt_of_pos c (show (0 : Int) < 8 by decide)
  exact run_ret (evd_op (evd_is (evd_lst (evl_cons evd_c (evl_cons evd_c (evl_cons evd_c (evl_cons evd_c (evl_cons evd_c (evl_cons evd_c (evl_cons (evd_un evd_c d1_neg) (evl_cons (evd_op (evd_op evd_c evd_c (d2_I ⟨by decide, by decide, by decide⟩)) evd_c d2_I0) evl_nil)))))))) (Nat.le_of_ble_eq_true rfl)) (show _ = De.lst (dcs valL) from rfl)) (evd_op (evd_var rfl) evd_c (d2_I (by decide))) (d2_ixL (k := (c % 8).toNat) (dcs_get (by show _ < 8; omega)) (by omega))) rfl
theorem c_law_ring : Cal P w K mg base CX0 2 "_law_ring" (spRing K) := by
  obtain ⟨fd, F⟩ := fd_law_ring T
  refine ⟨⟨fd, ["_law_script", "_law_at_here"], fn0 F sc_law_ring (spD_len fun _ => rfl) (fun cdv A outer s H vs Q E hr h => ?_), gl_law_ring T, F.kp, F.bindsN (fun _ _ _ _ _ _ us hl => match us, hl with | [_, _], _ => rfl)⟩⟩
  obtain ⟨⟨ns, a⟩, i, hz, q⟩ := h
  refine ⟨_, (pss_cons (ps_set (i := 2) sc_law_ring.nd rfl (Or.inl rfl) (pe_cal (c_law_cell T) (hr.mono (by decide)) rfl pass0 (pa_cons (pv 0) (pa_cons (pv 1) pa_nil))))
      (pss_cons (ps_set (i := 3) sc_law_ring.nd rfl (Or.inl rfl) (pe_ix (r := rIxL K) ix_list (pe_lst (pa_cons pe_int (pa_cons pe_int (pa_cons pe_int (pa_cons pe_int (pa_cons pe_int (pa_cons pe_int pa_nil))))))) (pe_op op_mod (pv 2) pe_int) (fun _ _ => rfl)))
      (pss_one (ps_ret (pe_op op_rep (pe_lc (own := [("_law_k", 4)]) (g := gName 4) rfl sc_law_ring.nd (pi_any1 rfl (fr_range T) (pa_cons (pv 3) pa_nil)) (blkOk_by (own := [("_law_k", 4)]) (N := n_law_ring) (sc := defScope s_law_ring) (by decide +kernel)) (fun _ _ _ _ _ => pg_name (i := 4) sc_law_ring.nd rfl (Or.inl rfl)) (fun _ _ _ _ _ => pts_nil) (fun _ _ _ _ _ => (pe_cal (c_law_value T) (hr.mono (by decide)) rfl pass0 (pa_cons (pe_cal (c_law_cell T) (hr.mono (by decide)) rfl pass0 (pa_cons (pv 0) (pa_cons (pe_op op_add (pe_op op_add (pv 1) pe_int) (pv 4)) pa_nil))) pa_nil)))) (pe_op op_add pe_int (pe_op op_mod (pe_op op_fdiv (pv 2) pe_int) pe_int))))))), ?_⟩
  refine by_run (ds := [.scr ns, di a]) (d := .lst (dcs (ringC ns a))) i (Nat.le_of_ble_eq_true rfl) ?_ q
  obtain ⟨n1, n2, n3, n4⟩ := ringN_ok ns a
  have h1 := Int.emod_nonneg (cellZ ns a) (show (6 : Int) ≠ 0 by decide)
  have h2 := Int.emod_lt_of_pos (cellZ ns a) (show (0 : Int) < 6 by decide)
  have t1 := Int.emod_nonneg (cellZ ns a / 6) (show (3 : Int) ≠ 0 by decide)
  have t2 := Int.emod_lt_of_pos (cellZ ns a / 6) (show (0 : Int) < 3 by decide)
  refine run_seq (run_asg (evd_call (evl_cons (evd_var rfl) (evl_cons (evd_var rfl) evl_nil)) (sd_D (ns, a) hz)) ?_)
  refine run_seq (run_ex (d' := di (ringN ns a : Int)) (evd_op (evd_is (evd_lst (evl_cons evd_c (evl_cons evd_c (evl_cons evd_c (evl_cons evd_c (evl_cons evd_c (evl_cons evd_c evl_nil)))))) (Nat.le_of_ble_eq_true rfl)) (show _ = De.lst (manyL.map di) from rfl)) (evd_op (evd_var rfl) evd_c (d2_I (by decide))) (d2_ixInts h1 h2)) (by rw [n4]) ?_)
  have eY : ((List.range ((ringN ns a : Int)).toNat).map fun (k : Nat) => dc (valC (cellZ ns (a + 1 + (k : Int))))) = dcs (ringY ns a) := by
    rw [Int.toNat_natCast]
    show _ = List.map _ (List.map _ _)
    rw [List.map_map]; rfl
  refine run_ret (evd_is (evd_op (evd_is (evd_lcR1 (fun k => dc (valC (cellZ ns (a + 1 + (k : Int))))) (evl_cons (evd_var rfl) evl_nil) (by omega) (fun k hk => (evd_call (evl_cons (evd_call (evl_cons (evd_var rfl) (evl_cons (evd_op (evd_op (evd_var rfl) evd_c d2_I0) (evd_var rfl) d2_I0) evl_nil)) (sd_D (ns, a + 1 + (k : Int)) hz)) evl_nil) (sd_D (cellZ ns (a + 1 + (k : Int))) trivial))) (fun _ _ => rfl)) (congrArg De.lst eY)) (evd_op evd_c (evd_op (evd_op (evd_var rfl) evd_c (d2_I ⟨by decide, by decide⟩)) evd_c (d2_I (by decide))) d2_I0) (d2_repL (by omega) (by omega) ?_)) (by rw [dcs_rep]; rfl)) rfl
  rw [dcs_len, ringY_len]
  exact Nat.le_trans (Nat.mul_le_mul n2 (show _ ≤ 3 by omega)) (by decide)
theorem c_law_row : Cal P w K mg base CX0 3 "_law_row" (spRowZ K) := by
  obtain ⟨fd, F⟩ := fd_law_row T
  refine ⟨⟨fd, ["_law_script", "_law_at_here", "_law_base_here"], fn0 F sc_law_row (spD_len fun _ => rfl) (fun cdv A outer s H vs Q E hr h => ?_), gl_law_row T, F.kp, F.bindsN (fun _ _ _ _ _ _ us hl => match us, hl with | [_, _, _], _ => rfl)⟩⟩
  obtain ⟨⟨ns, a, b⟩, i, hz, q⟩ := h
  refine ⟨_, (pss_cons (ps_set (i := 3) sc_law_row.nd rfl (Or.inl rfl) (pe_cal (c_law_cell T) (hr.mono (by decide)) rfl pass0 (pa_cons (pv 0) (pa_cons (pv 1) pa_nil))))
      (pss_cons (ps_set (i := 4) sc_law_row.nd rfl (Or.inl rfl) (pe_ix (r := rIxL K) ix_list (pe_lst (pa_cons pe_int (pa_cons pe_int (pa_cons pe_int (pa_cons pe_int pa_nil))))) (pe_op op_mod (pv 3) pe_int) (fun _ _ => rfl)))
      (pss_cons (ps_setLc (i := 5) (own := [("_law_k", 6)]) (g := gName 6) rfl sc_law_row.nd rfl rfl (sw_true rfl rfl rfl (by decide +kernel)) (pi_any1 rfl (fr_range T) (pa_cons (pv 4) pa_nil)) (blkOk_by (own := [("_law_k", 6)]) (N := n_law_row) (sc := defScope s_law_row) (by decide +kernel)) (fun _ _ _ _ _ => pg_name (i := 6) sc_law_row.nd rfl (Or.inl rfl)) (fun _ _ _ _ _ => pts_nil) (fun _ _ _ _ _ => (pe_cal (c_law_value T) (hr.mono (by decide)) rfl pass0 (pa_cons (pe_cal (c_law_cell T) (hr.mono (by decide)) rfl pass0 (pa_cons (pv 0) (pa_cons (pe_op op_add (pe_op op_add (pv 1) pe_int) (pv 6)) pa_nil))) pa_nil))))
      (pss_one (ps_ret (pe_tup (pa_cons (pe_cal (c_law_ring T) (hr.mono (by decide)) rfl pass0 (pa_cons (pv 0) (pa_cons (pe_op op_add (pv 1) pe_int) pa_nil))) (pa_cons (pv 5) (pa_cons (pe_op op_sub (pe_op op_add (pv 2) (pe_op op_mod (pe_op op_fdiv (pv 3) pe_int) pe_int)) pe_int) (pa_cons (pe_cal (c_law_ring T) (hr.mono (by decide)) rfl pass0 (pa_cons (pv 0) (pa_cons (pe_op op_add (pv 1) pe_int) pa_nil))) pa_nil)))))))))), ?_⟩
  refine by_run (ds := [.scr ns, di a, di b]) (d := dL (rowZ ns a b)) i (Nat.le_of_ble_eq_true rfl) ?_ q
  have h1 := Int.emod_nonneg (cellZ ns a) (show (4 : Int) ≠ 0 by decide)
  have h2 := Int.emod_lt_of_pos (cellZ ns a) (show (0 : Int) < 4 by decide)
  have hm := midC_len ns a
  unfold midC at hm
  rw [List.length_map, List.length_range] at hm
  refine run_seq (run_ex (d' := di (cellZ ns a)) (evd_call (evl_cons (evd_var rfl) (evl_cons (evd_var rfl) evl_nil)) (sd_D (ns, a) hz)) rfl ?_)
  refine run_seq (run_ex (d' := di (midL.getD (cellZ ns a % 4).toNat 0)) (evd_op (evd_is (evd_lst (evl_cons evd_c (evl_cons evd_c (evl_cons evd_c (evl_cons evd_c evl_nil)))) (Nat.le_of_ble_eq_true rfl)) (show _ = De.lst (midL.map di) from rfl)) (evd_op (evd_var rfl) evd_c (d2_I (by decide))) (d2_ixInts h1 h2)) rfl ?_)
  have eY : ((List.range (midL.getD (cellZ ns a % 4).toNat 0).toNat).map fun (k : Nat) => dc (valC (cellZ ns (a + 1 + (k : Int))))) = dcs (midC ns a) := by
    show _ = List.map _ (List.map _ _)
    rw [List.map_map]; rfl
  refine run_seq (run_ex (d' := .lst (dcs (midC ns a))) (evd_lcR1 (fun k => dc (valC (cellZ ns (a + 1 + (k : Int))))) (evl_cons (evd_var rfl) evl_nil) (by omega) (fun k hk => (evd_call (evl_cons (evd_call (evl_cons (evd_var rfl) (evl_cons (evd_op (evd_op (evd_var rfl) evd_c d2_I0) (evd_var rfl) d2_I0) evl_nil)) (sd_D (ns, a + 1 + (k : Int)) hz)) evl_nil) (sd_D (cellZ ns (a + 1 + (k : Int))) trivial))) (fun _ _ => rfl)) (congrArg De.lst eY) ?_)
  exact run_ret (evd_tup (evl_cons (evd_call (evl_cons (evd_var rfl) (evl_cons (evd_op (evd_var rfl) evd_c d2_I0) evl_nil)) (sd_D (ns, a + 10) hz)) (evl_cons (evd_var rfl) (evl_cons (evd_op (evd_op (evd_var rfl) (evd_op (evd_op (evd_var rfl) evd_c (d2_I ⟨by decide, by decide⟩)) evd_c (d2_I (by decide))) d2_I0) evd_c d2_I0) (evl_cons (evd_call (evl_cons (evd_var rfl) (evl_cons (evd_op (evd_var rfl) evd_c d2_I0) evl_nil)) (sd_D (ns, a + 20) hz)) evl_nil)))) (Nat.le_of_ble_eq_true rfl)) rfl
theorem c_law_base : Cal P w K mg base CX0 2 "_law_base" (spBase K) := by
  obtain ⟨fd, F⟩ := fd_law_base T
  refine ⟨⟨fd, ["_law_script"], fn0 F sc_law_base (spD_len fun _ => rfl) (fun cdv A outer s H vs Q E hr h => ?_), gl_law_base T, F.kp, F.bindsN (fun _ _ _ _ _ _ us hl => match us, hl with | [_], _ => rfl)⟩⟩
  obtain ⟨ns, i, hz, q⟩ := h
  refine ⟨_, (pss_one (ps_ret (pe_ix (r := rIxL K) ix_list (pe_lst (pa_cons pe_int (pa_cons pe_int (pa_cons (pe_op op_pow pe_int pe_int) (pa_cons (pe_op op_sub (pe_un un_neg (pe_op op_pow pe_int pe_int)) pe_int) (pa_cons pe_int pa_nil)))))) (pe_op op_mod (pe_cal (c_law_cell T) (hr.mono (by decide)) rfl pass0 (pa_cons (pv 0) (pa_cons pe_int pa_nil))) pe_int) (fun _ _ => rfl)))), ?_⟩
  refine by_run (ds := [.scr ns]) (d := di (baseZ ns)) i (Nat.le_of_ble_eq_true rfl) ?_ q
  have h1 := Int.emod_nonneg (cellZ ns 3) (show (5 : Int) ≠ 0 by decide)
  have h2 := Int.emod_lt_of_pos (cellZ ns 3) (show (0 : Int) < 5 by decide)
  exact run_ret (evd_op (evd_is (evd_lst (evl_cons evd_c (evl_cons evd_c (evl_cons (evd_op evd_c evd_c (d2_I ⟨by decide, by decide, by decide⟩)) (evl_cons (evd_op (evd_un (evd_op evd_c evd_c (d2_I ⟨by decide, by decide, by decide⟩)) d1_neg) evd_c d2_I0) (evl_cons evd_c evl_nil))))) (Nat.le_of_ble_eq_true rfl)) (show _ = De.lst (baseL.map di) from rfl)) (evd_op (evd_call (evl_cons (evd_var rfl) (evl_cons evd_c evl_nil)) (sd_D (ns, 3) hz)) evd_c (d2_I (by decide))) (d2_ixInts h1 h2)) rfl
theorem c_law_at : Cal P w K mg base CX0 1 "_law_at" (spAt K) := by
  obtain ⟨fd, F⟩ := fd_law_at T
  refine ⟨⟨fd, ["_law_form", "_law_place"], fn0 F sc_law_at (spD_len fun _ => rfl) (fun cdv A outer s H vs Q E hr h => ?_), gl_law_at T, F.kp, F.bindsN (fun _ _ _ _ _ _ us hl => match us, hl with | [_, _], _ => rfl)⟩⟩
  obtain ⟨⟨⟨b1, b2, b3⟩, F, p⟩, i, hok, q⟩ := h
  refine ⟨_, (pss_cons (ps_asg (pv 0) (pg_tup rfl (pgs_cons (pg_name (i := 2) sc_law_at.nd rfl (Or.inl rfl)) (pgs_cons (pg_name (i := 3) sc_law_at.nd rfl (Or.inl rfl)) (pgs_cons (pg_name (i := 4) sc_law_at.nd rfl (Or.inl rfl)) (pgs_cons (pg_name (i := 5) sc_law_at.nd rfl (Or.inl rfl)) pgs_nil))))))
      (pss_cons (ps_if (pt_cmpR op_lt (pv 1) (pv 4) (nomark _)) (pss_one (ps_ret (pe_ix (r := rIx K) ix_seq (pv 2) (pe_op op_mod (pe_op op_sub (pv 1) (pv 4)) (pe_callB (r := rLenS K) call_lenS (by rfl) (fr_len T) PySem.boot_len (pa_cons (pv 2) pa_nil))) (fun _ _ => rfl)))) pss_nil)
      (pss_cons (ps_if (pt_cmpR op_lt (pv 1) (pe_op op_add (pv 4) (pe_callB (r := rLenS K) call_lenS (by rfl) (fr_len T) PySem.boot_len (pa_cons (pv 3) pa_nil))) (nomark _)) (pss_one (ps_ret (pe_ix (r := rIx K) ix_seq (pv 3) (pe_op op_sub (pv 1) (pv 4)) (fun _ _ => rfl)))) pss_nil)
      (pss_one (ps_ret (pe_ix (r := rIx K) ix_seq (pv 5) (pe_op op_mod (pe_op op_sub (pe_op op_sub (pv 1) (pv 4)) (pe_callB (r := rLenS K) call_lenS (by rfl) (fr_len T) PySem.boot_len (pa_cons (pv 3) pa_nil))) (pe_callB (r := rLenS K) call_lenS (by rfl) (fr_len T) PySem.boot_len (pa_cons (pv 5) pa_nil))) (fun _ _ => rfl))))))), ?_⟩
  refine by_run (ds := [tF (b1, b2, b3) F, di p]) (d := dc (F.at p)) i (Nat.le_of_ble_eq_true rfl) ?_ q
  have hl : 0 < F.l.length := List.length_pos_iff.mpr hok.l0
  have hr' : 0 < F.r.length := List.length_pos_iff.mpr hok.r0
  refine run_seq (run_unT (is := [2, 3, 4, 5]) (evd_var rfl) rfl rfl (run_seq (run_if (evb_test (evd_op (evd_var rfl) (evd_var rfl) d2_I0)) (fun hb => ?_) (fun hb => run_next (run_seq (run_if (evb_test (evd_op (evd_var rfl) (evd_op (evd_var rfl) (evd_cb (evl_cons (evd_var rfl) evl_nil) dc_len) d2_I0) d2_I0)) (fun hb2 => ?_) (fun hb2 => run_next ?_)))))))
  · have hb := of_decide_eq_true hb
    obtain ⟨k, h1, h2, h3⟩ := rg_mod (xs := F.l) (i := p - F.f) hl
    refine run_ret (evd_is (evd_op (evd_var rfl) (evd_op (evd_op (evd_var rfl) (evd_var rfl) d2_I0) (evd_cb (evl_cons (evd_var rfl) evl_nil) dc_len) (d2_I (by rw [dcs_len]; omega))) (d2_ix (k := k) (dcs_get h2) (by rw [dcs_len]; exact h1))) ?_) rfl
    rw [Fm.at_l (by omega), h3]
  · have hb := of_decide_eq_false hb
    have hb2 := of_decide_eq_true hb2
    rw [dcs_len] at hb2
    refine run_ret (evd_is (evd_op (evd_var rfl) (evd_op (evd_var rfl) (evd_var rfl) d2_I0) (d2_ix (k := (p - F.f).toNat) (dcs_get (by omega)) (by omega))) ?_) rfl
    rw [Fm.at_m (by omega) (by omega)]
  · have hb := of_decide_eq_false hb
    have hb2 := of_decide_eq_false hb2
    rw [dcs_len] at hb2
    obtain ⟨k, h1, h2, h3⟩ := rg_mod (xs := F.r) (i := p - F.f - (F.m.length : Int)) hr'
    refine run_ret (evd_is (evd_op (evd_var rfl) (evd_op (evd_op (evd_op (evd_var rfl) (evd_var rfl) d2_I0) (evd_cb (evl_cons (evd_var rfl) evl_nil) dc_len) d2_I0) (evd_cb (evl_cons (evd_var rfl) evl_nil) dc_len) (d2_I (by rw [dcs_len]; omega))) (d2_ix (k := k) (dcs_get h2) (by rw [dcs_len, dcs_len]; exact h1))) ?_) rfl
    rw [Fm.at_r (by omega), h3]
end
end Fx

/-! FwC1: the law's own reckoning. -/
namespace Fx
open PySem PySem.Spec PyProof.Rows L2 Fw
inductive R3 where
  | U
  | O
  | S
def ruleS : R3 → Str
  | .U => "unlike"
  | .O => "other"
  | .S => "same"
def ruO (cs : List C) : C := if cs.getD 0 none = cs.getD 1 none then none else cs.getD 1 none
def ruS (cs : List C) : C := cs.getD 0 none
def ruleL : R3 → List C → C
  | .U => ruU
  | .O => ruO
  | .S => ruS
def okR3 : R3 → Nat → Prop
  | .U, n => 2 ≤ n
  | .O, n => 2 ≤ n
  | .S, n => 1 ≤ n
abbrev FL := List ((Bool × Bool × Bool) × Fm)
def lF (as : FL) : De := .lst (as.map fun x => tF x.1 x.2)
def FL.Fs (as : FL) : List Fm := as.map fun x => x.2
theorem wv_same (F : Fm) : wv [F] (ruleL .S) = F.at := rfl
section
variable {P : Program} {w : World} {K : PySem.W.Frag} {mg : Str → Option Value} {base : Heap} (T : Tt K mg)
def spMade (K : PySem.W.Frag) : Sp := spD (tx K) (fun a : (Bool × Bool × Bool) × Fm × Int => [tF a.1 a.2.1, di a.2.2]) (fun a => Fm.Fit a.2.1) (fun a => .row a.2.1)
def spRuleL (K : PySem.W.Frag) : Sp := spD (tx K) (fun a : R3 × List C => [.v (.str (ruleS a.1)), .lst (dcs a.2)]) (fun a => okR3 a.1 a.2.length) (fun a => dc (ruleL a.1 a.2))
def spLeastL (K : PySem.W.Frag) : Sp := spD (tx K) (fun xs : List C => [.lst (dcs xs)]) (fun xs => xs ≠ [] ∧ xs.length ≤ 4000) (fun xs => .lst (dcs (xs.take (leastLen xs))))
def spTell (K : PySem.W.Frag) : Sp := spD (tx K) (fun a : R3 × FL × Int => [lF a.2.1, .v (.str (ruleS a.1)), di a.2.2]) (fun a => okR3 a.1 a.2.1.length ∧ a.2.1.length ≤ 3 ∧ ∀ x ∈ a.2.1, x.2.Ok) (fun a => dc (wv a.2.1.Fs (ruleL a.1) a.2.2))
structure PlL (r : R3) (as : FL) (a b : Int) (L R : Nat) : Prop where
  ok : okR3 r as.length
  len : as.length ≤ 3
  fs : ∀ x ∈ as, x.2.Ok
  ab : a ≤ b
  w : b - a ≤ 4000
  l0 : 0 < L
  l1 : L ≤ 4000
  r0 : 0 < R
  r1 : R ≤ 4000
  pl : PL (wv as.Fs (ruleL r)) a L
  pr : PR (wv as.Fs (ruleL r)) b R
noncomputable def spPlainL (K : PySem.W.Frag) : Sp := spD (tx K) (fun a : R3 × FL × Int × Int × Nat × Nat => [lF a.2.1, .v (.str (ruleS a.1)), di a.2.2.1, di a.2.2.2.1, di (a.2.2.2.2.1 : Int), di (a.2.2.2.2.2 : Int)]) (fun a => PlL a.1 a.2.1 a.2.2.1 a.2.2.2.1 a.2.2.2.2.1 a.2.2.2.2.2) (fun a => dF (plf (wv a.2.1.Fs (ruleL a.1))))
noncomputable def spOnce (K : PySem.W.Frag) : Sp := spD (tx K) (fun a : (Bool × Bool × Bool) × Fm => [tF a.1 a.2]) (fun a => Fm.Fit a.2) (fun a => dF (plf a.2.at))
include T
theorem c_law_made : Cal P w K mg base CX0 6 "_law_made" (spMade K) := by
  obtain ⟨fd, F⟩ := fd_law_made T
  refine ⟨⟨fd, ["_law_form", "_law_turn"], fn0 F sc_law_made (spD_len fun _ => rfl) (fun cdv A outer s H vs Q E hr h => ?_), gl_law_made T, F.kp, F.bindsN (fun _ _ _ _ _ _ us hl => match us, hl with | [_, _], _ => rfl)⟩⟩
  obtain ⟨⟨⟨b1, b2, b3⟩, F, t⟩, i, ft, q⟩ := h
  refine ⟨_, (pss_cons (ps_asg (pv 0) (pg_tup rfl (pgs_cons (pg_name (i := 2) sc_law_made.nd rfl (Or.inl rfl)) (pgs_cons (pg_name (i := 3) sc_law_made.nd rfl (Or.inl rfl)) (pgs_cons (pg_name (i := 4) sc_law_made.nd rfl (Or.inl rfl)) (pgs_cons (pg_name (i := 5) sc_law_made.nd rfl (Or.inl rfl)) pgs_nil))))))
      (pss_cons (ps_if (pt_cmpR op_eq (pe_op op_mod (pv 1) pe_int) pe_int (nomark _)) (pss_one (ps_ret (pe_calK (k_Row T) (hr.mono (by decide)) rfl pass0 (pa_cons (pv 2) (pa_cons (pv 3) (pa_cons (pv 4) (pa_cons (pv 5) pa_nil))))))) pss_nil)
      (pss_one (ps_ret (pe_calK (k_Row T) (hr.mono (by decide)) rfl pass0 (pa_cons (pe_callTy call_tupS (by rfl) (fr_tuple T) (by decide +kernel) (pa_cons (pv 2) pa_nil)) (pa_cons (pe_callTy call_tupS (by rfl) (fr_tuple T) (by decide +kernel) (pa_cons (pv 3) pa_nil)) (pa_cons (pv 4) (pa_cons (pe_callTy call_tupS (by rfl) (fr_tuple T) (by decide +kernel) (pa_cons (pv 5) pa_nil)) pa_nil))))))))), ?_⟩
  refine by_run (ds := [tF (b1, b2, b3) F, di t]) (d := .row F) i (Nat.le_of_ble_eq_true rfl) ?_ q
  refine run_seq (run_unT (is := [2, 3, 4, 5]) (evd_var rfl) rfl rfl (run_seq (run_if (evb_test (evd_op (evd_op (evd_var rfl) evd_c (d2_I (by decide))) evd_c d2_eqI)) (fun hb => ?_) (fun hb => run_next ?_))))
  · exact run_ret (evd_makeRow (b1, b2, b3) F (evl_cons (evd_var rfl) (evl_cons (evd_var rfl) (evl_cons (evd_var rfl) (evl_cons (evd_var rfl) evl_nil)))) ft) rfl
  · exact run_ret (evd_makeRow (false, false, false) F (evl_cons (evd_cb (evl_cons (evd_var rfl) evl_nil) dc_tup) (evl_cons (evd_cb (evl_cons (evd_var rfl) evl_nil) dc_tup) (evl_cons (evd_var rfl) (evl_cons (evd_cb (evl_cons (evd_var rfl) evl_nil) dc_tup) evl_nil)))) ft) rfl
theorem c_law_rule : Cal P w K mg base CX0 1 "_law_rule" (spRuleL K) := by
  obtain ⟨fd, F⟩ := fd_law_rule T
  refine ⟨⟨fd, ["_law_rule_here", "_law_values"], fn0 F sc_law_rule (spD_len fun _ => rfl) (fun cdv A outer s H vs Q E hr h => ?_), gl_law_rule T, F.kp, F.bindsN (fun _ _ _ _ _ _ us hl => match us, hl with | [_, _], _ => rfl)⟩⟩
  obtain ⟨⟨r, cs⟩, i, hk, q⟩ := h
  refine ⟨_, (pss_cons (ps_if (pt_cmpR op_eq (pv 0) pe_str (nomark _)) (pss_one (ps_ret (pe_ifExp (pt_cmpR op_eq (pe_ix (r := rIxL K) ix_list (pv 1) pe_int (fun _ _ => rfl)) (pe_ix (r := rIxL K) ix_list (pv 1) pe_int (fun _ _ => rfl)) (nomark _)) pe_non pe_int))) pss_nil)
      (pss_cons (ps_if (pt_cmpR op_eq (pv 0) pe_str (nomark _)) (pss_one (ps_ret (pe_ifExp (pt_cmpR op_eq (pe_ix (r := rIxL K) ix_list (pv 1) pe_int (fun _ _ => rfl)) (pe_ix (r := rIxL K) ix_list (pv 1) pe_int (fun _ _ => rfl)) (nomark _)) pe_non (pe_ix (r := rIxL K) ix_list (pv 1) pe_int (fun _ _ => rfl))))) pss_nil)
      (pss_one (ps_ret (pe_ix (r := rIxL K) ix_list (pv 1) pe_int (fun _ _ => rfl)))))), ?_⟩
  refine by_run (ds := [.v (.str (ruleS r)), .lst (dcs cs)]) (d := dc (ruleL r cs)) i (Nat.le_of_ble_eq_true rfl) ?_ q
  have g0 : 0 < cs.length → (dcs cs)[0]? = some (dc (cs.getD 0 none)) := fun h => dcs_get h
  have g1 : 1 < cs.length → (dcs cs)[1]? = some (dc (cs.getD 1 none)) := fun h => dcs_get h
  cases r with
  | U =>
    have hk : 2 ≤ cs.length := hk
    refine run_seq (run_if (b := true) (evb_is (evb_test (evd_op (evd_var rfl) evd_c (d2_eq rfl))) (decide_eq_true rfl)) (fun hb => ?_) (fun hb => by cases hb))
    refine run_ret (evd_if (evb_test (evd_op (evd_op (evd_var rfl) evd_c (d2_ixL (k := 0) (g0 (by omega)) rfl)) (evd_op (evd_var rfl) evd_c (d2_ixL (k := 1) (g1 (by omega)) rfl)) d2_eqC)) (fun h => ?_) (fun h => ?_)) rfl
    · show EvD _ _ _ (dc (ruU cs))
      unfold ruU
      rw [if_pos (of_decide_eq_true h)]; exact evd_c
    · show EvD _ _ _ (dc (ruU cs))
      unfold ruU
      rw [if_neg (of_decide_eq_false h)]; exact evd_c
  | O =>
    have hk : 2 ≤ cs.length := hk
    refine run_seq (run_if (b := false) (evb_is (evb_test (evd_op (evd_var rfl) evd_c (d2_eq rfl))) (decide_eq_false (by decide))) (fun hb => by cases hb) (fun hb => run_next ?_))
    refine run_seq (run_if (b := true) (evb_is (evb_test (evd_op (evd_var rfl) evd_c (d2_eq rfl))) (decide_eq_true rfl)) (fun hb => ?_) (fun hb => by cases hb))
    refine run_ret (evd_if (evb_test (evd_op (evd_op (evd_var rfl) evd_c (d2_ixL (k := 0) (g0 (by omega)) rfl)) (evd_op (evd_var rfl) evd_c (d2_ixL (k := 1) (g1 (by omega)) rfl)) d2_eqC)) (fun h => ?_) (fun h => ?_)) rfl
    · show EvD _ _ _ (dc (ruO cs))
      unfold ruO
      rw [if_pos (of_decide_eq_true h)]; exact evd_c
    · show EvD _ _ _ (dc (ruO cs))
      unfold ruO
      rw [if_neg (of_decide_eq_false h)]; exact (evd_op (evd_var rfl) evd_c (d2_ixL (k := 1) (g1 (by omega)) rfl))
  | S =>
    have hk : 1 ≤ cs.length := hk
    refine run_seq (run_if (b := false) (evb_is (evb_test (evd_op (evd_var rfl) evd_c (d2_eq rfl))) (decide_eq_false (by decide))) (fun hb => by cases hb) (fun hb => run_next ?_))
    refine run_seq (run_if (b := false) (evb_is (evb_test (evd_op (evd_var rfl) evd_c (d2_eq rfl))) (decide_eq_false (by decide))) (fun hb => by cases hb) (fun hb => run_next ?_))
    exact run_ret (evd_op (evd_var rfl) evd_c (d2_ixL (k := 0) (g0 (by omega)) rfl)) rfl
theorem c_law_least : Cal P w K mg base CX0 1 "_law_least" (spLeastL K) := by
  obtain ⟨fd, F⟩ := fd_law_least T
  refine ⟨⟨fd, ["_law_values"], fn0 F sc_law_least (spD_len fun _ => rfl) (fun cdv A outer s H vs Q E hr h => ?_), gl_law_least T, F.kp, F.bindsN (fun _ _ _ _ _ _ us hl => match us, hl with | [_], _ => rfl)⟩⟩
  obtain ⟨xs, i, ⟨h0, h1⟩, q⟩ := h
  refine ⟨_, (pss_cons (ps_for PassesOwn.never rfl (pi_any2 rfl (fr_range T) (pa_cons pe_int (pa_cons (pe_op op_add (pe_callB (r := rLenS K) call_lenS (by rfl) (fr_len T) PySem.boot_len (pa_cons (pv 0) pa_nil)) pe_int) pa_nil))) (pg_name (i := 1) sc_law_least.nd rfl (Or.inl rfl)) (pss_one (ps_if (PW.pt (pw_and (pt_cmpR op_eq (pe_op op_mod (pe_callB (r := rLenS K) call_lenS (by rfl) (fr_len T) PySem.boot_len (pa_cons (pv 0) pa_nil)) (pv 1)) pe_int (nomark _)) (pw_and1 (pt_cmpR (r := rEqD K) (op_eqD hr.units) (pe_op op_rep (pe_slice sl_list (pv 0) po_none (po_some (pv 1))) (pe_op op_fdiv (pe_callB (r := rLenS K) call_lenS (by rfl) (fr_len T) PySem.boot_len (pa_cons (pv 0) pa_nil)) (pv 1))) (pv 0) (nomark _))))) (pss_one (ps_ret (pe_slice sl_list (pv 0) po_none (po_some (pv 1))))) pss_nil)))
      (pss_one (ps_ret (pv 0)))), ?_⟩
  refine by_run (ds := [.lst (dcs xs)]) (d := .lst (dcs (xs.take (leastLen xs)))) i (Nat.le_of_ble_eq_true rfl) ?_ q
  have hpos : 0 < xs.length := List.length_pos_iff.mpr h0
  have ok := leastLen_ok h0
  refine run_seq (run_for2P (lo := 1) (hi := xs.length + 1) (fun _ => [some (.lst (dcs xs)), none]) (fun k => ∀ j, 1 ≤ j → j < 1 + k → ¬ okR xs j) (evl_cons evd_c (evl_cons (evd_is (evd_op (evd_cb (evl_cons (evd_var rfl) evl_nil) dc_lenL) evd_c d2_I0) (by rw [dcs_len])) evl_nil)) (fun H σ e => e) (fun j a b => by omega) (fun k hk hP => ?_) (fun hP => ?_))
  · have hk2 : 1 + k ≤ xs.length := by omega
    have eMod : ((xs.length : Int) % (1 + (k : Int)) = 0) ↔ xs.length % (1 + k) = 0 := by
      rw [show (1 + (k : Int)) = ((1 + k : Nat) : Int) by omega, ← Int.natCast_emod]; omega
    have t1 : EvB (tx K) (tTest (tOp rEq (tOp (rI (fun _ j => 0 < j) fun i j => .int (i % j)) (tCB (rLenS K) (tCons (tVar 0) tNil)) (tVar 1)) (tC (.int 0)))) [some (.lst (dcs xs)), some (di (1 + (k : Int)))] (decide (xs.length % (1 + k) = 0)) :=
      evb_is (evb_test (evd_op (evd_op (evd_is (evd_cb (evl_cons (evd_var rfl) evl_nil) dc_lenL) (by rw [dcs_len])) (evd_var rfl) (d2_I (by omega))) evd_c d2_eqI)) (by rw [decide_eq_decide]; exact eMod)
    have sl : EvD (tx K) (tSl (rSlL K) (tVar 0) tNoPart (tPart (tVar 1))) [some (.lst (dcs xs)), some (di (1 + (k : Int)))] (.lst (dcs (xs.take (1 + k)))) :=
      evd_is (evd_slL (evd_var rfl) evo_no (evo_some (evd_var rfl))) (by
        rw [cut_take (k := 1 + k) (by rw [dcs_len]; omega) (by omega), dcs_take])
    have t2 : xs.length % (1 + k) = 0 → EvB (tx K) (tTest (tOp (rEqD K) (tOp rRep (tSl (rSlL K) (tVar 0) tNoPart (tPart (tVar 1))) (tOp (rI CDiv fun i j => .int (i / j)) (tCB (rLenS K) (tCons (tVar 0) tNil)) (tVar 1))) (tVar 0))) [some (.lst (dcs xs)), some (di (1 + (k : Int)))] (decide (rep (xs.length / (1 + k)) (xs.take (1 + k)) = xs)) := fun hm => by
      obtain ⟨c, hc⟩ := Nat.dvd_of_mod_eq_zero hm
      have hq : xs.length / (1 + k) = c := by rw [hc]; exact Nat.mul_div_cancel_left _ (by omega)
      have hq2 : (xs.length : Int) / (1 + (k : Int)) = (c : Int) := by rw [← hq, show (1 + (k : Int)) = ((1 + k : Nat) : Int) by omega, ← Int.natCast_ediv]
      have htl : (dcs (xs.take (1 + k))).length = 1 + k := by rw [dcs_len, List.length_take]; omega
      have hcl : c ≤ xs.length := by rw [hc]; exact Nat.le_mul_of_pos_left c (show 0 < 1 + k by omega)
      refine evb_test (evd_op (evd_is (evd_op sl (evd_is (evd_op (evd_is (evd_cb (evl_cons (evd_var rfl) evl_nil) dc_lenL) (by rw [dcs_len])) (evd_var rfl) (d2_I ⟨by omega, by omega⟩)) (by rw [hq2])) (d2_repL (by omega) (by omega) (by rw [htl, Int.toNat_natCast, ← hc]; omega))) (by rw [Int.toNat_natCast, dcs_rep, hq])) (evd_var rfl) d2_eqLs)
    refine run_if (evb_and t1 fun h => t2 (of_decide_eq_true h)) (fun hb => ?_) (fun hb => ?_)
    · rw [Bool.and_eq_true, decide_eq_true_eq, decide_eq_true_eq] at hb
      have hok : okR xs (1 + k) := ⟨hb.1, hb.2.symm⟩
      have hle : leastLen xs = 1 + k := by
        have a1 := ok.2.2.2 (1 + k) (by omega) hok
        by_cases z : leastLen xs < 1 + k
        · exact absurd ok.2.2.1 (hP _ ok.1 z)
        · omega
      exact run_ret sl (by rw [hle])
    · refine run_next ⟨fun j a b => ?_, fun H σ e => env_less e rfl fun i hi => ?_⟩
      · by_cases ej : j = 1 + k
        · subst ej
          intro z
          have : (decide (xs.length % (1 + k) = 0) && decide (rep (xs.length / (1 + k)) (xs.take (1 + k)) = xs)) = true := by
            rw [Bool.and_eq_true, decide_eq_true_eq, decide_eq_true_eq]; exact ⟨z.1, z.2.symm⟩
          rw [this] at hb; cases hb
        · exact hP j a (by omega)
      · match i, hi with
        | 0, _ => exact .inr rfl
        | 1, _ => exact .inl rfl
  · exact absurd ok.2.2.1 (hP _ ok.1 (by have := ok.2.1; omega))
theorem c_law_tell : Cal P w K mg base CX0 2 "_law_tell" (spTell K) := by
  obtain ⟨fd, F⟩ := fd_law_tell T
  refine ⟨⟨fd, ["_law_rows", "_law_rule_here", "_law_place"], fn0 F sc_law_tell (spD_len fun _ => rfl) (fun cdv A outer s H vs Q E hr h => ?_), gl_law_tell T, F.kp, F.bindsN (fun _ _ _ _ _ _ us hl => match us, hl with | [_, _, _], _ => rfl)⟩⟩
  obtain ⟨⟨r, as, p⟩, i, ⟨hk, hl, hok⟩, q⟩ := h
  refine ⟨_, (pss_one (ps_ret (pe_cal (c_law_rule T) (hr.mono (by decide)) rfl pass0 (pa_cons (pv 1) (pa_cons (pe_lc (own := [("_law_form", 3)]) (g := gName 3) rfl sc_law_tell.nd (pi_list (pv 0)) (blkOk_by (own := [("_law_form", 3)]) (N := n_law_tell) (sc := defScope s_law_tell) (by decide +kernel)) (fun _ _ _ _ _ => pg_name (i := 3) sc_law_tell.nd rfl (Or.inl rfl)) (fun _ _ _ _ _ => pts_nil) (fun _ _ _ _ _ => (pe_cal (c_law_at T) (hr.mono (by decide)) rfl pass0 (pa_cons (pv 3) (pa_cons (pv 2) pa_nil))))) pa_nil))))), ?_⟩
  refine by_run (ds := [lF as, .v (.str (ruleS r)), di p]) (d := dc (wv as.Fs (ruleL r) p)) i (Nat.le_of_ble_eq_true rfl) ?_ q
  have e1 : (as.map fun x => dc (x.2.at p)) = dcs (as.Fs.map fun F => F.at p) := by
    unfold FL.Fs
    show _ = List.map _ (List.map _ (List.map _ _))
    rw [List.map_map, List.map_map]; rfl
  exact run_ret (evd_call (evl_cons (evd_var rfl) (evl_cons (evd_is (evd_lcL as (fun x => tF x.1 x.2) (fun x => dc (x.2.at p)) (evd_var rfl) (by show as.length ≤ 100000; have : as.length ≤ 3 := hl; omega) (fun x hx => (evd_call (evl_cons (evd_var rfl) (evl_cons (evd_var rfl) evl_nil)) (sd_D (x.1, x.2, p) (hok x hx)))) (fun _ _ => rfl)) (congrArg De.lst e1)) evl_nil)) (sd_D (r, as.Fs.map fun F => F.at p) (by
    show okR3 r (List.map _ (List.map _ _)).length
    rw [List.length_map, List.length_map]; exact hk))) rfl
theorem c_law_measure : Cal P w K mg base CX0 1 "_law_measure" (spMeasure K) := by
  obtain ⟨fd, F⟩ := fd_law_measure T
  refine ⟨⟨fd, ["_law_one", "_law_other"], fn0 F sc_law_measure (spD_len fun _ => rfl) (fun cdv A outer s H vs Q E hr h => ?_), gl_law_measure T, F.kp, F.bindsN (fun _ _ _ _ _ _ us hl => match us, hl with | [_, _], _ => rfl)⟩⟩
  obtain ⟨⟨m, n⟩, i, _, q⟩ := h
  refine ⟨_, (pss_cons (ps_while PassesOwn.never (pt_cmpR op_gt (pv 1) pe_int (nomark _)) (pss_one (ps_par (i := 0) (j := 1) (by rfl) sc_law_measure.nd rfl rfl (by decide) rfl rfl (pa_cons (pv 1) (pa_cons (pe_op op_mod (pv 0) (pv 1)) pa_nil)) (by rfl))))
      (pss_one (ps_ret (pv 0)))), ?_⟩
  refine by_run (ds := [di m, di n]) (d := di (Nat.gcd m n : Nat)) i (Nat.le_of_ble_eq_true rfl) ?_ q
  refine run_seq (run_while (fun a : Nat × Nat => [some (di (a.1 : Int)), some (di (a.2 : Int))]) (fun a => a.2) (fun a => Nat.gcd a.1 a.2 = Nat.gcd m n) (fun a => decide ((a.2 : Int) > 0)) (m, n) rfl (fun H σ e => e) (fun a ha => ?_) (fun a ha hb => ?_) (fun a ha hb => ?_))
  · exact evb_test (evd_op (evd_var rfl) evd_c d2_I0)
  · rw [decide_eq_true_eq] at hb
    have hp : 0 < a.2 := by omega
    refine run_par (a := di (a.2 : Int)) (b := di ((a.1 % a.2 : Nat) : Int)) (evl_cons (evd_var rfl) (evl_cons (evd_is (evd_op (evd_var rfl) (evd_var rfl) (d2_I (by omega))) (by rw [Int.natCast_emod])) evl_nil)) ⟨(a.2, a.1 % a.2), ?_, Nat.mod_lt _ hp, fun H σ e => e⟩
    rw [← ha]
    show Nat.gcd a.2 (a.1 % a.2) = Nat.gcd a.1 a.2
    rw [Nat.gcd_comm a.1 a.2, Nat.gcd_rec a.2 a.1, Nat.gcd_comm]
  · rw [decide_eq_false_iff_not] at hb
    refine run_ret (evd_is (evd_var rfl) ?_) rfl
    rw [← ha, show a.2 = 0 by omega, Nat.gcd_zero_right]
theorem c_law_plain : Cal P w K mg base CX0 3 "_law_plain" (spPlainL K) := by
  obtain ⟨fd, F⟩ := fd_law_plain T
  refine ⟨⟨fd, ["_law_rows", "_law_rule_here", "_law_first", "_law_last", "_law_left", "_law_right"], fn0 F sc_law_plain (spD_len fun _ => rfl) (fun cdv A outer s H vs Q E hr h => ?_), gl_law_plain T, F.kp, F.bindsN (fun _ _ _ _ _ _ us hl => match us, hl with | [_, _, _, _, _, _], _ => rfl)⟩⟩
  obtain ⟨⟨r3, as, a, b, L, R⟩, i, hp, q⟩ := h
  refine ⟨_, (pss_cons (ps_set (i := 6) sc_law_plain.nd rfl (Or.inr rfl) (pe_callB (r := rLenS K) call_lenS (by rfl) (fr_len T) PySem.boot_len (pa_cons (pe_cal (c_law_least T) (hr.mono (by decide)) rfl pass0 (pa_cons (pe_lc (own := [("_law_k", 15)]) (g := gName 15) rfl sc_law_plain.nd (pi_any1 rfl (fr_range T) (pa_cons (pv 4) pa_nil)) (blkOk_by (own := [("_law_k", 15)]) (N := n_law_plain) (sc := defScope s_law_plain) (by decide +kernel)) (fun _ _ _ _ _ => pg_name (i := 15) sc_law_plain.nd rfl (Or.inl rfl)) (fun _ _ _ _ _ => pts_nil) (fun _ _ _ _ _ => (pe_cal (c_law_tell T) (hr.mono (by decide)) rfl pass0 (pa_cons (pv 0) (pa_cons (pv 1) (pa_cons (pe_op op_add (pe_op op_sub (pv 2) (pv 4)) (pv 15)) pa_nil)))))) pa_nil)) pa_nil)))
      (pss_cons (ps_set (i := 7) sc_law_plain.nd rfl (Or.inl rfl) (pe_callB (r := rLenS K) call_lenS (by rfl) (fr_len T) PySem.boot_len (pa_cons (pe_cal (c_law_least T) (hr.mono (by decide)) rfl pass0 (pa_cons (pe_lc (own := [("_law_k", 15)]) (g := gName 15) rfl sc_law_plain.nd (pi_any1 rfl (fr_range T) (pa_cons (pv 5) pa_nil)) (blkOk_by (own := [("_law_k", 15)]) (N := n_law_plain) (sc := defScope s_law_plain) (by decide +kernel)) (fun _ _ _ _ _ => pg_name (i := 15) sc_law_plain.nd rfl (Or.inl rfl)) (fun _ _ _ _ _ => pts_nil) (fun _ _ _ _ _ => (pe_cal (c_law_tell T) (hr.mono (by decide)) rfl pass0 (pa_cons (pv 0) (pa_cons (pv 1) (pa_cons (pe_op op_add (pv 3) (pv 15)) pa_nil)))))) pa_nil)) pa_nil)))
      (pss_cons (ps_set (i := 8) sc_law_plain.nd rfl (Or.inr rfl) (pv 3))
      (pss_cons (ps_set (i := 9) sc_law_plain.nd rfl (Or.inl rfl) (pe_op op_sub (pe_op op_sub (pv 2) (pv 6)) (pv 7)))
      (pss_cons (ps_set (i := 10) sc_law_plain.nd rfl (Or.inl rfl) pe_bl)
      (pss_cons (ps_while PassesOwn.never (PW.pt (pw_and (pt_val (pv 10)) (pw_and1 (pt_cmpR op_gt (pv 8) (pv 9) (nomark _))))) (pss_cons (ps_set (i := 10) sc_law_plain.nd rfl (Or.inl rfl) (pe_cmpR op_eq (pe_cal (c_law_tell T) (hr.mono (by decide)) rfl pass0 (pa_cons (pv 0) (pa_cons (pv 1) (pa_cons (pe_op op_sub (pv 8) pe_int) pa_nil)))) (pe_cal (c_law_tell T) (hr.mono (by decide)) rfl pass0 (pa_cons (pv 0) (pa_cons (pv 1) (pa_cons (pe_op op_add (pe_op op_sub (pv 8) pe_int) (pv 7)) pa_nil)))) (nomark _)))
      (pss_one (ps_set (i := 8) sc_law_plain.nd rfl (Or.inr rfl) (pe_op op_sub (pv 8) (pe_callTy call_int1' (by rfl) (fr_int T) (by decide +kernel) (pa_cons (pv 10) pa_nil)))))))
      (pss_cons (ps_if (pt_cmpR op_eq (pv 8) (pv 9) (nomark _)) (pss_cons (ps_set (i := 11) sc_law_plain.nd rfl (Or.inl rfl) (pe_callTy call_tupS (by rfl) (fr_tuple T) (by decide +kernel) (pa_cons (pe_lc (own := [("_law_k", 15)]) (g := gName 15) rfl sc_law_plain.nd (pi_any1 rfl (fr_range T) (pa_cons (pv 7) pa_nil)) (blkOk_by (own := [("_law_k", 15)]) (N := n_law_plain) (sc := defScope s_law_plain) (by decide +kernel)) (fun _ _ _ _ _ => pg_name (i := 15) sc_law_plain.nd rfl (Or.inl rfl)) (fun _ _ _ _ _ => pts_nil) (fun _ _ _ _ _ => (pe_cal (c_law_tell T) (hr.mono (by decide)) rfl pass0 (pa_cons (pv 0) (pa_cons (pv 1) (pa_cons (pv 15) pa_nil)))))) pa_nil)))
      (pss_one (ps_ret (pe_tup (pa_cons (pv 11) (pa_cons (pe_tup pa_nil) (pa_cons pe_int (pa_cons (pv 11) pa_nil)))))))) pss_nil)
      (pss_cons (ps_set (i := 12) sc_law_plain.nd rfl (Or.inr rfl) (pv 2))
      (pss_cons (ps_while PassesOwn.never (pt_cmpR op_eq (pe_cal (c_law_tell T) (hr.mono (by decide)) rfl pass0 (pa_cons (pv 0) (pa_cons (pv 1) (pa_cons (pv 12) pa_nil)))) (pe_cal (c_law_tell T) (hr.mono (by decide)) rfl pass0 (pa_cons (pv 0) (pa_cons (pv 1) (pa_cons (pe_op op_sub (pv 12) (pv 6)) pa_nil)))) (nomark _)) (pss_one (ps_set (i := 12) sc_law_plain.nd rfl (Or.inr rfl) (pe_op op_add (pv 12) pe_int))))
      (pss_cons (ps_set (i := 12) sc_law_plain.nd rfl (Or.inr rfl) (pe_callB (call_min2' rfl) (by rfl) (fr_min T) (by decide +kernel) (pa_cons (pv 12) (pa_cons (pv 8) pa_nil))))
      (pss_cons (ps_set (i := 13) sc_law_plain.nd rfl (Or.inl rfl) (pe_callTy call_tupS (by rfl) (fr_tuple T) (by decide +kernel) (pa_cons (pe_lc (own := [("_law_k", 15)]) (g := gName 15) rfl sc_law_plain.nd (pi_any1 rfl (fr_range T) (pa_cons (pv 6) pa_nil)) (blkOk_by (own := [("_law_k", 15)]) (N := n_law_plain) (sc := defScope s_law_plain) (by decide +kernel)) (fun _ _ _ _ _ => pg_name (i := 15) sc_law_plain.nd rfl (Or.inl rfl)) (fun _ _ _ _ _ => pts_nil) (fun _ _ _ _ _ => (pe_cal (c_law_tell T) (hr.mono (by decide)) rfl pass0 (pa_cons (pv 0) (pa_cons (pv 1) (pa_cons (pe_op op_add (pe_op op_sub (pv 12) (pv 6)) (pv 15)) pa_nil)))))) pa_nil)))
      (pss_cons (ps_set (i := 14) sc_law_plain.nd rfl (Or.inl rfl) (pe_callTy call_tupS (by rfl) (fr_tuple T) (by decide +kernel) (pa_cons (pe_lc (own := [("_law_place", 16)]) (g := gName 16) rfl sc_law_plain.nd (pi_any2 rfl (fr_range T) (pa_cons (pv 12) (pa_cons (pv 8) pa_nil))) (blkOk_by (own := [("_law_place", 16)]) (N := n_law_plain) (sc := defScope s_law_plain) (by decide +kernel)) (fun _ _ _ _ _ => pg_name (i := 16) sc_law_plain.nd rfl (Or.inl rfl)) (fun _ _ _ _ _ => pts_nil) (fun _ _ _ _ _ => (pe_cal (c_law_tell T) (hr.mono (by decide)) rfl pass0 (pa_cons (pv 0) (pa_cons (pv 1) (pa_cons (pv 16) pa_nil)))))) pa_nil)))
      (pss_one (ps_ret (pe_tup (pa_cons (pv 13) (pa_cons (pv 14) (pa_cons (pv 12) (pa_cons (pe_callTy call_tupS (by rfl) (fr_tuple T) (by decide +kernel) (pa_cons (pe_lc (own := [("_law_k", 15)]) (g := gName 15) rfl sc_law_plain.nd (pi_any1 rfl (fr_range T) (pa_cons (pv 7) pa_nil)) (blkOk_by (own := [("_law_k", 15)]) (N := n_law_plain) (sc := defScope s_law_plain) (by decide +kernel)) (fun _ _ _ _ _ => pg_name (i := 15) sc_law_plain.nd rfl (Or.inl rfl)) (fun _ _ _ _ _ => pts_nil) (fun _ _ _ _ _ => (pe_cal (c_law_tell T) (hr.mono (by decide)) rfl pass0 (pa_cons (pv 0) (pa_cons (pv 1) (pa_cons (pe_op op_add (pv 8) (pv 15)) pa_nil)))))) pa_nil)) pa_nil))))))))))))))))))), ?_⟩
  refine by_run (ds := [lF as, .v (.str (ruleS r3)), di a, di b, di (L : Int), di (R : Int)]) (d := dF (plf (wv as.Fs (ruleL r3)))) i (Nat.le_of_ble_eq_true rfl) ?_ q
  obtain ⟨h1, h2, h3, ab, hw, l0, l1, r0, r1, pl, pr⟩ := hp
  dsimp only at h1 h2 h3 ab hw l0 l1 r0 r1 pl pr
  have tl : ∀ p : Int, SD (tx K) (spTell K) [lF as, .v (.str (ruleS r3)), di p] (dc (wv as.Fs (ruleL r3) p)) E0 := fun p => sd_D (r3, as, p) ⟨h1, h2, h3⟩
  generalize wv as.Fs (ruleL r3) = f at pl pr tl
  have a1 := ll_of (cells_ne l0) (ringL l0 pl)
  have a2 := lr_of (cells_ne r0) (ringR r0 pr)
  have k1 := leastLen_ok (cells_ne (f := f) (a := a - L) l0)
  have k2 := leastLen_ok (cells_ne (f := f) (a := b) r0)
  rw [cells_len] at k1 k2
  have t : Tw f a b (leastLen (cells f (a - L) L)) (leastLen (cells f b R)) := ⟨ab, a1.1, a2.1, a1.2, a2.2⟩
  generalize hl : leastLen (cells f (a - L) L) = l at t k1
  generalize hr2 : leastLen (cells f b R) = r at t k2
  refine run_seq (run_ex (d' := di (l : Nat)) (evd_cb (evl_cons (evd_call (evl_cons (evd_is (evd_lcR1 (fun k => dc (f (a - L + (k : Int)))) (evl_cons (evd_var rfl) evl_nil) (by omega) (fun k hk => (evd_call (evl_cons (evd_var rfl) (evl_cons (evd_var rfl) (evl_cons (evd_op (evd_op (evd_var rfl) (evd_var rfl) d2_I0) (evd_var rfl) d2_I0) evl_nil))) (tl _))) (fun _ _ => rfl)) (by rw [Int.toNat_natCast, dcs_cells])) evl_nil) (sd_D (cells f (a - L) L) ⟨cells_ne l0, by rw [cells_len]; exact l1⟩)) evl_nil) dc_lenL) (by rw [dcs_len, List.length_take, cells_len, hl, Nat.min_eq_left k1.2.1]) ?_)
  refine run_seq (run_ex (d' := di (r : Nat)) (evd_cb (evl_cons (evd_call (evl_cons (evd_is (evd_lcR1 (fun k => dc (f (b + (k : Int)))) (evl_cons (evd_var rfl) evl_nil) (by omega) (fun k hk => (evd_call (evl_cons (evd_var rfl) (evl_cons (evd_var rfl) (evl_cons (evd_op (evd_var rfl) (evd_var rfl) d2_I0) evl_nil))) (tl _))) (fun _ _ => rfl)) (by rw [Int.toNat_natCast, dcs_cells])) evl_nil) (sd_D (cells f b R) ⟨cells_ne r0, by rw [cells_len]; exact r1⟩)) evl_nil) dc_lenL) (by rw [dcs_len, List.length_take, cells_len, hr2, Nat.min_eq_left k2.2.1]) ?_)
  refine run_seq (run_asg (evd_var rfl) (run_seq (run_asg (evd_op (evd_op (evd_var rfl) (evd_var rfl) d2_I0) (evd_var rfl) d2_I0) (run_seq (run_asg evd_c ?_)))))
  obtain ⟨s1, s2, s3, s4⟩ := rbGo_spec (f := f) (r := (r : Int)) (n := (b - (a - l - r)).toNat) (p := b)
  have lp := t.ll.pos
  have rp := t.lr.pos
  refine run_seq (run_while (fun x : Bool × Int => [some (lF as), some (.v (.str (ruleS r3))), some (di a), some (di b), some (di (L : Int)), some (di (R : Int)), some (di (l : Nat)), some (di (r : Nat)), some (di x.2), some (di (a - l - r)), some (db x.1), none, none, none, none, none, none]) (fun x => (x.2 - (a - l - r)).toNat + (if x.1 = true then 1 else 0)) (fun x => a - l - r ≤ x.2 ∧ (x.1 = true → rbGo f r (x.2 - (a - l - r)).toNat x.2 = rbGo f r (b - (a - l - r)).toNat b) ∧ (x.1 = false → x.2 = rbGo f r (b - (a - l - r)).toNat b)) (fun x => x.1 && decide (x.2 > a - l - r)) (true, b) ⟨by show a - l - r ≤ b; omega, fun _ => rfl, fun h => by cases h⟩ (fun H σ e => e) (fun x hx => ?_) (fun x hx hb => ?_) (fun x hx hb => ?_))
  · exact evb_and (evb_val (evd_var rfl)) fun h => (evb_test (evd_op (evd_var rfl) (evd_var rfl) d2_I0))
  · obtain ⟨g, p⟩ := x
    obtain ⟨x1, x2, x3⟩ := hx
    dsimp only at x1 x2 x3 hb
    rw [Bool.and_eq_true, decide_eq_true_eq] at hb
    obtain ⟨hg, hgt⟩ := hb
    subst hg
    have hx2 := x2 rfl
    obtain ⟨n, hn⟩ : ∃ n, (p - (a - l - r)).toNat = n + 1 := ⟨(p - (a - l - r)).toNat - 1, by omega⟩
    rw [hn, rbGo] at hx2
    refine run_seq (run_asg (evd_op (evd_call (evl_cons (evd_var rfl) (evl_cons (evd_var rfl) (evl_cons (evd_op (evd_var rfl) evd_c d2_I0) evl_nil))) (tl (p - 1))) (evd_call (evl_cons (evd_var rfl) (evl_cons (evd_var rfl) (evl_cons (evd_op (evd_op (evd_var rfl) evd_c d2_I0) (evd_var rfl) d2_I0) evl_nil))) (tl (p - 1 + r))) d2_eqC) ?_)
    refine run_asg (evd_op (evd_var rfl) (evd_cb (evl_cons (evd_var rfl) evl_nil) dc_intB) d2_I0) ?_
    by_cases he : f (p - 1) = f (p - 1 + r)
    · rw [if_pos he] at hx2
      refine ⟨(true, p - 1), ⟨by show a - l - r ≤ p - 1; omega, fun _ => ?_, fun h => by cases h⟩, ?_, fun H σ e => ?_⟩
      · rw [← hx2, show (p - 1 - (a - l - r)).toNat = n by omega]
      · show (p - 1 - (a - l - r)).toNat + 1 < (p - (a - l - r)).toNat + 1; omega
      · rw [decide_eq_true he] at e; exact e
    · rw [if_neg he] at hx2
      refine ⟨(false, p), ⟨x1, (fun h => by cases h), fun _ => hx2⟩, ?_, fun H σ e => ?_⟩
      · show (p - (a - l - r)).toNat + 0 < (p - (a - l - r)).toNat + 1; omega
      · rw [decide_eq_false he] at e
        have e2 : p - (if false = true then (1 : Int) else 0) = p := by simp
        refine env_eq ?_ e
        show [some (lF as), some (.v (.str (ruleS r3))), some (di a), some (di b), some (di (L : Int)), some (di (R : Int)), some (di (l : Nat)), some (di (r : Nat)), some (di (p - (if false = true then (1 : Int) else 0))), some (di (a - l - r)), some (db false), none, none, none, none, none, none] = _
        rw [e2]
  · obtain ⟨g, p⟩ := x
    obtain ⟨x1, x2, x3⟩ := hx
    dsimp only at x1 x2 x3 hb ⊢
    have hpB : p = rbGo f r (b - (a - l - r)).toNat b := by
      cases g with
      | false => exact x3 rfl
      | true =>
        rw [Bool.true_and, decide_eq_false_iff_not] at hb
        rw [← x2 rfl, show (p - (a - l - r)).toNat = 0 by omega]; rfl
    rw [← hpB] at s1 s2 s3 s4
    refine run_seq (run_if (evb_test (evd_op (evd_var rfl) (evd_var rfl) d2_eqI)) (fun hb => ?_) (fun hb => run_next ?_))
    · have hb := of_decide_eq_true hb
      have hall : ∀ p, a - l - r ≤ p → f (p + r) = f p := fun p' hp' => by
        by_cases z : p' < b
        · exact (s3 p' (by omega) z).symm
        · exact t.pr p' (by omega)
      obtain ⟨p1, p2⟩ := t.round hall
      have e1 := plf_of p1 p2
      refine run_seq (run_ex (d' := .tup (dcs (cells f 0 r))) (evd_cb (evl_cons (evd_is (evd_lcR1 (fun k => dc (f (0 + (k : Int)))) (evl_cons (evd_var rfl) evl_nil) (by omega) (fun k hk => (evd_call (evl_cons (evd_var rfl) (evl_cons (evd_var rfl) (evl_cons (evd_var rfl) evl_nil))) (by have := tl (k : Int); rw [show (0 + (k : Int)) = (k : Int) by omega]; exact this))) (fun _ _ => rfl)) (by rw [Int.toNat_natCast, dcs_cells])) evl_nil) dc_tupL) rfl ?_)
      exact run_ret (evd_tup (evl_cons (evd_var rfl) (evl_cons (evd_tup evl_nil (Nat.le_of_ble_eq_true rfl)) (evl_cons evd_c (evl_cons (evd_var rfl) evl_nil)))) (Nat.le_of_ble_eq_true rfl)) (by rw [e1]; rfl)
    · have hb := of_decide_eq_false hb
      have hne : f (p - 1) ≠ f (p - 1 + r) := by
        rcases s4 with z | z
        · exact absurd (by omega) hb
        · exact z
      have hB : ∀ p', p ≤ p' → f (p' + r) = f p' := fun p' hp' => by
        by_cases z : p' < b
        · exact (s3 p' hp' z).symm
        · exact t.pr p' (by omega)
      obtain ⟨E', e1, e2, e3⟩ := least_ge (t.some hne)
      obtain ⟨p1, p2⟩ := t.plain hB hne e1 e2 (fun p u v => Classical.byContradiction (e3 p u v))
      have e4 := plf_of p1 p2
      refine run_seq (run_asg (evd_var rfl) ?_)
      refine run_seq (run_while (fun s : Int => [some (lF as), some (.v (.str (ruleS r3))), some (di a), some (di b), some (di (L : Int)), some (di (R : Int)), some (di (l : Nat)), some (di (r : Nat)), some (di p), some (di (a - l - r)), some (db g), none, some (di s), none, none, none, none]) (fun s => (E' - s).toNat) (fun s => a ≤ s ∧ s ≤ E') (fun s => decide (f s = f (s - l))) a ⟨Int.le_refl _, e1⟩ (fun H σ e => e) (fun s hs => ?_) (fun s hs hb => ?_) (fun s hs hb => ?_))
      · exact evb_test (evd_op (evd_call (evl_cons (evd_var rfl) (evl_cons (evd_var rfl) (evl_cons (evd_var rfl) evl_nil))) (tl s)) (evd_call (evl_cons (evd_var rfl) (evl_cons (evd_var rfl) (evl_cons (evd_op (evd_var rfl) (evd_var rfl) d2_I0) evl_nil))) (tl (s - l))) d2_eqC)
      · have hb := of_decide_eq_true hb
        have hne' : s ≠ E' := fun z => e2 (by rw [← z]; exact hb)
        exact run_asg (evd_op (evd_var rfl) evd_c d2_I0) ⟨s + 1, ⟨by omega, by omega⟩, by omega, fun H σ e => e⟩
      · have hb := of_decide_eq_false hb
        have hsE : s = E' := by
          by_cases e : s = E'
          · exact e
          · exact absurd (Classical.byContradiction (e3 s hs.1 (by omega))) hb
        subst hsE
        refine run_seq (run_asg (evd_cb (evl_cons (evd_var rfl) (evl_cons (evd_var rfl) evl_nil)) dc_min2) ?_)
        have em : min s p = min p s := Int.min_comm s p
        rw [em]
        refine run_seq (run_ex (d' := .tup (dcs (cells f (min p s - l) l))) (evd_cb (evl_cons (evd_is (evd_lcR1 (fun k => dc (f (min p s - l + (k : Int)))) (evl_cons (evd_var rfl) evl_nil) (by omega) (fun k hk => (evd_call (evl_cons (evd_var rfl) (evl_cons (evd_var rfl) (evl_cons (evd_op (evd_op (evd_var rfl) (evd_var rfl) d2_I0) (evd_var rfl) d2_I0) evl_nil))) (tl _))) (fun _ _ => rfl)) (by rw [Int.toNat_natCast, dcs_cells])) evl_nil) dc_tupL) rfl ?_)
        refine run_seq (run_ex (d' := .tup (dcs (cells f (min p s) (p - min p s).toNat))) (evd_cb (evl_cons (evd_is (evd_lcR2 (fun k => dc (f (min p s + (k : Int)))) (evl_cons (evd_var rfl) (evl_cons (evd_var rfl) evl_nil)) (by omega) (fun k hk => (evd_call (evl_cons (evd_var rfl) (evl_cons (evd_var rfl) (evl_cons (evd_var rfl) evl_nil))) (tl _))) (fun _ _ => rfl)) (by rw [dcs_cells])) evl_nil) dc_tupL) rfl ?_)
        refine run_ret (evd_tup (evl_cons (evd_var rfl) (evl_cons (evd_var rfl) (evl_cons (evd_var rfl) (evl_cons (evd_is (evd_cb (evl_cons (evd_is (evd_lcR1 (fun k => dc (f (p + (k : Int)))) (evl_cons (evd_var rfl) evl_nil) (by omega) (fun k hk => (evd_call (evl_cons (evd_var rfl) (evl_cons (evd_var rfl) (evl_cons (evd_op (evd_var rfl) (evd_var rfl) d2_I0) evl_nil))) (tl _))) (fun _ _ => rfl)) (by rw [Int.toNat_natCast, dcs_cells])) evl_nil) dc_tupL) (show _ = De.tup (dcs (cells f p r)) from rfl)) evl_nil)))) (Nat.le_of_ble_eq_true rfl)) (by rw [e4]; rfl)
theorem c_law_once : Cal P w K mg base CX0 4 "_law_once" (spOnce K) := by
  obtain ⟨fd, F⟩ := fd_law_once T
  refine ⟨⟨fd, ["_law_form"], fn0 F sc_law_once (spD_len fun _ => rfl) (fun cdv A outer s H vs Q E hr h => ?_), gl_law_once T, F.kp, F.bindsN (fun _ _ _ _ _ _ us hl => match us, hl with | [_], _ => rfl)⟩⟩
  obtain ⟨⟨⟨b1, b2, b3⟩, F⟩, i, ft, q⟩ := h
  refine ⟨_, (pss_one (ps_ret (pe_cal (c_law_plain T) (hr.mono (by decide)) rfl pass0 (pa_cons (pe_lst (pa_cons (pv 0) pa_nil)) (pa_cons pe_str (pa_cons (pe_ix (r := rIxT K) ix_tup (pv 0) pe_int (fun _ _ => rfl)) (pa_cons (pe_op op_add (pe_ix (r := rIxT K) ix_tup (pv 0) pe_int (fun _ _ => rfl)) (pe_callB (r := rLenS K) call_lenS (by rfl) (fr_len T) PySem.boot_len (pa_cons (pe_ix (r := rIxT K) ix_tup (pv 0) pe_int (fun _ _ => rfl)) pa_nil))) (pa_cons (pe_callB (r := rLenS K) call_lenS (by rfl) (fr_len T) PySem.boot_len (pa_cons (pe_ix (r := rIxT K) ix_tup (pv 0) pe_int (fun _ _ => rfl)) pa_nil)) (pa_cons (pe_callB (r := rLenS K) call_lenS (by rfl) (fr_len T) PySem.boot_len (pa_cons (pe_ix (r := rIxT K) ix_tup (pv 0) pe_int (fun _ _ => rfl)) pa_nil)) pa_nil))))))))), ?_⟩
  refine by_run (ds := [tF (b1, b2, b3) F]) (d := dF (plf F.at)) i (Nat.le_of_ble_eq_true rfl) ?_ q
  have hl : 0 < F.l.length := List.length_pos_iff.mpr ft.l1
  have hr' : 0 < F.r.length := List.length_pos_iff.mpr ft.r1
  have ft : Fm.Fit F := ft
  have a1 := ft.l2
  have a2 := ft.r2
  have a3 := ft.m2
  have hp : PlL .S [((b1, b2, b3), F)] F.f (F.f + (F.m.length : Int)) F.l.length F.r.length := ⟨Nat.le_refl 1, Nat.le_of_ble_eq_true rfl, fun x hx => by simp at hx; subst hx; exact ft.ok, by omega, by omega, hl, a1, hr', a2, Fm.tailL (rg_per _) (by omega), Fm.tailR (rg_per _) (by omega)⟩
  exact run_ret (evd_call (evl_cons (evd_lst (evl_cons (evd_var rfl) evl_nil) (Nat.le_of_ble_eq_true rfl)) (evl_cons evd_c (evl_cons (evd_op (evd_var rfl) evd_c (d2_ixT (k := 2) rfl rfl)) (evl_cons (evd_op (evd_op (evd_var rfl) evd_c (d2_ixT (k := 2) rfl rfl)) (evd_is (evd_cb (evl_cons (evd_op (evd_var rfl) evd_c (d2_ixT (k := 1) rfl rfl)) evl_nil) dc_len) (by rw [dcs_len])) d2_I0) (evl_cons (evd_is (evd_cb (evl_cons (evd_op (evd_var rfl) evd_c (d2_ixT (k := 0) rfl rfl)) evl_nil) dc_len) (by rw [dcs_len])) (evl_cons (evd_is (evd_cb (evl_cons (evd_op (evd_var rfl) evd_c (d2_ixT (k := 3) rfl rfl)) evl_nil) dc_len) (by rw [dcs_len])) evl_nil)))))) (sd_D (R3.S, [((b1, b2, b3), F)], F.f, F.f + (F.m.length : Int), F.l.length, F.r.length) hp)) rfl
end
end Fx

/-! FwC2: woven as the law has it; its eyes. -/
namespace Fx
open PySem PySem.Spec PyProof.Rows L2 Fw
variable {S : Sl}
theorem is_tyx {K : PySem.W.Frag} {mg : Str → Option Value} (T : Tt K mg) {H : Hp} {F : Fm} {v : V} (h : Is (tx K) H (.row F) v) : TyX K H v (.ref (rowA K)) := by
  obtain ⟨p, dx, a, b, c, rfl, h1, _⟩ := is_row.mp h
  exact .base (ty_row T h1)
theorem kit_self {K : PySem.W.Frag} {a : Addr} : PySem.W.kitOne K (.ref a) (.ref a) = some true := by
  unfold PySem.W.kitOne
  simp
theorem dc_isRow {K : PySem.W.Frag} {mg : Str → Option Value} (T : Tt K mg) {F : Fm} : DC (tx K) (rIsi K) [.row F, .v (.ref (He.ga K "Row"))] (db true) := fun H xs hx Q q => by
  obtain ⟨v, r, rfl, h1, h2⟩ := isA_cons.mp hx
  obtain ⟨v', r', rfl, h1', h2'⟩ := isA_cons.mp h2
  rw [isA_nil.mp h2', is_v.mp h1']
  exact ⟨v, _, _, _, true, rfl, .own _, is_tyx T h1, kit_self, q _ H (Same.refl H) (is_v.mpr rfl)⟩
theorem dc_isBool {T : Tx} {c : C} : DC T (rIsi T.K) [dc c, .v (.ty "bool")] (db false) := by
  cases c with
  | none => exact dc_isi (a := "NoneType") rfl (by decide +kernel)
  | some i => exact dc_isi (a := "int") rfl (by decide +kernel)
theorem dc_isX {K : PySem.W.Frag} {C D : Addr} {b : Bool} (x : ExcC K C) (k : PySem.W.kitOne K (.ref C) (.ref D) = some b) : DC (tx K) (rIsX K) [.exc C, .v (.ref D)] (db b) := fun H xs hx Q q => by
  obtain ⟨v, r, rfl, h1, h2⟩ := isA_cons.mp hx
  obtain ⟨v', r', rfl, h1', h2'⟩ := isA_cons.mp h2
  obtain ⟨a, rfl, ha⟩ := is_exc.mp h1
  rw [isA_nil.mp h2', is_v.mp h1']
  exact ⟨a, C, _, _, b, rfl, ha, x, .own _, k, q _ H (Same.refl H) (is_v.mpr rfl)⟩
theorem dc_isXT {K : PySem.W.Frag} {C : Addr} {n : String} {b : Bool} (x : ExcC K C) (k : PySem.W.kitOne K (.ref C) (.type n) = some b) : DC (tx K) (rIsX K) [.exc C, .v (.ty n)] (db b) := fun H xs hx Q q => by
  obtain ⟨v, r, rfl, h1, h2⟩ := isA_cons.mp hx
  obtain ⟨v', r', rfl, h1', h2'⟩ := isA_cons.mp h2
  obtain ⟨a, rfl, ha⟩ := is_exc.mp h1
  rw [isA_nil.mp h2', is_v.mp h1']
  exact ⟨a, C, _, _, b, rfl, ha, x, .ty n, k, q _ H (Same.refl H) (is_v.mpr rfl)⟩
theorem evd_count {T : Tx} {ta tb : TE} {bs : List Bool} (h : EvD T ta S (.lst (bs.map db))) (hb : EvD T tb S (db true)) : EvD T (tBM T.K "list" (rCntV T.K) ta (tCons tb tNil)) S (di (bs.countP id : Nat)) := fun σ H e Q q =>
  h σ H e _ fun v H1 e1 i1 => by
    obtain ⟨p, vs, rfl, h3, h4⟩ := is_lst.mp i1
    rw [isA_vs.mp h4] at h3
    refine ⟨.inl ⟨rfl, _, SqL.of h3⟩, hb σ H1 (e.mono e1) _ fun w H2 e2 i2 => ?_⟩
    rw [is_v.mp i2]
    refine ⟨p, bs.map V.bl, .bl true, rfl, rfl, SqL.of (e2 _ _ h3), rfl, by simp [flatV], ?_⟩
    have : (bs.map V.bl).countP (fun z => eqV z (.bl true)) = bs.countP id := by
      rw [List.countP_map]
      congr 1
      funext b
      cases b <;> rfl
    rw [this]
    exact q _ H2 (e1.trans e2) (is_v.mpr rfl)
theorem evd_index {T : Tx} {ta tb : TE} {bs : List Bool} {j : Nat} (h : EvD T ta S (.lst (bs.map db))) (hb : EvD T tb S (db true)) (hj : bs[j]? = some true) (hm : ∀ m, m < j → bs[m]? = some false) : EvD T (tBM T.K "list" (rIndex T.K) ta (tCons tb tNil)) S (di (j : Int)) := fun σ H e Q q =>
  h σ H e _ fun v H1 e1 i1 => by
    obtain ⟨p, vs, rfl, h3, h4⟩ := is_lst.mp i1
    rw [isA_vs.mp h4] at h3
    refine ⟨.inl ⟨rfl, _, SqL.of h3⟩, hb σ H1 (e.mono e1) _ fun w H2 e2 i2 => ?_⟩
    rw [is_v.mp i2]
    refine ⟨p, bs.map V.bl, .bl true, j, .bl true, rfl, rfl, SqL.of (e2 _ _ h3), rfl, by simp [flatV], by rw [List.getElem?_map, hj]; rfl, rfl, fun m z' hmj hz => ?_, q _ H2 (e1.trans e2) (is_v.mpr rfl)⟩
    rw [List.getElem?_map, hm m hmj] at hz
    cases hz
    rfl
theorem dcs_noL (xs : List C) : De.noLs (dcs xs) = true := noLs_of fun d hd => by
  obtain ⟨c, _, rfl⟩ := List.mem_map.mp hd
  rfl
theorem tup_noL (xs : List C) : (De.tup (dcs xs)).noL = true := by rw [De.noL]; exact dcs_noL xs
theorem dF_noL (F : Fm) : (dF F).noL = true := by
  unfold dF
  rw [De.noL]
  refine noLs_of fun d hd => ?_
  simp only [List.mem_cons, List.not_mem_nil, or_false] at hd
  rcases hd with rfl | rfl | rfl | rfl
  · exact tup_noL _
  · exact tup_noL _
  · rfl
  · exact tup_noL _
/-! ### the great wheels -/
def farL : List (Nat × Nat × Bool) := [(61, 67, false), (63, 64, false), (59, 67, true), (32, 125, true), (3, 4000, false), (2, 4000, true), (62, 65, false), (60, 66, true)]
def dFar (x : Nat × Nat × Bool) : De := .tup [di (x.1 : Int), di (x.2.1 : Int), db x.2.2]
def farZ (c : Int) : Nat × Nat × Bool := farL.getD (c % 8).toNat (61, 67, false)
def ringS (m : Nat) : List C := rep (m - 1) [some 0] ++ [some 1]
def sizF (m : Nat) (p : Int) (s : Int) : Fm := if s = 0 then ⟨ringS m, [some 5], p, [none]⟩ else ⟨[none], [some 5], p, ringS m⟩
section
variable {P : Program} {w : World} {K : PySem.W.Frag} {mg : Str → Option Value} {base : Heap} (T : Tt K mg)
structure WvL (r : R3) (as : FL) : Prop where
  k : okR3 r as.length
  n : as.length ≤ 3
  ok : ∀ x ∈ as, okRow x.2
  t : TooB as.Fs = false
  w : hiF as.Fs - loF as.Fs ≤ 4000
noncomputable def spWovenL (K : PySem.W.Frag) : Sp := spD (tx K) (fun a : R3 × FL => [lF a.2, .v (.str (ruleS a.1))]) (fun a => WvL a.1 a.2) (fun a => dF (plf (wv a.2.Fs (ruleL a.1))))
def spIsL (K : PySem.W.Frag) : Sp := spD (tx K) (fun F : Fm => [.row F, dF F]) (fun F => F.Ok) (fun _ => db true)
/-- the exceptions that may come -/
inductive XK3 where
  | many
  | version
  | place
def xkA (K : PySem.W.Frag) : XK3 → Addr
  | .many => He.ga K "TooMany"
  | .version => He.ga K "NoVersion"
  | .place => He.ga K "NoPlace"
def xkS : XK3 → Str
  | .many => "many"
  | .version => "version"
  | .place => "place"
def spKind (K : PySem.W.Frag) : Sp := spD (tx K) (fun x : XK3 => [.exc (xkA K x)]) (fun _ => True) (fun x => .v (.str (xkS x)))
def spFar (K : PySem.W.Frag) : Sp := spD (tx K) (fun c : Int => [di c]) (fun _ => True) (fun c => dFar (farZ c))
def spSized (K : PySem.W.Frag) : Sp := spD (tx K) (fun a : Nat × Int × Int => [di (a.1 : Int), di a.2.1, di a.2.2]) (fun a => 2 ≤ a.1 ∧ a.1 ≤ 4000) (fun a => dL (sizF a.1 a.2.1 a.2.2))
noncomputable def spIsPatch (K : PySem.W.Frag) : Sp := spD (tx K) (fun as : FL => [.tup [.row (plf (wv as.Fs ruU)), .row (plf (wv as.Fs ruO))], lF as]) (fun as => WvL .U as) (fun _ => db true)
def fffs (Fs : List Fm) : FL := Fs.map fun F => ((false, false, false), F)
theorem fffs_Fs (Fs : List Fm) : (fffs Fs).Fs = Fs := by
  unfold fffs FL.Fs
  rw [List.map_map]
  exact List.map_id _
theorem lF_fffs (Fs : List Fm) : lF (fffs Fs) = .lst (Fs.map dF) := by
  unfold fffs lF
  rw [List.map_map]; rfl
include T
theorem c_law_woven : Cal P w K mg base CX0 5 "_law_woven" (spWovenL K) := by
  obtain ⟨fd, F⟩ := fd_law_woven T
  refine ⟨⟨fd, ["_law_rows", "_law_rule_here"], fn0 F sc_law_woven (spD_len fun _ => rfl) (fun cdv A outer s H vs Q E hr h => ?_), gl_law_woven T, F.kp, F.bindsN (fun _ _ _ _ _ _ us hl => match us, hl with | [_, _], _ => rfl)⟩⟩
  obtain ⟨⟨r, as⟩, i, hw, q⟩ := h
  refine ⟨_, (pss_cons (ps_setLc (i := 3) (own := [("_law_form", 2)]) (g := gName 2) rfl sc_law_woven.nd rfl rfl (sw_true rfl rfl rfl (by decide +kernel)) (pi_list (pv 0)) (blkOk_by (own := [("_law_form", 2)]) (N := n_law_woven) (sc := defScope s_law_woven) (by decide +kernel)) (fun _ _ _ _ _ => pg_name (i := 2) sc_law_woven.nd rfl (Or.inl rfl)) (fun _ _ _ _ _ => pts_nil) (fun _ _ _ _ _ => (pe_cal (c_law_once T) (hr.mono (by decide)) rfl pass0 (pa_cons (pv 2) pa_nil))))
      (pss_cons (ps_set (i := 4) sc_law_woven.nd rfl (Or.inl rfl) pe_int)
      (pss_cons (ps_set (i := 5) sc_law_woven.nd rfl (Or.inl rfl) pe_int)
      (pss_cons (ps_for PassesOwn.never rfl (pi_list (pv 3)) (pg_name (i := 2) sc_law_woven.nd rfl (Or.inl rfl)) (pss_cons (ps_set (i := 4) sc_law_woven.nd rfl (Or.inl rfl) (pe_op op_mul (pe_op op_fdiv (pv 4) (pe_cal (c_law_measure T) (hr.mono (by decide)) rfl pass0 (pa_cons (pv 4) (pa_cons (pe_callB (r := rLenS K) call_lenS (by rfl) (fr_len T) PySem.boot_len (pa_cons (pe_ix (r := rIxT K) ix_tup (pv 2) pe_int (fun _ _ => rfl)) pa_nil)) pa_nil)))) (pe_callB (r := rLenS K) call_lenS (by rfl) (fr_len T) PySem.boot_len (pa_cons (pe_ix (r := rIxT K) ix_tup (pv 2) pe_int (fun _ _ => rfl)) pa_nil))))
      (pss_one (ps_set (i := 5) sc_law_woven.nd rfl (Or.inl rfl) (pe_op op_mul (pe_op op_fdiv (pv 5) (pe_cal (c_law_measure T) (hr.mono (by decide)) rfl pass0 (pa_cons (pv 5) (pa_cons (pe_callB (r := rLenS K) call_lenS (by rfl) (fr_len T) PySem.boot_len (pa_cons (pe_ix (r := rIxT K) ix_tup (pv 2) pe_int (fun _ _ => rfl)) pa_nil)) pa_nil)))) (pe_callB (r := rLenS K) call_lenS (by rfl) (fr_len T) PySem.boot_len (pa_cons (pe_ix (r := rIxT K) ix_tup (pv 2) pe_int (fun _ _ => rfl)) pa_nil)))))))
      (pss_cons (ps_if (PW.pt (pw_or (pt_cmpR op_gt (pv 4) pe_int (nomark _)) (pw_or1 (pt_cmpR op_gt (pv 5) pe_int (nomark _))))) (pss_one (ps_ret pe_non)) pss_nil)
      (pss_cons (ps_setLc (i := 6) (own := [("_law_form", 2)]) (g := gName 2) rfl sc_law_woven.nd rfl rfl (sw_true rfl rfl rfl (by decide +kernel)) (pi_list (pv 3)) (blkOk_by (own := [("_law_form", 2)]) (N := n_law_woven) (sc := defScope s_law_woven) (by decide +kernel)) (fun _ _ _ _ _ => pg_name (i := 2) sc_law_woven.nd rfl (Or.inl rfl)) (fun _ _ _ _ _ => pts_one (PW.pt (pw_or (pt_cmpR (r := rNeD K) (op_neD hr.units) (pe_ix (r := rIxT K) ix_tup (pv 2) pe_int (fun _ _ => rfl)) (pe_tup pa_nil) (nomark _)) (pw_or1 (pt_cmpR (r := rNeD K) (op_neD hr.units) (pe_ix (r := rIxT K) ix_tup (pv 2) pe_int (fun _ _ => rfl)) (pe_ix (r := rIxT K) ix_tup (pv 2) pe_int (fun _ _ => rfl)) (nomark _)))))) (fun _ _ _ _ _ => (pv 2)))
      (pss_cons (ps_set (i := 7) sc_law_woven.nd rfl (Or.inl rfl) (pe_minD rfl (hu2 hr) rfl (fr_min T) (pe_lc (own := [("_law_form", 2)]) (g := gName 2) rfl sc_law_woven.nd (pi_list (pv 6)) (blkOk_by (own := [("_law_form", 2)]) (N := n_law_woven) (sc := defScope s_law_woven) (by decide +kernel)) (fun _ _ _ _ _ => pg_name (i := 2) sc_law_woven.nd rfl (Or.inl rfl)) (fun _ _ _ _ _ => pts_nil) (fun _ _ _ _ _ => (pe_ix (r := rIxT K) ix_tup (pv 2) pe_int (fun _ _ => rfl))))))
      (pss_cons (ps_set (i := 8) sc_law_woven.nd rfl (Or.inl rfl) (pe_maxD rfl (hu2 hr) rfl (fr_max T) (pe_lc (own := [("_law_form", 2)]) (g := gName 2) rfl sc_law_woven.nd (pi_list (pv 6)) (blkOk_by (own := [("_law_form", 2)]) (N := n_law_woven) (sc := defScope s_law_woven) (by decide +kernel)) (fun _ _ _ _ _ => pg_name (i := 2) sc_law_woven.nd rfl (Or.inl rfl)) (fun _ _ _ _ _ => pts_nil) (fun _ _ _ _ _ => (pe_op op_add (pe_ix (r := rIxT K) ix_tup (pv 2) pe_int (fun _ _ => rfl)) (pe_callB (r := rLenS K) call_lenS (by rfl) (fr_len T) PySem.boot_len (pa_cons (pe_ix (r := rIxT K) ix_tup (pv 2) pe_int (fun _ _ => rfl)) pa_nil)))))))
      (pss_one (ps_ret (pe_cal (c_law_plain T) (hr.mono (by decide)) rfl pass0 (pa_cons (pv 3) (pa_cons (pv 1) (pa_cons (pv 7) (pa_cons (pv 8) (pa_cons (pv 4) (pa_cons (pv 5) pa_nil))))))))))))))))), ?_⟩
  refine by_run (ds := [lF as, .v (.str (ruleS r))]) (d := dF (plf (wv as.Fs (ruleL r)))) i (Nat.le_of_ble_eq_true rfl) ?_ q
  obtain ⟨h1, h2, h3, h4, h5⟩ := hw
  dsimp only at h1 h2 h3 h4 h5
  have hok : ∀ F ∈ as.Fs, okRow F := fun F hF => by
    obtain ⟨x, hx, rfl⟩ := List.mem_map.mp hF
    exact h3 x hx
  have hp : ∀ F ∈ as.Fs, Pl F := fun F hF => (hok F hF).1
  have hl : as.Fs.length ≤ 3 := by unfold FL.Fs; rw [List.length_map]; exact h2
  have hlen : as.Fs.length = as.length := by unfold FL.Fs; rw [List.length_map]
  refine run_seq (run_ex (d' := .lst (as.Fs.map dF)) (evd_lcL as (fun x => tF x.1 x.2) (fun x => dF (plf x.2.at)) (evd_var rfl) (by omega) (fun x hx => (evd_call (evl_cons (evd_var rfl) evl_nil) (sd_D x (h3 x hx).2))) (fun _ _ => dF_noL _)) (by
    unfold FL.Fs
    rw [List.map_map]
    congr 1
    exact List.map_congr_left fun x hx => by rw [(h3 x hx).1.plf]; rfl) ?_)
  generalize as.Fs = Fs at hok hp hl hlen h4 h5
  refine run_seq (run_asg evd_c (run_seq (run_asg evd_c ?_)))
  refine run_seq (run_forL (ds := Fs.map dF) (fun k => [some (lF as), some (.v (.str (ruleS r))), none, some (.lst (Fs.map dF)), some (di (lcmL ((Fs.take k).map fun F => F.l.length) : Nat)), some (di (lcmL ((Fs.take k).map fun F => F.r.length) : Nat)), none, none, none]) (evd_var rfl) (fun H σ e => e) (fun k d hd => ?_) ?_)
  · rw [List.getElem?_map] at hd
    cases ha : Fs[k]? with
    | none => rw [ha] at hd; cases hd
    | some F =>
      rw [ha] at hd
      cases hd
      have hF := hok F (List.mem_of_getElem? ha)
      have a0 : 0 < F.l.length := List.length_pos_iff.mpr hF.2.l1
      have c0 : 0 < F.r.length := List.length_pos_iff.mpr hF.2.r1
      have a1 := hF.2.l2
      have c1 := hF.2.r2
      generalize hm : lcmL ((Fs.take k).map fun F => F.l.length) = m
      generalize hm2 : lcmL ((Fs.take k).map fun F => F.r.length) = m2
      have hg : 0 < Nat.gcd m F.l.length := Nat.gcd_pos_of_pos_right _ a0
      have hg2 : Nat.gcd m F.l.length ≤ F.l.length := Nat.gcd_le_right _ a0
      have hg' : 0 < Nat.gcd m2 F.r.length := Nat.gcd_pos_of_pos_right _ c0
      have hg2' : Nat.gcd m2 F.r.length ≤ F.r.length := Nat.gcd_le_right _ c0
      have hcd : CDiv (m : Int) ((Nat.gcd m F.l.length : Nat) : Int) := ⟨by omega, by omega⟩
      have hcd2 : CDiv (m2 : Int) ((Nat.gcd m2 F.r.length : Nat) : Int) := ⟨by omega, by omega⟩
      have e1 : lcmL ((Fs.take (k + 1)).map fun F => F.l.length) = m / Nat.gcd m F.l.length * F.l.length := by
        rw [List.take_add_one, ha, List.map_append]
        show lcmL (_ ++ [F.l.length]) = _
        rw [lcmL_snoc, hm, lcm_eq]
      have e2 : lcmL ((Fs.take (k + 1)).map fun F => F.r.length) = m2 / Nat.gcd m2 F.r.length * F.r.length := by
        rw [List.take_add_one, ha, List.map_append]
        show lcmL (_ ++ [F.r.length]) = _
        rw [lcmL_snoc, hm2, lcm_eq]
      refine run_seq (run_asg (evd_op (evd_op (evd_var rfl) (evd_call (evl_cons (evd_var rfl) (evl_cons (evd_is (evd_cb (evl_cons (evd_op (evd_var rfl) evd_c (d2_ixT (k := 0) rfl rfl)) evl_nil) dc_lenT) (by rw [dcs_len])) evl_nil)) (sd_D (m, F.l.length) trivial)) (d2_I hcd)) (evd_is (evd_cb (evl_cons (evd_op (evd_var rfl) evd_c (d2_ixT (k := 0) rfl rfl)) evl_nil) dc_lenT) (by rw [dcs_len])) (d2_I (.inr (by omega)))) ?_)
      refine run_asg (evd_op (evd_op (evd_var rfl) (evd_call (evl_cons (evd_var rfl) (evl_cons (evd_is (evd_cb (evl_cons (evd_op (evd_var rfl) evd_c (d2_ixT (k := 3) rfl rfl)) evl_nil) dc_lenT) (by rw [dcs_len])) evl_nil)) (sd_D (m2, F.r.length) trivial)) (d2_I hcd2)) (evd_is (evd_cb (evl_cons (evd_op (evd_var rfl) evd_c (d2_ixT (k := 3) rfl rfl)) evl_nil) dc_lenT) (by rw [dcs_len])) (d2_I (.inr (by omega)))) (fun H σ e => env_less e rfl fun i hi => ?_)
      match i, hi with
      | 0, _ => exact .inr rfl
      | 1, _ => exact .inr rfl
      | 2, _ => exact .inl rfl
      | 3, _ => exact .inr rfl
      | 4, _ =>
        right
        show some (some (di (lcmL ((Fs.take (k + 1)).map fun F => F.l.length) : Nat))) = some (some (di (((m : Int) / ((Nat.gcd m F.l.length : Nat) : Int)) * (F.l.length : Int))))
        rw [e1, Int.natCast_mul, Int.natCast_ediv]
      | 5, _ =>
        right
        show some (some (di (lcmL ((Fs.take (k + 1)).map fun F => F.r.length) : Nat))) = some (some (di (((m2 : Int) / ((Nat.gcd m2 F.r.length : Nat) : Int)) * (F.r.length : Int))))
        rw [e2, Int.natCast_mul, Int.natCast_ediv]
      | 6, _ => exact .inl rfl
      | 7, _ => exact .inl rfl
      | 8, _ => exact .inl rfl
  · rw [List.length_map, List.take_length]
    obtain ⟨b1, b2⟩ := too_iff.mp h4
    refine run_seq (run_if (b := false) (evb_is (evb_or (evb_test (evd_op (evd_var rfl) evd_c d2_I0)) fun h => (evb_test (evd_op (evd_var rfl) evd_c d2_I0))) (by
      have d1 : ¬ ((lenL Fs : Nat) : Int) > 4000 := by omega
      have d2 : ¬ ((lenR Fs : Nat) : Int) > 4000 := by omega
      show (decide (((lenL Fs : Nat) : Int) > 4000) || decide (((lenR Fs : Nat) : Int) > 4000)) = false
      rw [decide_eq_false d1, decide_eq_false d2]; rfl)) (fun hb => by cases hb) (fun hb => run_next ?_))
    refine run_seq (run_ex (d' := .lst ((own Fs).map dF)) (evd_lcF Fs dF dF (fun F => !rndB F) (evd_var rfl) (by omega) (fun x hx => evb_is (evb_or (evb_test (evd_op (evd_op (evd_var rfl) evd_c (d2_ixT (k := 1) rfl rfl)) (evd_tup evl_nil (Nat.le_of_ble_eq_true rfl)) (d2_neTs (ys := [])))) fun h => (evb_test (evd_op (evd_op (evd_var rfl) evd_c (d2_ixT (k := 0) rfl rfl)) (evd_op (evd_var rfl) evd_c (d2_ixT (k := 3) rfl rfl)) d2_neTs))) (by unfold rndB; rw [Bool.not_and])) (fun x hx _ => evd_var rfl) (fun _ _ => dF_noL _)) (by rw [own_eq]) ?_)
    have ho : (own Fs).length ≤ 3 := Nat.le_trans (by rw [own_eq]; exact List.length_filter_le _ _) hl
    refine run_seq (run_ex (d' := di (loF Fs)) (evd_minD (k := true) (ns := (own Fs).map fun F => F.f) (evd_is (evd_lcL (own Fs) dF (fun F => di F.f) (evd_var rfl) (by omega) (fun x hx => (evd_op (evd_var rfl) evd_c (d2_ixT (k := 2) rfl rfl))) (fun _ _ => rfl)) (by rw [List.map_map]; rfl))) rfl ?_)
    refine run_seq (run_ex (d' := di (hiF Fs)) (evd_minD (k := false) (ns := (own Fs).map fun F => F.e) (evd_is (evd_lcL (own Fs) dF (fun F => di F.e) (evd_var rfl) (by omega) (fun x hx => (evd_op (evd_op (evd_var rfl) evd_c (d2_ixT (k := 2) rfl rfl)) (evd_is (evd_cb (evl_cons (evd_op (evd_var rfl) evd_c (d2_ixT (k := 1) rfl rfl)) evl_nil) dc_lenT) (by rw [dcs_len])) d2_I0)) (fun _ _ => rfl)) (by rw [List.map_map]; rfl))) rfl ?_)
    have e1 := fffs_Fs Fs
    have e2 := lF_fffs Fs
    have pl : PlL r (fffs Fs) (loF Fs) (hiF Fs) (lenL Fs) (lenR Fs) := by
      refine ⟨?_, ?_, fun x hx => ?_, lo_le_hi Fs, h5, lenL_pos hp, b1, lenR_pos hp, b2, ?_, ?_⟩
      · unfold fffs; rw [List.length_map, hlen]; exact h1
      · unfold fffs; rw [List.length_map]; exact hl
      · obtain ⟨F, hF, rfl⟩ := List.mem_map.mp hx
        exact (hp F hF).ok
      · rw [e1]; exact wv_pl hp _
      · rw [e1]; exact wv_pr hp _
    have sd := sd_D (T := tx K) (args := fun a : R3 × FL × Int × Int × Nat × Nat => [lF a.2.1, .v (.str (ruleS a.1)), di a.2.2.1, di a.2.2.2.1, di (a.2.2.2.2.1 : Int), di (a.2.2.2.2.2 : Int)]) (pre := fun a => PlL a.1 a.2.1 a.2.2.1 a.2.2.2.1 a.2.2.2.2.1 a.2.2.2.2.2) (res := fun a => dF (plf (wv a.2.1.Fs (ruleL a.1)))) (E := E0) (r, fffs Fs, loF Fs, hiF Fs, lenL Fs, lenR Fs) pl
    dsimp only at sd
    rw [e1, e2] at sd
    exact run_ret (evd_call (evl_cons (evd_var rfl) (evl_cons (evd_var rfl) (evl_cons (evd_var rfl) (evl_cons (evd_var rfl) (evl_cons (evd_var rfl) (evl_cons (evd_var rfl) evl_nil)))))) sd) rfl
theorem c_law_is : Cal P w K mg base CX0 2 "_law_is" (spIsL K) := by
  obtain ⟨fd, F⟩ := fd_law_is T
  refine ⟨⟨fd, ["_law_row_here", "_law_due"], fn0 F sc_law_is (spD_len fun _ => rfl) (fun cdv A outer s H vs Q E hr h => ?_), gl_law_is T, F.kp, F.bindsN (fun _ _ _ _ _ _ us hl => match us, hl with | [_, _], _ => rfl)⟩⟩
  obtain ⟨F, i, hok, q⟩ := h
  refine ⟨_, (pss_cons (ps_if (PW.pt (pw_or (pt_not (pt_val (pe_callB (r := rIsi K) call_isi (by rfl) (fr_isinstance T) (by decide +kernel) (pa_cons (pv 0) (pa_cons (pe_glob (v := .ref (He.ga K "Row")) rfl (gl_Row T) rfl) pa_nil))))) (pw_or1 (pt_cmpR (r := rNeD K) (op_neD hr.units) (pe_calM0 (pv 0) (cl_Row T) (m_told T) (hr.mono (by decide)) pass0) (pv 1) (nomark _))))) (pss_one (ps_ret pe_bl)) pss_nil)
      (pss_cons (ps_if (PW.pt (pw_or (pt_not (pt_val (pe_callB (r := rIsi K) call_isi (by rfl) (fr_isinstance T) (by decide +kernel) (pa_cons (pe_fld (pv 0) rfl) (pa_cons (pe_bltn (v := .ty "tuple") (by rfl) (fr_tuple T) (by decide +kernel) rfl) pa_nil))))) (pw_or (pt_not (pt_val (pe_callB (r := rIsi K) call_isi (by rfl) (fr_isinstance T) (by decide +kernel) (pa_cons (pe_fld (pv 0) rfl) (pa_cons (pe_bltn (v := .ty "tuple") (by rfl) (fr_tuple T) (by decide +kernel) rfl) pa_nil))))) (pw_or1 (pt_not (pt_val (pe_callB (r := rIsi K) call_isi (by rfl) (fr_isinstance T) (by decide +kernel) (pa_cons (pe_fld (pv 0) rfl) (pa_cons (pe_bltn (v := .ty "tuple") (by rfl) (fr_tuple T) (by decide +kernel) rfl) pa_nil))))))))) (pss_one (ps_ret pe_bl)) pss_nil)
      (pss_cons (ps_for PassesOwn.never rfl (pi_tup (pe_tup (pa_cons (pe_un un_neg (pe_op op_pow pe_int pe_int)) (pa_cons (pe_op op_sub (pe_ix (r := rIxT K) ix_tup (pv 1) pe_int (fun _ _ => rfl)) pe_int) (pa_cons (pe_ix (r := rIxT K) ix_tup (pv 1) pe_int (fun _ _ => rfl)) (pa_cons pe_int (pa_cons (pe_op op_add (pe_ix (r := rIxT K) ix_tup (pv 1) pe_int (fun _ _ => rfl)) (pe_callB (r := rLenS K) call_lenS (by rfl) (fr_len T) PySem.boot_len (pa_cons (pe_ix (r := rIxT K) ix_tup (pv 1) pe_int (fun _ _ => rfl)) pa_nil))) (pa_cons (pe_op op_add (pe_op op_pow pe_int pe_int) pe_int) pa_nil)))))))) (pg_name (i := 2) sc_law_is.nd rfl (Or.inl rfl)) (pss_cons (ps_set (i := 3) sc_law_is.nd rfl (Or.inl rfl) (pe_calM (pv 0) (cl_Row T) (m_tells T) (hr.mono (by decide)) pass0 (pa_cons (pv 2) pa_nil)))
      (pss_one (ps_if (PW.pt (pw_or (pt_cmpR op_ne (pv 3) (pe_cal (c_law_at T) (hr.mono (by decide)) rfl pass0 (pa_cons (pv 1) (pa_cons (pv 2) pa_nil))) (nomark _)) (pw_or1 (pt_val (pe_callB (r := rIsi K) call_isi (by rfl) (fr_isinstance T) (by decide +kernel) (pa_cons (pv 3) (pa_cons (pe_bltn (v := .ty "bool") (by rfl) (fr_bool T) (by decide +kernel) rfl) pa_nil))))))) (pss_one (ps_ret pe_bl)) pss_nil))))
      (pss_one (ps_ret pe_bl))))), ?_⟩
  refine by_run (ds := [.row F, dF F]) (d := db true) i (Nat.le_of_ble_eq_true rfl) ?_ q
  have tup : ∀ ds : List De, DC (tx K) (rIsi K) [.tup ds, .v (.ty "tuple")] (db true) := fun ds => dc_isi (a := "tuple") rfl (by decide +kernel)
  refine run_seq (run_if (b := false) (evb_is (evb_or (evb_not (evb_test (evd_cb (evl_cons (evd_var rfl) (evl_cons evd_c evl_nil)) (dc_isRow T)))) fun h => (evb_test (evd_op (evd_meth rowF_told (evd_var rfl) evl_nil (sd_D F trivial)) (evd_var rfl) d2_neF))) (by rw [decide_eq_true rfl]; rfl)) (fun hb => by cases hb) (fun _ => run_next ?_))
  refine run_seq (run_if (b := false) (evb_is (evb_or (evb_not (evb_test (evd_cb (evl_cons (evd_left (rc T) (evd_var rfl)) (evl_cons evd_c evl_nil)) (tup _)))) fun h => (evb_or (evb_not (evb_test (evd_cb (evl_cons (evd_middle (rc T) (evd_var rfl)) (evl_cons evd_c evl_nil)) (tup _)))) fun h => (evb_not (evb_test (evd_cb (evl_cons (evd_right (rc T) (evd_var rfl)) (evl_cons evd_c evl_nil)) (tup _)))))) rfl) (fun hb => by cases hb) (fun _ => run_next ?_))
  refine run_seq (run_forT (i := 2) (ds := ([-(10 ^ 33), F.f - 1, F.f, 0, F.f + (F.m.length : Int), 10 ^ 33 + 1] : List Int).map di) (fun _ => [some (.row F), some (dF F), none, none]) (evd_is (evd_tup (evl_cons (evd_un (evd_op evd_c evd_c (d2_I ⟨by decide, by decide, by decide⟩)) d1_neg) (evl_cons (evd_op (evd_op (evd_var rfl) evd_c (d2_ixT (k := 2) rfl rfl)) evd_c d2_I0) (evl_cons (evd_op (evd_var rfl) evd_c (d2_ixT (k := 2) rfl rfl)) (evl_cons evd_c (evl_cons (evd_op (evd_op (evd_var rfl) evd_c (d2_ixT (k := 2) rfl rfl)) (evd_is (evd_cb (evl_cons (evd_op (evd_var rfl) evd_c (d2_ixT (k := 1) rfl rfl)) evl_nil) dc_lenT) (by rw [dcs_len])) d2_I0) (evl_cons (evd_op (evd_op evd_c evd_c (d2_I ⟨by decide, by decide, by decide⟩)) evd_c d2_I0) evl_nil)))))) (Nat.le_of_ble_eq_true rfl)) rfl) (fun H σ e => e) (fun k d hd => ?_) ?_)
  · rw [List.getElem?_map] at hd
    cases hz : ([-(10 ^ 33), F.f - 1, F.f, 0, F.f + (F.m.length : Int), 10 ^ 33 + 1] : List Int)[k]? with
    | none => rw [hz] at hd; cases hd
    | some z =>
      rw [hz] at hd
      cases hd
      refine run_seq (run_asg (evd_meth rowF_tells (evd_var rfl) (evl_cons (evd_var rfl) evl_nil) (sd_D (F, z) hok)) ?_)
      refine run_if (b := false) (evb_is (evb_or (evb_test (evd_op (evd_var rfl) (evd_call (evl_cons (evd_var rfl) (evl_cons (evd_var rfl) evl_nil)) (sd_D ((false, false, false), F, z) hok)) d2_neC)) fun h => (evb_test (evd_cb (evl_cons (evd_var rfl) (evl_cons evd_c evl_nil)) dc_isBool))) (by rw [decide_eq_true rfl]; rfl)) (fun hb => by cases hb) (fun _ => run_next fun H σ e => env_less e rfl fun i hi => ?_)
      match i, hi with
      | 0, _ => exact .inr rfl
      | 1, _ => exact .inr rfl
      | 2, _ => exact .inl rfl
      | 3, _ => exact .inl rfl
  · exact run_ret evd_c rfl
theorem c_law_kind : Cal P w K mg base CX0 1 "_law_kind" (spKind K) := by
  obtain ⟨fd, F⟩ := fd_law_kind T
  refine ⟨⟨fd, ["_law_error"], fn0 F sc_law_kind (spD_len fun _ => rfl) (fun cdv A outer s H vs Q E hr h => ?_), gl_law_kind T, F.kp, F.bindsN (fun _ _ _ _ _ _ us hl => match us, hl with | [_], _ => rfl)⟩⟩
  obtain ⟨x, i, _, q⟩ := h
  refine ⟨_, (pss_cons (ps_set (i := 1) sc_law_kind.nd rfl (Or.inl rfl) (pe_lst (pa_cons (pe_callB (r := rIsX K) call_isX (by rfl) (fr_isinstance T) (by decide +kernel) (pa_cons (pv 0) (pa_cons (pe_glob (v := .ref (He.ga K "TooMany")) rfl (gl_TooMany T) rfl) pa_nil))) (pa_cons (pe_callB (r := rIsX K) call_isX (by rfl) (fr_isinstance T) (by decide +kernel) (pa_cons (pv 0) (pa_cons (pe_glob (v := .ref (He.ga K "NoVersion")) rfl (gl_NoVersion T) rfl) pa_nil))) (pa_cons (pe_callB (r := rIsX K) call_isX (by rfl) (fr_isinstance T) (by decide +kernel) (pa_cons (pv 0) (pa_cons (pe_glob (v := .ref (He.ga K "NoPlace")) rfl (gl_NoPlace T) rfl) pa_nil))) pa_nil)))))
      (pss_cons (ps_set (i := 1) sc_law_kind.nd rfl (Or.inl rfl) (pe_op op_cat (pv 1) (pe_lst (pa_cons (pe_callB (r := rIsX K) call_isX (by rfl) (fr_isinstance T) (by decide +kernel) (pa_cons (pv 0) (pa_cons (pe_glob (v := .ref (He.ga K "NoRow")) rfl (gl_NoRow T) rfl) pa_nil))) (pa_cons (pe_callB (r := rIsX K) call_isX (by rfl) (fr_isinstance T) (by decide +kernel) (pa_cons (pv 0) (pa_cons (pe_glob (v := .ref (He.ga K "NoValue")) rfl (gl_NoValue T) rfl) pa_nil))) (pa_cons (pe_callB (r := rIsX K) call_isX (by rfl) (fr_isinstance T) (by decide +kernel) (pa_cons (pv 0) (pa_cons (pe_glob (v := .ref (He.ga K "NoSpan")) rfl (gl_NoSpan T) rfl) pa_nil))) pa_nil))))))
      (pss_cons (ps_if (PW.pt (pw_or (pt_not (pt_val (pe_callB (r := rIsX K) call_isX (by rfl) (fr_isinstance T) (by decide +kernel) (pa_cons (pv 0) (pa_cons (pe_bltn (v := .ty "ValueError") (by rfl) (fr_ValueError T) (by decide +kernel) rfl) pa_nil))))) (pw_or1 (pt_cmpR op_ne (pe_bm PySem.F.plainAttrs_list PySem.F.slot_list_count PySem.F.type_list_count mt_count (pv 1) (pa_cons pe_bl pa_nil)) pe_int (nomark _))))) (pss_one (ps_ret pe_str)) pss_nil)
      (pss_one (ps_ret (pe_ix (r := rIxL K) ix_list (pe_lst (pa_cons pe_str (pa_cons pe_str (pa_cons pe_str (pa_cons pe_str (pa_cons pe_str (pa_cons pe_str pa_nil))))))) (pe_bm PySem.F.plainAttrs_list PySem.F.slot_list_index PySem.F.type_list_index mt_index (pv 1) (pa_cons pe_bl pa_nil)) (fun _ _ => rfl))))))), ?_⟩
  refine by_run (ds := [.exc (xkA K x)]) (d := .v (.str (xkS x))) i (Nat.le_of_ble_eq_true rfl) ?_ q
  have key : ∀ (C : Addr) (b1 b2 b3 : Bool) (j : Nat) (sj : Str), ExcC K C → PySem.W.kitOne K (.ref C) (.ref (He.ga K "TooMany")) = some b1 → PySem.W.kitOne K (.ref C) (.ref (He.ga K "NoVersion")) = some b2 → PySem.W.kitOne K (.ref C) (.ref (He.ga K "NoPlace")) = some b3 →
      PySem.W.kitOne K (.ref C) (.ref (He.ga K "NoRow")) = some false → PySem.W.kitOne K (.ref C) (.ref (He.ga K "NoValue")) = some false → PySem.W.kitOne K (.ref C) (.ref (He.ga K "NoSpan")) = some false → PySem.W.kitOne K (.ref C) (.type "ValueError") = some true →
      ([b1, b2, b3, false, false, false].countP id = 1) → [b1, b2, b3, false, false, false][j]? = some true → (∀ m, m < j → [b1, b2, b3, false, false, false][m]? = some false) → ([.v (.str "many"), .v (.str "version"), .v (.str "place"), .v (.str "row"), .v (.str "value"), .v (.str "span")] : List De)[j]? = some (.v (.str sj)) →
      Run (tx K) (tSeq (tAsg (tLst (tCons (tCB (rIsX K) (tCons (tVar 0) (tCons (tC (.ref (He.ga K "TooMany"))) tNil))) (tCons (tCB (rIsX K) (tCons (tVar 0) (tCons (tC (.ref (He.ga K "NoVersion"))) tNil))) (tCons (tCB (rIsX K) (tCons (tVar 0) (tCons (tC (.ref (He.ga K "NoPlace"))) tNil))) tNil)))) (gName 1))
        (tSeq (tAsg (tOp rCat (tVar 1) (tLst (tCons (tCB (rIsX K) (tCons (tVar 0) (tCons (tC (.ref (He.ga K "NoRow"))) tNil))) (tCons (tCB (rIsX K) (tCons (tVar 0) (tCons (tC (.ref (He.ga K "NoValue"))) tNil))) (tCons (tCB (rIsX K) (tCons (tVar 0) (tCons (tC (.ref (He.ga K "NoSpan"))) tNil))) tNil))))) (gName 1))
        (tSeq (tIfS (tOr (tNot (tTest (tCB (rIsX K) (tCons (tVar 0) (tCons (tC (.ty "ValueError")) tNil))))) (tTest (tOp rNe (tBM K "list" (rCntV K) (tVar 1) (tCons (tC (.bl true)) tNil)) (tC (.int 1))))) (tRet (tC (.str "several"))) tNext)
        (tRet (tOp (rIxL K) (tLst (tCons (tC (.str "many")) (tCons (tC (.str "version")) (tCons (tC (.str "place")) (tCons (tC (.str "row")) (tCons (tC (.str "value")) (tCons (tC (.str "span")) tNil))))))) (tBM K "list" (rIndex K) (tVar 1) (tCons (tC (.bl true)) tNil))))))) [some (.exc C), none] (fun _ => De.v (.str sj) = .v .non) (fun e => e = .v (.str sj)) := by
    intro C b1 b2 b3 j sj xc k1 k2 k3 k4 k5 k6 k7 hc hj hm hs
    refine run_seq (run_asg (evd_lst (evl_cons (evd_cb (evl_cons (evd_var rfl) (evl_cons evd_c evl_nil)) (dc_isX xc k1)) (evl_cons (evd_cb (evl_cons (evd_var rfl) (evl_cons evd_c evl_nil)) (dc_isX xc k2)) (evl_cons (evd_cb (evl_cons (evd_var rfl) (evl_cons evd_c evl_nil)) (dc_isX xc k3)) evl_nil))) (Nat.le_of_ble_eq_true rfl)) ?_)
    refine run_seq (run_ex (d' := .lst ([b1, b2, b3, false, false, false].map db)) (evd_op (evd_var rfl) (evd_lst (evl_cons (evd_cb (evl_cons (evd_var rfl) (evl_cons evd_c evl_nil)) (dc_isX xc k4)) (evl_cons (evd_cb (evl_cons (evd_var rfl) (evl_cons evd_c evl_nil)) (dc_isX xc k5)) (evl_cons (evd_cb (evl_cons (evd_var rfl) (evl_cons evd_c evl_nil)) (dc_isX xc k6)) evl_nil))) (Nat.le_of_ble_eq_true rfl)) (d2_cat (Nat.le_of_ble_eq_true rfl))) rfl ?_)
    refine run_seq (run_if (b := false) (evb_is (evb_or (evb_not (evb_test (evd_cb (evl_cons (evd_var rfl) (evl_cons evd_c evl_nil)) (dc_isXT xc k7)))) fun h => (evb_test (evd_op (evd_count (evd_var rfl) evd_c) evd_c d2_neI))) (by rw [hc]; rfl)) (fun hb => by cases hb) (fun _ => run_next ?_))
    exact run_ret (evd_op (evd_lst (evl_cons evd_c (evl_cons evd_c (evl_cons evd_c (evl_cons evd_c (evl_cons evd_c (evl_cons evd_c evl_nil)))))) (Nat.le_of_ble_eq_true rfl)) (evd_index (evd_var rfl) evd_c hj hm) (d2_ixL hs rfl)) rfl
  have kq : ∀ {x y : Str} {b : Bool}, (x, y, b) ∈ kits → PySem.W.kitOne K (.ref (He.ga K x)) (.ref (He.ga K y)) = some b := fun h => kitq T h
  cases x with
  | many => exact key _ true false false 0 "many" (xc_TooMany T) (kq (List.mem_of_getElem? (i := 0) rfl)) (kq (List.mem_of_getElem? (i := 1) rfl)) (kq (List.mem_of_getElem? (i := 2) rfl)) (kq (List.mem_of_getElem? (i := 3) rfl)) (kq (List.mem_of_getElem? (i := 4) rfl)) (kq (List.mem_of_getElem? (i := 5) rfl)) (kv_TooMany T) rfl rfl (fun m hm => by omega) rfl
  | version => exact key _ false true false 1 "version" (xc_NoVersion T) (kq (List.mem_of_getElem? (i := 6) rfl)) (kq (List.mem_of_getElem? (i := 7) rfl)) (kq (List.mem_of_getElem? (i := 8) rfl)) (kq (List.mem_of_getElem? (i := 9) rfl)) (kq (List.mem_of_getElem? (i := 10) rfl)) (kq (List.mem_of_getElem? (i := 11) rfl)) (kv_NoVersion T) rfl rfl (fun m hm => by rw [show m = 0 by omega]; rfl) rfl
  | place => exact key _ false false true 2 "place" (xc_NoPlace T) (kq (List.mem_of_getElem? (i := 12) rfl)) (kq (List.mem_of_getElem? (i := 13) rfl)) (kq (List.mem_of_getElem? (i := 14) rfl)) (kq (List.mem_of_getElem? (i := 15) rfl)) (kq (List.mem_of_getElem? (i := 16) rfl)) (kq (List.mem_of_getElem? (i := 17) rfl)) (kv_NoPlace T) rfl rfl (fun m hm => by
    match m, hm with
    | 0, _ => rfl
    | 1, _ => rfl) rfl
theorem c_law_far : Cal P w K mg base CX0 1 "_law_far" (spFar K) := by
  obtain ⟨fd, F⟩ := fd_law_far T
  refine ⟨⟨fd, ["_law_cell_here"], fn0 F sc_law_far (spD_len fun _ => rfl) (fun cdv A outer s H vs Q E hr h => ?_), gl_law_far T, F.kp, F.bindsN (fun _ _ _ _ _ _ us hl => match us, hl with | [_], _ => rfl)⟩⟩
  obtain ⟨c, i, _, q⟩ := h
  refine ⟨_, (pss_cons (ps_set (i := 1) sc_law_far.nd rfl (Or.inl rfl) (pe_lst (pa_cons (pe_tup (pa_cons pe_int (pa_cons pe_int (pa_cons pe_bl pa_nil)))) (pa_cons (pe_tup (pa_cons pe_int (pa_cons pe_int (pa_cons pe_bl pa_nil)))) (pa_cons (pe_tup (pa_cons pe_int (pa_cons pe_int (pa_cons pe_bl pa_nil)))) (pa_cons (pe_tup (pa_cons pe_int (pa_cons pe_int (pa_cons pe_bl pa_nil)))) (pa_cons (pe_tup (pa_cons pe_int (pa_cons pe_int (pa_cons pe_bl pa_nil)))) (pa_cons (pe_tup (pa_cons pe_int (pa_cons pe_int (pa_cons pe_bl pa_nil)))) pa_nil))))))))
      (pss_one (ps_ret (pe_ix (r := rIxL K) ix_list (pe_op op_cat (pv 1) (pe_lst (pa_cons (pe_tup (pa_cons pe_int (pa_cons pe_int (pa_cons pe_bl pa_nil)))) (pa_cons (pe_tup (pa_cons pe_int (pa_cons pe_int (pa_cons pe_bl pa_nil)))) pa_nil)))) (pe_op op_mod (pv 0) pe_int) (fun _ _ => rfl))))), ?_⟩
  refine by_run (ds := [di c]) (d := dFar (farZ c)) i (Nat.le_of_ble_eq_true rfl) ?_ q
  have h1 := Int.emod_nonneg c (show (8 : Int) ≠ 0 by decide)
  have h2 := Int.emod_lt_of_pos c (show (0 : Int) < 8 by decide)
  have tr : ∀ {S : Sl} (x : Nat × Nat × Bool), EvD (tx K) (tTup (tCons (tC (.int (x.1 : Int))) (tCons (tC (.int (x.2.1 : Int))) (tCons (tC (.bl x.2.2)) tNil)))) S (dFar x) := fun x => evd_tup (evl_cons evd_c (evl_cons evd_c (evl_cons evd_c evl_nil))) (Nat.le_of_ble_eq_true rfl)
  refine run_seq (run_asg (evd_lst (evl_cons (tr (61, 67, false)) (evl_cons (tr (63, 64, false)) (evl_cons (tr (59, 67, true)) (evl_cons (tr (32, 125, true)) (evl_cons (tr (3, 4000, false)) (evl_cons (tr (2, 4000, true)) evl_nil)))))) (Nat.le_of_ble_eq_true rfl)) ?_)
  refine run_ret (evd_op (evd_is (evd_op (evd_var rfl) (evd_lst (evl_cons (tr (62, 65, false)) (evl_cons (tr (60, 66, true)) evl_nil)) (Nat.le_of_ble_eq_true rfl)) (d2_cat (Nat.le_of_ble_eq_true rfl))) (show _ = De.lst (farL.map dFar) from rfl)) (evd_op (evd_var rfl) evd_c (d2_I (by decide))) (d2_ixL (k := (c % 8).toNat) (d := dFar (farZ c)) ?_ (by omega))) rfl
  have hk : (c % 8).toNat < 8 := by omega
  unfold farZ
  rw [List.getElem?_map, List.getD_eq_getElem?_getD, List.getElem?_eq_getElem (show (c % 8).toNat < farL.length from hk)]
  rfl
theorem c_law_sized : Cal P w K mg base CX0 1 "_law_sized" (spSized K) := by
  obtain ⟨fd, F⟩ := fd_law_sized T
  refine ⟨⟨fd, ["_law_many", "_law_place", "_law_side"], fn0 F sc_law_sized (spD_len fun _ => rfl) (fun cdv A outer s H vs Q E hr h => ?_), gl_law_sized T, F.kp, F.bindsN (fun _ _ _ _ _ _ us hl => match us, hl with | [_, _, _], _ => rfl)⟩⟩
  obtain ⟨⟨m, p, sd⟩, i, ⟨hm, hm2⟩, q⟩ := h
  refine ⟨_, (pss_cons (ps_set (i := 3) sc_law_sized.nd rfl (Or.inl rfl) (pe_op op_cat (pe_op op_rep (pe_lst (pa_cons pe_int pa_nil)) (pe_op op_sub (pv 0) pe_int)) (pe_lst (pa_cons pe_int pa_nil))))
      (pss_cons (ps_if (pt_cmpR op_eq (pv 2) pe_int (nomark _)) (pss_one (ps_ret (pe_tup (pa_cons (pv 3) (pa_cons (pe_lst (pa_cons pe_int pa_nil)) (pa_cons (pv 1) (pa_cons (pe_lst (pa_cons pe_non pa_nil)) pa_nil))))))) pss_nil)
      (pss_one (ps_ret (pe_tup (pa_cons (pe_lst (pa_cons pe_non pa_nil)) (pa_cons (pe_lst (pa_cons pe_int pa_nil)) (pa_cons (pv 1) (pa_cons (pv 3) pa_nil))))))))), ?_⟩
  refine by_run (ds := [di (m : Int), di p, di sd]) (d := dL (sizF m p sd)) i (Nat.le_of_ble_eq_true rfl) ?_ q
  dsimp only at hm hm2
  refine run_seq (run_ex (d' := .lst (dcs (ringS m))) (evd_op (evd_is (evd_op (evd_lst (evl_cons evd_c evl_nil) (Nat.le_of_ble_eq_true rfl)) (evd_op (evd_var rfl) evd_c d2_I0) (d2_repL (by omega) (by omega) (by show 1 * _ ≤ _; omega))) (show _ = De.lst (dcs (rep (m - 1) [some 0])) by rw [show ((m : Int) - 1).toNat = m - 1 by omega, ← dcs_rep]; rfl)) (evd_lst (evl_cons evd_c evl_nil) (Nat.le_of_ble_eq_true rfl)) (d2_cat (by rw [dcs_len, rep_len]; show (m - 1) * 1 + 1 ≤ 100000; omega))) (by
    unfold ringS
    show De.lst (dcs _ ++ [dc (some 1)]) = De.lst (List.map _ (_ ++ [some 1]))
    rw [List.map_append]; rfl) ?_)
  refine run_seq (run_if (evb_test (evd_op (evd_var rfl) evd_c d2_eqI)) (fun hb => ?_) (fun hb => run_next ?_))
  · have hb := of_decide_eq_true hb
    exact run_ret (evd_tup (evl_cons (evd_var rfl) (evl_cons (evd_lst (evl_cons evd_c evl_nil) (Nat.le_of_ble_eq_true rfl)) (evl_cons (evd_var rfl) (evl_cons (evd_lst (evl_cons evd_c evl_nil) (Nat.le_of_ble_eq_true rfl)) evl_nil)))) (Nat.le_of_ble_eq_true rfl)) (by unfold sizF; rw [if_pos hb]; rfl)
  · have hb := of_decide_eq_false hb
    exact run_ret (evd_tup (evl_cons (evd_lst (evl_cons evd_c evl_nil) (Nat.le_of_ble_eq_true rfl)) (evl_cons (evd_lst (evl_cons evd_c evl_nil) (Nat.le_of_ble_eq_true rfl)) (evl_cons (evd_var rfl) (evl_cons (evd_var rfl) evl_nil)))) (Nat.le_of_ble_eq_true rfl)) (by unfold sizF; rw [if_neg hb]; rfl)
theorem c_law_is_patch : Cal P w K mg base CX0 6 "_law_is_patch" (spIsPatch K) := by
  obtain ⟨fd, F⟩ := fd_law_is_patch T
  refine ⟨⟨fd, ["_law_found", "_law_rows"], fn0 F sc_law_is_patch (spD_len fun _ => rfl) (fun cdv A outer s H vs Q E hr h => ?_), gl_law_is_patch T, F.kp, F.bindsN (fun _ _ _ _ _ _ us hl => match us, hl with | [_, _], _ => rfl)⟩⟩
  obtain ⟨as, i, hw, q⟩ := h
  refine ⟨_, (pss_cons (ps_if (PW.pt (pw_or (pt_not (pt_val (pe_callB (r := rIsi K) call_isi (by rfl) (fr_isinstance T) (by decide +kernel) (pa_cons (pv 0) (pa_cons (pe_bltn (v := .ty "tuple") (by rfl) (fr_tuple T) (by decide +kernel) rfl) pa_nil))))) (pw_or1 (pt_cmpR op_ne (pe_callB (r := rLenS K) call_lenS (by rfl) (fr_len T) PySem.boot_len (pa_cons (pv 0) pa_nil)) pe_int (nomark _))))) (pss_one (ps_ret pe_bl)) pss_nil)
      (pss_one (ps_ret (pe_and (pe_cal (c_law_is T) (hr.mono (by decide)) rfl pass0 (pa_cons (pe_ix (r := rIxT K) ix_tup (pv 0) pe_int (fun _ _ => rfl)) (pa_cons (pe_cal (c_law_woven T) (hr.mono (by decide)) rfl pass0 (pa_cons (pv 1) (pa_cons pe_str pa_nil))) pa_nil))) (pe_one (pe_cal (c_law_is T) (hr.mono (by decide)) rfl pass0 (pa_cons (pe_ix (r := rIxT K) ix_tup (pv 0) pe_int (fun _ _ => rfl)) (pa_cons (pe_cal (c_law_woven T) (hr.mono (by decide)) rfl pass0 (pa_cons (pv 1) (pa_cons pe_str pa_nil))) pa_nil)))))))), ?_⟩
  refine by_run (ds := [.tup [.row (plf (wv as.Fs ruU)), .row (plf (wv as.Fs ruO))], lF as]) (d := db true) i (Nat.le_of_ble_eq_true rfl) ?_ q
  have hw2 : WvL .O as := ⟨hw.k, hw.n, hw.ok, hw.t, hw.w⟩
  have hok : ∀ F ∈ as.Fs, okRow F := fun F hF => by
    obtain ⟨x, hx, rfl⟩ := List.mem_map.mp hF
    exact hw.ok x hx
  have hp : ∀ F ∈ as.Fs, Pl F := fun F hF => (hok F hF).1
  refine run_seq (run_if (b := false) (evb_is (evb_or (evb_not (evb_test (evd_cb (evl_cons (evd_var rfl) (evl_cons evd_c evl_nil)) (dc_isi (a := "tuple") rfl (by decide +kernel : kitB "tuple" "tuple" = some true))))) fun h => (evb_test (evd_op (evd_cb (evl_cons (evd_var rfl) evl_nil) dc_lenT) evd_c d2_neI))) rfl) (fun hb => by cases hb) (fun _ => run_next ?_))
  exact run_ret (evd_is (evd_and (evd_call (evl_cons (evd_op (evd_var rfl) evd_c (d2_ixT (k := 0) rfl rfl)) (evl_cons (evd_call (evl_cons (evd_var rfl) (evl_cons evd_c evl_nil)) (sd_D (R3.U, as) hw)) evl_nil)) (sd_D (plf (wv as.Fs ruU)) (wv_plf hp ruU).1.ok)) fun h => (evd_call (evl_cons (evd_op (evd_var rfl) evd_c (d2_ixT (k := 1) rfl rfl)) (evl_cons (evd_call (evl_cons (evd_var rfl) (evl_cons evd_c evl_nil)) (sd_D (R3.O, as) hw2)) evl_nil)) (sd_D (plf (wv as.Fs ruO)) (wv_plf hp ruO).1.ok))) rfl) rfl
end
end Fx

/-! FwC3: a row much like the one ahead. -/
namespace Fx
open PySem PySem.Spec PyProof.Rows L2 Fw
theorem raw_seq {T : Tx} {S S1 : Sl} {ts tu : TS} {D : Ends} {σ : L2.St} {H : Hp} (h : ∀ Nx : Sl → Prop, Nx S1 → Run T ts S Nx (fun _ => False)) (e : Env T H σ S) (k : ∀ σ' H', Same H H' → Env T H' σ' S1 → tu D σ' H') : tSeq ts tu D σ H :=
  h (fun S' => S' = S1) rfl _ σ H e (fun S' σ' H' a s e' => k σ' H' s (by rw [← a]; exact e')) fun _ _ _ z => z.elim
theorem none_of {H H' : Hp} {a : Addr} (s : Same H H') (h : H' a = none) : H a = none := by
  cases z : H a with
  | none => rfl
  | some o => rw [s _ _ z] at h; cases h
theorem evf_rep {T : Tx} {S : Sl} {ta tb : TE} {ds : List De} {i : Int} (ha : EvD T ta S (.lst ds)) (hb : EvD T tb S (di i)) (h0 : 0 ≤ i) (h1 : i ≤ 1000000) (hl : ds.length * i.toNat ≤ 1000000) : EvF T (tOp rRep ta tb) S (.lst (List.replicate i.toNat ds).flatten) := fun σ H e Q q =>
  ha σ H e _ fun v H1 e1 i1 => hb σ H1 (e.mono e1) _ fun w H2 e2 i2 => by
    obtain ⟨p, vs, r1, r2, r3⟩ := is_lst.mp (i1.mono e2)
    exact ⟨p, i, vs, r1, is_v.mp i2, r2, by omega, by omega, by rw [isA_len r3, sizeLine_eq]; omega, fun l hl' => q l _ (none_of (e1.trans e2) hl') ((e1.trans e2).trans (same_new hl')) (is_lst.mpr ⟨l, _, rfl, upd_same, (isA_rep r3 _).mono (same_new hl')⟩)⟩
theorem evb_yes {T : Tx} {S : Sl} : EvB T tYes S true := fun σ H e Q q => q H (Same.refl H)
theorem rng_all (n : Nat) : (List.range n).filter (fun _ => true) = List.range n := List.filter_eq_self.mpr fun _ _ => rfl
/-! ### forms -/
/-- base and how many steps: where a version lies -/
def loK (b : Int) (k : Nat) : Int := b - 20 - 30 * (k : Int)
def hiK (b : Int) (k : Nat) : Int := b + 20 + 5 * (k : Int)
structure okVer (b : Int) (k : Nat) (F : Fm) : Prop where
  pl : Pl F
  l12 : F.l.length ∣ 12
  r12 : F.r.length ∣ 12
  win : Win (loK b k) (hiK b k) F
structure okForm (b : Int) (k : Nat) (G : Fm) : Prop where
  l : Side G.l
  r : Side G.r
  lo : loK b k + 24 ≤ G.f
  hi : G.e ≤ hiK b k
theorem okVer.mono {b : Int} {k k' : Nat} {F : Fm} (h : okVer b k F) (hk : k ≤ k') : okVer b k' F := ⟨h.pl, h.l12, h.r12, by
  rcases h.win with z | ⟨z1, z2⟩
  · exact .inl z
  · unfold loK at z1
    unfold hiK at z2
    exact .inr ⟨by unfold loK; omega, by unfold hiK; omega⟩⟩
theorem okVer.le {b : Int} {k : Nat} {F : Fm} (h : okVer b k F) : F.l.length ≤ 12 ∧ F.r.length ≤ 12 ∧ 1 ≤ F.l.length ∧ 1 ≤ F.r.length :=
  ⟨Nat.le_of_dvd (by decide) h.l12, Nat.le_of_dvd (by decide) h.r12, List.length_pos_iff.mpr h.pl.ok.l0, List.length_pos_iff.mpr h.pl.ok.r0⟩
theorem okVer.m {b : Int} {k : Nat} {F : Fm} (h : okVer b k F) (hk : k ≤ 80) : F.m.length ≤ 3000 := by
  rcases h.win with z | ⟨z1, z2⟩
  · rw [z.1]; simp
  · unfold loK at z1
    unfold hiK Fm.e at z2
    omega
theorem okVer.fit {b : Int} {k : Nat} {F : Fm} (h : okVer b k F) (hk : k ≤ 80) : Fm.Fit F := by
  obtain ⟨a1, a2, _⟩ := h.le
  have := h.m hk
  exact ⟨h.pl.ok.l0, by omega, by omega, h.pl.ok.r0, by omega⟩
theorem okVer.row {b : Int} {k : Nat} {F : Fm} (h : okVer b k F) (hk : k ≤ 80) : okRow F := ⟨h.pl, h.fit hk⟩
theorem okForm.m {b : Int} {k : Nat} {G : Fm} (h : okForm b k G) (hk : k ≤ 80) : G.m.length ≤ 3000 := by
  have h1 := h.lo
  have h2 := h.hi
  unfold loK at h1
  unfold hiK Fm.e at h2
  omega
theorem okForm.fit {b : Int} {k : Nat} {G : Fm} (h : okForm b k G) (hk : k ≤ 80) : Fm.Fit G := by
  have := h.m hk
  exact ⟨h.l.1, by have := h.l.2.1; omega, by omega, h.r.1, by have := h.r.2.1; omega⟩
theorem side_least {xs : List C} (h : Side xs) : leastLen xs ∣ 12 := by
  obtain ⟨h1, _, n, h2, h3, h4⟩ := h
  exact Nat.dvd_trans (leastLen_dvd h1 h2 h4) h3
/-- its plain row is a version -/
theorem okForm.ver {b : Int} {k : Nat} {G : Fm} (h : okForm b k G) : okVer b k (plf G.at) := by
  have ok : G.Ok := ⟨h.l.1, h.r.1⟩
  obtain ⟨p1, p2⟩ := Fm.plf_spec ok
  obtain ⟨e1, e2, e3, e4⟩ := (Fm.tw ok).bounds p1 p2
  have d1 := side_least h.l
  have d2 := side_least h.r
  have c1 := Nat.le_of_dvd (by decide) d1
  have c2 := Nat.le_of_dvd (by decide) d2
  refine ⟨p1, by rw [e1]; exact d1, by rw [e2]; exact d2, ?_⟩
  rcases e4 with z | ⟨z1, z2, _⟩
  · exact .inl z
  · have h1 := h.lo
    have h2 := h.hi
    exact .inr ⟨by omega, by omega⟩
theorem side12 {xs : List C} (h : xs ≠ []) (d : xs.length ∣ 12) : Side xs := ⟨h, by have := Nat.le_of_dvd (by decide) d; omega, xs.length, List.length_pos_iff.mpr h, d, rg_per xs⟩
theorem side_rep {ys : List C} (h : ys ≠ []) (d : ys.length ∣ 12) {t : Nat} (h1 : 1 ≤ t) (h2 : t ≤ 2) : Side (rep t ys) := by
  have hl := Nat.le_of_dvd (by decide) d
  have h0 := List.length_pos_iff.mpr h
  have e := rep_len t ys
  have hp : 0 < t * ys.length := Nat.mul_pos h1 h0
  have hle : t * ys.length ≤ 2 * 12 := Nat.mul_le_mul h2 hl
  exact ⟨fun z => by rw [z] at e; simp at e; omega, by omega, ys.length, h0, d, rep_per h t h1⟩
theorem row_form (ns : List Int) (a b : Int) {k : Nat} (hk : 1 ≤ k) : okForm b k (rowZ ns a b) := by
  have h1 := Int.emod_nonneg (cellZ ns a / 4) (show (9 : Int) ≠ 0 by decide)
  have h2 := Int.emod_lt_of_pos (cellZ ns a / 4) (show (0 : Int) < 9 by decide)
  have hm := midC_len ns a
  refine ⟨ring_side ns _, ring_side ns _, ?_, ?_⟩
  · show loK b k + 24 ≤ b + cellZ ns a / 4 % 9 - 4
    unfold loK; omega
  · show b + cellZ ns a / 4 % 9 - 4 + ((midC ns a).length : Int) ≤ hiK b k
    unfold hiK; omega
def nearB (F : Fm) : Bool := decide ((F.m.length : Int) > 0) || !decide (F.l = F.r)
def nearA (a : Bool × Bool × Bool) (F : Fm) : Bool × Bool × Bool := if nearB F = true then a else (true, true, true)
def nearF (F : Fm) (b : Int) : Fm := if nearB F = true then F else ⟨cells F.at (b - F.l.length) F.l.length, [], b, cells F.at b F.r.length⟩
def widF (F : Fm) (x y : Int) : Fm := ⟨cells F.at (F.f - x - F.l.length) F.l.length, cells F.at (F.f - x) (F.f + F.m.length + y - (F.f - x)).toNat, F.f - x, rep (1 + y % 2).toNat (cells F.at (F.f + F.m.length + y) F.r.length)⟩
theorem near_ver {b : Int} {k : Nat} {F : Fm} (h : okVer b k F) : (nearF F b).Ok ∧ (nearF F b).l.length ∣ 12 ∧ (nearF F b).r.length ∣ 12 ∧ loK b k ≤ (nearF F b).f ∧ (nearF F b).e ≤ hiK b k := by
  obtain ⟨a1, a2, a3, a4⟩ := h.le
  unfold nearF
  by_cases z : nearB F = true
  · rw [if_pos z]
    refine ⟨h.pl.ok, h.l12, h.r12, ?_⟩
    rcases h.win with y | y
    · unfold nearB at z
      rw [y.1, y.2] at z
      simp at z
    · exact y
  · rw [if_neg z]
    refine ⟨⟨cells_ne (by omega), cells_ne (by omega)⟩, by show (cells _ _ _).length ∣ 12; rw [cells_len]; exact h.l12, by show (cells _ _ _).length ∣ 12; rw [cells_len]; exact h.r12, ?_, ?_⟩
    · show loK b k ≤ b
      unfold loK; omega
    · show b + (([] : List C).length : Int) ≤ hiK b k
      unfold hiK
      simp; omega
theorem wid_side {F : Fm} {x y : Int} (ok : F.Ok) (h1 : F.l.length ∣ 12) (h2 : F.r.length ∣ 12) (hy : 0 ≤ y) : Side (widF F x y).l ∧ Side (widF F x y).r := by
  have a1 := List.length_pos_iff.mpr ok.l0
  have a2 := List.length_pos_iff.mpr ok.r0
  have m1 := Int.emod_nonneg y (show (2 : Int) ≠ 0 by decide)
  have m2 := Int.emod_lt_of_pos y (show (0 : Int) < 2 by decide)
  exact ⟨side12 (cells_ne a1) (by show (cells _ _ _).length ∣ 12; rw [cells_len]; exact h1), side_rep (cells_ne a2) (by rw [cells_len]; exact h2) (by omega) (by omega)⟩
section
variable {P : Program} {w : World} {K : PySem.W.Frag} {mg : Str → Option Value} {base : Heap} (T : Tt K mg)
def spNear (K : PySem.W.Frag) : Sp := spD (tx K) (fun a : (Bool × Bool × Bool) × Fm × Int => [tF a.1 a.2.1, di a.2.2]) (fun a => a.2.1.Ok ∧ a.2.1.l.length ≤ 100 ∧ a.2.1.r.length ≤ 100) (fun a => tF (nearA a.1 a.2.1) (nearF a.2.1 a.2.2))
/-- four values, the middle one a new list -/
def Wid (H H' : Hp) (G : Fm) (p a b c : Addr) : Prop := Same H H' ∧ H' p = some (.tup [.ref a, .ref b, .int G.f, .ref c]) ∧ H' a = some (.lst (G.l.map cv)) ∧ H' b = some (.lst (G.m.map cv)) ∧ H' c = some (.lst (G.r.map cv)) ∧ H b = none ∧ b ≠ a ∧ b ≠ c
def spWider (K : PySem.W.Frag) : Sp := fun vs H Q _ => ∃ (a : Bool × Bool × Bool) (F : Fm) (x y : Int), IsA (tx K) H [tF a F, di x, di y] vs ∧ F.Ok ∧ F.l.length ≤ 100 ∧ F.r.length ≤ 100 ∧ F.m.length ≤ 4000 ∧ 0 ≤ x ∧ x ≤ 5 ∧ 0 ≤ y ∧ y ≤ 5 ∧
  ∀ p a b c H', Wid H H' (widF F x y) p a b c → Q (.ref p) H'
include T
theorem c_law_near : Cal P w K mg base CX0 2 "_law_near" (spNear K) := by
  obtain ⟨fd, F⟩ := fd_law_near T
  refine ⟨⟨fd, ["_law_form", "_law_base_here"], fn0 F sc_law_near (spD_len fun _ => rfl) (fun cdv A outer s H vs Q E hr h => ?_), gl_law_near T, F.kp, F.bindsN (fun _ _ _ _ _ _ us hl => match us, hl with | [_, _], _ => rfl)⟩⟩
  obtain ⟨⟨⟨b1, b2, b3⟩, F, b⟩, i, ⟨hok, hl, hr2⟩, q⟩ := h
  refine ⟨_, (pss_cons (ps_asg (pv 0) (pg_tup rfl (pgs_cons (pg_name (i := 2) sc_law_near.nd rfl (Or.inr rfl)) (pgs_cons (pg_name (i := 3) sc_law_near.nd rfl (Or.inl rfl)) (pgs_cons (pg_name (i := 4) sc_law_near.nd rfl (Or.inl rfl)) (pgs_cons (pg_name (i := 5) sc_law_near.nd rfl (Or.inl rfl)) pgs_nil))))))
      (pss_cons (ps_if (PW.pt (pw_or (pt_cmpR op_gt (pe_callB (r := rLenS K) call_lenS (by rfl) (fr_len T) PySem.boot_len (pa_cons (pv 3) pa_nil)) pe_int (nomark _)) (pw_or1 (pt_cmpR (r := rNeD K) (op_neD hr.units) (pe_callTy call_listS (by rfl) (fr_list T) (by decide +kernel) (pa_cons (pv 2) pa_nil)) (pe_callTy call_listS (by rfl) (fr_list T) (by decide +kernel) (pa_cons (pv 5) pa_nil)) (nomark _))))) (pss_one (ps_ret (pv 0))) pss_nil)
      (pss_cons (ps_setLc (i := 6) (own := [("_law_k", 7)]) (g := gName 7) rfl sc_law_near.nd rfl rfl (sw_true rfl rfl rfl (by decide +kernel)) (pi_any1 rfl (fr_range T) (pa_cons (pe_callB (r := rLenS K) call_lenS (by rfl) (fr_len T) PySem.boot_len (pa_cons (pv 2) pa_nil)) pa_nil)) (blkOk_by (own := [("_law_k", 7)]) (N := n_law_near) (sc := defScope s_law_near) (by decide +kernel)) (fun _ _ _ _ _ => pg_name (i := 7) sc_law_near.nd rfl (Or.inl rfl)) (fun _ _ _ _ _ => pts_nil) (fun _ _ _ _ _ => (pe_cal (c_law_at T) (hr.mono (by decide)) rfl pass0 (pa_cons (pv 0) (pa_cons (pe_op op_add (pe_op op_sub (pv 1) (pe_callB (r := rLenS K) call_lenS (by rfl) (fr_len T) PySem.boot_len (pa_cons (pv 2) pa_nil))) (pv 7)) pa_nil)))))
      (pss_one (ps_ret (pe_tup (pa_cons (pv 6) (pa_cons (pe_lst pa_nil) (pa_cons (pv 1) (pa_cons (pe_lc (own := [("_law_k", 7)]) (g := gName 7) rfl sc_law_near.nd (pi_any1 rfl (fr_range T) (pa_cons (pe_callB (r := rLenS K) call_lenS (by rfl) (fr_len T) PySem.boot_len (pa_cons (pv 5) pa_nil)) pa_nil)) (blkOk_by (own := [("_law_k", 7)]) (N := n_law_near) (sc := defScope s_law_near) (by decide +kernel)) (fun _ _ _ _ _ => pg_name (i := 7) sc_law_near.nd rfl (Or.inl rfl)) (fun _ _ _ _ _ => pts_nil) (fun _ _ _ _ _ => (pe_cal (c_law_at T) (hr.mono (by decide)) rfl pass0 (pa_cons (pv 0) (pa_cons (pe_op op_add (pv 1) (pv 7)) pa_nil))))) pa_nil)))))))))), ?_⟩
  refine by_run (ds := [tF (b1, b2, b3) F, di b]) (d := tF (nearA (b1, b2, b3) F) (nearF F b)) i (Nat.le_of_ble_eq_true rfl) ?_ q
  dsimp only at hl hr2
  refine run_seq (run_unT (is := [2, 3, 4, 5]) (evd_var rfl) rfl rfl (run_seq (run_if (b := nearB F) (evb_is (evb_or (evb_test (evd_op (evd_is (evd_cb (evl_cons (evd_var rfl) evl_nil) dc_len) (by rw [dcs_len])) evd_c d2_I0)) fun h => (evb_test (evd_op (evd_cb (evl_cons (evd_var rfl) evl_nil) dc_list) (evd_cb (evl_cons (evd_var rfl) evl_nil) dc_list) d2_neLs))) rfl) (fun hb => ?_) (fun hb => run_next ?_))))
  · exact run_ret (evd_var rfl) (by unfold nearA nearF; rw [if_pos hb, if_pos hb])
  · have lb : ∀ {S : Sl} {bb : Bool} {xs : List C} {n : Nat}, S[n]? = some (some (De.sq bb (dcs xs))) → EvD (tx K) (tCB (rLenS K) (tCons (tVar n) tNil)) S (di (xs.length : Int)) := fun hs => evd_is (evd_cb (evl_cons (evd_var hs) evl_nil) dc_len) (by rw [dcs_len])
    refine run_seq (run_ex (d' := .lst (dcs (cells F.at (b - F.l.length) F.l.length))) (evd_lcR1 (fun k => dc (F.at (b - (F.l.length : Int) + (k : Int)))) (evl_cons (lb rfl) evl_nil) (by omega) (fun k hk => (evd_call (evl_cons (evd_var rfl) (evl_cons (evd_op (evd_op (evd_var rfl) (lb rfl) d2_I0) (evd_var rfl) d2_I0) evl_nil)) (sd_D ((b1, b2, b3), F, b - (F.l.length : Int) + (k : Int)) hok))) (fun _ _ => rfl)) (by rw [Int.toNat_natCast, dcs_cells]) ?_)
    refine run_ret (evd_tup (evl_cons (evd_var rfl) (evl_cons (evd_lst evl_nil (Nat.le_of_ble_eq_true rfl)) (evl_cons (evd_var rfl) (evl_cons (evd_is (evd_lcR1 (fun k => dc (F.at (b + (k : Int)))) (evl_cons (lb rfl) evl_nil) (by omega) (fun k hk => (evd_call (evl_cons (evd_var rfl) (evl_cons (evd_op (evd_var rfl) (evd_var rfl) d2_I0) evl_nil)) (sd_D ((b1, b2, b3), F, b + (k : Int)) hok))) (fun _ _ => rfl)) (show _ = De.lst (dcs (cells F.at b F.r.length)) by rw [Int.toNat_natCast, dcs_cells])) evl_nil)))) (Nat.le_of_ble_eq_true rfl)) (by unfold nearA nearF; rw [if_neg (by rw [hb]; exact Bool.false_ne_true), if_neg (by rw [hb]; exact Bool.false_ne_true)]; rfl)
theorem c_law_wider : Cal P w K mg base CX0 2 "_law_wider" (spWider K) := by
  obtain ⟨fd, F⟩ := fd_law_wider T
  refine ⟨⟨fd, ["_law_form", "_law_ahead", "_law_behind"], fn0 F sc_law_wider (fun vs H Q E h => by obtain ⟨a, F, x, y, i, _⟩ := h; rw [isA_len i]; rfl) (fun cdv A outer s H vs Q E hr h => ?_), gl_law_wider T, F.kp, F.bindsN (fun _ _ _ _ _ _ us hl => match us, hl with | [_, _, _], _ => rfl)⟩⟩
  obtain ⟨⟨b1, b2, b3⟩, F, x, y, i, hok, hl, hr2, hm, x0, x1, y0, y1, q⟩ := h
  refine ⟨_, (pss_cons (ps_asg (pv 0) (pg_tup rfl (pgs_cons (pg_name (i := 3) sc_law_wider.nd rfl (Or.inr rfl)) (pgs_cons (pg_name (i := 4) sc_law_wider.nd rfl (Or.inl rfl)) (pgs_cons (pg_name (i := 5) sc_law_wider.nd rfl (Or.inl rfl)) (pgs_cons (pg_name (i := 6) sc_law_wider.nd rfl (Or.inl rfl)) pgs_nil))))))
      (pss_cons (ps_set (i := 7) sc_law_wider.nd rfl (Or.inr rfl) (pe_op op_sub (pv 5) (pv 1)))
      (pss_cons (ps_set (i := 8) sc_law_wider.nd rfl (Or.inr rfl) (pe_op op_add (pe_op op_add (pv 5) (pe_callB (r := rLenS K) call_lenS (by rfl) (fr_len T) PySem.boot_len (pa_cons (pv 4) pa_nil))) (pv 2)))
      (pss_cons (ps_setLc (i := 9) (own := [("_law_k", 11)]) (g := gName 11) rfl sc_law_wider.nd rfl rfl (sw_true rfl rfl rfl (by decide +kernel)) (pi_any1 rfl (fr_range T) (pa_cons (pe_callB (r := rLenS K) call_lenS (by rfl) (fr_len T) PySem.boot_len (pa_cons (pv 3) pa_nil)) pa_nil)) (blkOk_by (own := [("_law_k", 11)]) (N := n_law_wider) (sc := defScope s_law_wider) (by decide +kernel)) (fun _ _ _ _ _ => pg_name (i := 11) sc_law_wider.nd rfl (Or.inl rfl)) (fun _ _ _ _ _ => pts_nil) (fun _ _ _ _ _ => (pe_cal (c_law_at T) (hr.mono (by decide)) rfl pass0 (pa_cons (pv 0) (pa_cons (pe_op op_add (pe_op op_sub (pv 7) (pe_callB (r := rLenS K) call_lenS (by rfl) (fr_len T) PySem.boot_len (pa_cons (pv 3) pa_nil))) (pv 11)) pa_nil)))))
      (pss_cons (ps_setLc (i := 10) (own := [("_law_k", 11)]) (g := gName 11) rfl sc_law_wider.nd rfl rfl (sw_true rfl rfl rfl (by decide +kernel)) (pi_any1 rfl (fr_range T) (pa_cons (pe_callB (r := rLenS K) call_lenS (by rfl) (fr_len T) PySem.boot_len (pa_cons (pv 6) pa_nil)) pa_nil)) (blkOk_by (own := [("_law_k", 11)]) (N := n_law_wider) (sc := defScope s_law_wider) (by decide +kernel)) (fun _ _ _ _ _ => pg_name (i := 11) sc_law_wider.nd rfl (Or.inl rfl)) (fun _ _ _ _ _ => pts_nil) (fun _ _ _ _ _ => (pe_cal (c_law_at T) (hr.mono (by decide)) rfl pass0 (pa_cons (pv 0) (pa_cons (pe_op op_add (pv 8) (pv 11)) pa_nil)))))
      (pss_one (ps_ret (pe_tup (pa_cons (pv 9) (pa_cons (pe_lc (own := [("_law_place", 12)]) (g := gName 12) rfl sc_law_wider.nd (pi_any2 rfl (fr_range T) (pa_cons (pv 7) (pa_cons (pv 8) pa_nil))) (blkOk_by (own := [("_law_place", 12)]) (N := n_law_wider) (sc := defScope s_law_wider) (by decide +kernel)) (fun _ _ _ _ _ => pg_name (i := 12) sc_law_wider.nd rfl (Or.inl rfl)) (fun _ _ _ _ _ => pts_nil) (fun _ _ _ _ _ => (pe_cal (c_law_at T) (hr.mono (by decide)) rfl pass0 (pa_cons (pv 0) (pa_cons (pv 12) pa_nil))))) (pa_cons (pv 7) (pa_cons (pe_op op_rep (pv 10) (pe_op op_add pe_int (pe_op op_mod (pv 2) pe_int))) pa_nil)))))))))))), ?_⟩
  have e := env_start (T := tx K) 10 i
  have start : (L2.start n_law_wider vs) = vs.map some ++ List.replicate 10 none := by unfold L2.start; rw [isA_len i]; rfl
  rw [start]
  have lb : ∀ {S : Sl} {bb : Bool} {xs : List C} {n : Nat}, S[n]? = some (some (De.sq bb (dcs xs))) → EvD (tx K) (tCB (rLenS K) (tCons (tVar n) tNil)) S (di (xs.length : Int)) := fun hs => evd_is (evd_cb (evl_cons (evd_var hs) evl_nil) dc_len) (by rw [dcs_len])
  refine raw_seq (fun Nx kk => run_unT (is := [3, 4, 5, 6]) (ds := sqs (b1, b2, b3) F) (evd_var rfl) rfl rfl kk) e fun σ1 H1 s1 e1 => ?_
  refine raw_seq (fun Nx kk => run_asg (evd_op (evd_var rfl) (evd_var rfl) d2_I0) kk) e1 fun σ2 H2 s2 e2 => ?_
  refine raw_seq (fun Nx kk => run_asg (evd_op (evd_op (evd_var rfl) (lb rfl) d2_I0) (evd_var rfl) d2_I0) kk) e2 fun σ3 H3 s3 e3 => ?_
  refine raw_seq (fun Nx kk => run_ex (d' := .lst (dcs (cells F.at (F.f - x - F.l.length) F.l.length))) (evd_lcR1 (fun k => dc (F.at (F.f - x - (F.l.length : Int) + (k : Int)))) (evl_cons (lb rfl) evl_nil) (by omega) (fun k hk => (evd_call (evl_cons (evd_var rfl) (evl_cons (evd_op (evd_op (evd_var rfl) (lb rfl) d2_I0) (evd_var rfl) d2_I0) evl_nil)) (sd_D ((b1, b2, b3), F, F.f - x - (F.l.length : Int) + (k : Int)) hok))) (fun _ _ => rfl)) (by rw [Int.toNat_natCast, dcs_cells]) kk) e3 fun σ4 H4 s4 e4 => ?_
  refine raw_seq (fun Nx kk => run_ex (d' := .lst (dcs (cells F.at (F.f + F.m.length + y) F.r.length))) (evd_lcR1 (fun k => dc (F.at (F.f + (F.m.length : Int) + y + (k : Int)))) (evl_cons (lb rfl) evl_nil) (by omega) (fun k hk => (evd_call (evl_cons (evd_var rfl) (evl_cons (evd_op (evd_var rfl) (evd_var rfl) d2_I0) evl_nil)) (sd_D ((b1, b2, b3), F, F.f + (F.m.length : Int) + y + (k : Int)) hok))) (fun _ _ => rfl)) (by rw [Int.toNat_natCast, dcs_cells]) kk) e4 fun σ5 H5 s5 e5 => ?_
  have e5 : Env (tx K) H5 σ5 [some (tF (b1, b2, b3) F), some (di x), some (di y), some (De.sq b1 (dcs F.l)), some (De.sq b2 (dcs F.m)), some (di F.f), some (De.sq b3 (dcs F.r)), some (di (F.f - x)), some (di (F.f + (F.m.length : Int) + y)), some (.lst (dcs (cells F.at (F.f - x - F.l.length) F.l.length))), some (.lst (dcs (cells F.at (F.f + F.m.length + y) F.r.length))), none, none] := e5
  obtain ⟨v9, h9, i9⟩ := e5.2 9 _ rfl
  obtain ⟨a0, va, rfl, ha1, ha2⟩ := is_lst.mp i9
  rw [isA_vs.mp ha2] at ha1
  have ym1 := Int.emod_nonneg y (show (2 : Int) ≠ 0 by decide)
  have ym2 := Int.emod_lt_of_pos y (show (0 : Int) < 2 by decide)
  have mid : EvF (tx K) (tLc (iAny2 (tCons (tVar 7) (tCons (tVar 8) tNil))) (gName 12) tYes (tCall (spAt K) [] E0 (tCons (tVar 0) (tCons (tVar 12) tNil))) [12]) _ (.lst (dcs (widF F x y).m)) := fun σ H e Q q => by
    refine evf_lcRF (T := tx K) (S := [some (tF (b1, b2, b3) F), some (di x), some (di y), some (De.sq b1 (dcs F.l)), some (De.sq b2 (dcs F.m)), some (di F.f), some (De.sq b3 (dcs F.r)), some (di (F.f - x)), some (di (F.f + (F.m.length : Int) + y)), some (.lst (dcs (cells F.at (F.f - x - F.l.length) F.l.length))), some (.lst (dcs (cells F.at (F.f + F.m.length + y) F.r.length))), none, none]) (fun k => dc (F.at (F.f - x + (k : Int)))) (fun _ => true) (evl_cons (evd_var rfl) (evl_cons (evd_var rfl) evl_nil)) (by omega) (fun k hk => evb_yes) (fun k hk _ => (evd_call (evl_cons (evd_var rfl) (evl_cons (evd_var rfl) evl_nil)) (sd_D ((b1, b2, b3), F, F.f - x + (k : Int)) hok))) (fun _ _ => rfl) σ H e Q (fun p H' h1 h2 h3 => q p H' h1 h2 ?_)
    rw [rng_all, dcs_cells] at h3
    exact h3
  have rt : EvF (tx K) (tOp rRep (tVar 10) (tOp (rI0 fun i j => .int (i + j)) (tC (.int 1)) (tOp (rI (fun _ j => 0 < j) fun i j => .int (i % j)) (tVar 2) (tC (.int 2))))) [some (tF (b1, b2, b3) F), some (di x), some (di y), some (De.sq b1 (dcs F.l)), some (De.sq b2 (dcs F.m)), some (di F.f), some (De.sq b3 (dcs F.r)), some (di (F.f - x)), some (di (F.f + (F.m.length : Int) + y)), some (.lst (dcs (cells F.at (F.f - x - F.l.length) F.l.length))), some (.lst (dcs (cells F.at (F.f + F.m.length + y) F.r.length))), none, none] (.lst (dcs (widF F x y).r)) := fun σ H e Q q => by
    refine evf_rep (evd_var rfl) (evd_op evd_c (evd_op (evd_var rfl) evd_c (d2_I (by decide))) d2_I0) (by omega) (by omega) (by
      rw [dcs_len, cells_len]
      exact Nat.le_trans (Nat.mul_le_mul hr2 (show _ ≤ 2 by omega)) (by decide)) σ H e Q (fun p H' h1 h2 h3 => q p H' h1 h2 ?_)
    rw [dcs_rep] at h3
    exact h3
  unfold tRet tTup tCons
  refine ⟨_, h9, ?_⟩
  refine mid σ5 H5 e5 _ fun b0 H6 hb s6 i6 => ?_
  refine ⟨_, (e5.2 7 _ rfl).choose_spec.1, ?_⟩
  refine rt σ5 H6 (e5.mono s6) _ fun c0 H7 hc s7 i7 => ?_
  obtain ⟨_, _, q1, hb1, hb2⟩ := is_lst.mp (i6.mono s7)
  cases q1
  rw [isA_vs.mp hb2] at hb1
  obtain ⟨_, _, q2, hc1, hc2⟩ := is_lst.mp i7
  cases q2
  rw [isA_vs.mp hc2] at hc1
  refine ⟨Nat.le_of_ble_eq_true rfl, fun p hp => ?_⟩
  have h7v : (e5.2 7 _ rfl).choose = .int (F.f - x) := is_v.mp (e5.2 7 _ rfl).choose_spec.2
  have hb6 : H6 b0 ≠ none := by
    obtain ⟨_, _, q3, z, _⟩ := is_lst.mp i6
    cases q3
    rw [z]; exact fun y => by cases y
  refine q p a0 b0 c0 _ ⟨?_, ?_, ?_, ?_, ?_, ?_, ?_, ?_⟩
  · exact ((((((s1.trans s2).trans s3).trans s4).trans s5).trans s6).trans s7).trans (same_new hp)
  · rw [upd_same, h7v]; rfl
  · rw [upd_ne (ne_of_none (s7 _ _ (s6 _ _ ha1)) hp)]; exact s7 _ _ (s6 _ _ ha1)
  · rw [upd_ne (ne_of_none hb1 hp)]; exact hb1
  · rw [upd_ne (ne_of_none hc1 hp)]; exact hc1
  · exact none_of ((((s1.trans s2).trans s3).trans s4).trans s5) hb
  · intro z; rw [z, ha1] at hb; cases hb
  · intro z; rw [z] at hb6; exact hb6 hc
end
end Fx

/-! FwC4: _law_like. -/
namespace Fx
open PySem PySem.Spec PyProof.Rows L2 Fw
section
variable {T : Tx} {S : Sl} {te : TE} {tt : TT} {ts tn tu : TS} {D : Ends} {σ : L2.St} {H : Hp} {d : De} {ds : List De}
theorem raw_asgD {i : Nat} (h : EvD T te S d) (e : Env T H σ S) (k : ∀ v H1, Same H H1 → Is T H1 d v → tu D (σ.set i (some v)) H1) : tSeq (tAsg te (gName i)) tu D σ H := h σ H e _ fun v H1 s i1 => k v H1 s i1
theorem raw_asg {g : TG} (h : te σ H fun v H1 => g v σ H1 fun σ2 H2 => tu D σ2 H2) : tSeq (tAsg te g) tu D σ H := h
theorem raw_call {sp : Sp} {E : XK} {t : TA} {Q : VK} (h : EvL T t S ds) (e : Env T H σ S) (k : ∀ vs H1, Same H H1 → IsA T H1 ds vs → sp vs H1 Q E) : tCall sp [] E t σ H Q := h σ H e _ fun vs H1 s i => by
  rw [List.append_nil]
  exact k vs H1 s i
theorem raw_if {b : Bool} (h : EvB T tt S b) (e : Env T H σ S) (h1 : b = true → ∀ H', Same H H' → ts { D with nx := fun σ H => tu D σ H } σ H') (h2 : b = false → ∀ H', Same H H' → tn { D with nx := fun σ H => tu D σ H } σ H') : tSeq (tIfS tt ts tn) tu D σ H := h σ H e _ fun H1 s => by
  cases b with
  | true => exact h1 rfl H1 s
  | false => exact h2 rfl H1 s
theorem raw_for1 {i : Nat} {hi : Int} {ta : TA} {tb : TS} (h : EvL T ta S [di hi]) (e : Env T H σ S) (Pv : Nat → L2.St → Hp → Prop) (p0 : ∀ H', Same H H' → Pv 0 σ H')
    (hs : ∀ k σ H, k < hi.toNat → Pv k σ H → tb { D with nx := Pv (k + 1), ct := Pv (k + 1), bk := D.nx } (σ.set i (some (.int (0 + (k : Int))))) H) (hd : ∀ σ H, Pv hi.toNat σ H → D.nx σ H) : tFor (iAny1 ta) (gName i) tb D σ H :=
  h σ H e _ fun vs H1 s1 i1 => by
    obtain ⟨v, r', rfl, h1, h2⟩ := isA_cons.mp i1
    rw [isA_nil.mp h2, is_v.mp h1]
    exact ⟨hi, rfl, for_range (lo := 0) Pv (p0 H1 s1) hs hd⟩
theorem env_add {i : Nat} {v : V} (e : Env T H σ S) (h : σ[i]? = some (some v)) (k : Is T H d v) : Env T H σ (S.set i (some d)) := by
  have z := Env.set (i := i) e k
  have : σ.set i (some v) = σ := by
    apply List.ext_getElem?
    intro a
    by_cases q : i = a
    · subst q
      rw [List.getElem?_set_self (List.getElem?_eq_some_iff.mp h).1, h]
    · rw [List.getElem?_set_ne q]
  rwa [this] at z
end
theorem map_set_cv (m : List C) (j : Nat) (c : C) : (m.map cv).set j (cv c) = (m.set j c).map cv := by
  rw [List.map_set]
section
variable {P : Program} {w : World} {K : PySem.W.Frag} {mg : Str → Option Value} {base : Heap} (T : Tt K mg)
def spLike (K : PySem.W.Frag) : Sp := fun vs H Q _ => ∃ (ns : List Int) (a : Int) (F : Fm) (b : Int) (k : Nat), IsA (tx K) H [.scr ns, di a, dF F, di b] vs ∧ ns.length ≤ 63 ∧ okVer b k F ∧ k ≤ 70 ∧
  ∀ G v H', okForm b (k + 1) G → Same H H' → Is (tx K) H' (dL G) v → Q v H'
/-- how it stands while the middle is written anew -/
structure Lk (H0 : Hp) (σs : L2.St) (l r : List C) (a0 b0 c0 : Addr) (m : List C) (σ : L2.St) (H : Hp) : Prop where
  sm : Same H0 H
  ha : H a0 = some (.lst (l.map cv))
  hb : H b0 = some (.lst (m.map cv))
  hc : H c0 = some (.lst (r.map cv))
  len : σ.length = σs.length
  ag : ∀ j, j ≠ 10 → j ≠ 11 → σ[j]? = σs[j]?
abbrev likeA : TE := tOp (rI0 fun i j => .int (i + j)) (tVar 1) (tC (.int 10))
abbrev likeQ (n : Int) : TT := tTest (tOp rEq (tVar 9) (tC (.int n)))
abbrev likeT (K : PySem.W.Frag) : TS :=
  tSeq (tIfS (likeQ 3) (tAsg (tCall (spRing K) [] E0 (tCons (tVar 0) (tCons likeA tNil))) (gName 5)) tNext)
  (tSeq (tIfS (likeQ 4) (tAsg (tCall (spRing K) [] E0 (tCons (tVar 0) (tCons likeA tNil))) (gName 8)) tNext)
  (tSeq (tIfS (likeQ 5) (tRet (tCall (spRowZ K) [] E0 (tCons (tVar 0) (tCons likeA (tCons (tVar 3) tNil))))) tNext)
  (tSeq (tIfS (likeQ 6) (tRet (tTup (tCons (tVar 8) (tCons (tLst tNil) (tCons (tOp (rI0 fun i j => .int (i + j)) (tVar 3) (tC (.int 7))) (tCons (tVar 8) tNil)))))) tNext)
  (tRet (tTup (tCons (tVar 5) (tCons (tVar 6) (tCons (tVar 7) (tCons (tVar 8) tNil)))))))))
include T
theorem c_law_like : Cal P w K mg base CX0 4 "_law_like" (spLike K) := by
  obtain ⟨fd, F⟩ := fd_law_like T
  refine ⟨⟨fd, ["_law_script", "_law_at_here", "_law_form", "_law_base_here"], fn0 F sc_law_like (fun vs H Q E h => by obtain ⟨ns, a, F, b, k, i, _⟩ := h; rw [isA_len i]; rfl) (fun cdv A outer s H vs Q E hr h => ?_), gl_law_like T, F.kp, F.bindsN (fun _ _ _ _ _ _ us hl => match us, hl with | [_, _, _, _], _ => rfl)⟩⟩
  obtain ⟨ns, a, F, b, k, i, hns, hv, hk, q⟩ := h
  refine ⟨_, (pss_cons (ps_set (i := 4) sc_law_like.nd rfl (Or.inl rfl) (pe_cal (c_law_cell T) (hr.mono (by decide)) rfl pass0 (pa_cons (pv 0) (pa_cons (pv 1) pa_nil))))
      (pss_cons (ps_asg (pe_cal (c_law_wider T) (hr.mono (by decide)) rfl pass0 (pa_cons (pe_cal (c_law_near T) (hr.mono (by decide)) rfl pass0 (pa_cons (pv 2) (pa_cons (pv 3) pa_nil))) (pa_cons (pe_op op_mod (pe_op op_fdiv (pv 4) pe_int) pe_int) (pa_cons (pe_op op_mod (pe_op op_fdiv (pv 4) pe_int) pe_int) pa_nil)))) (pg_tup rfl (pgs_cons (pg_name (i := 5) sc_law_like.nd rfl (Or.inl rfl)) (pgs_cons (pg_name (i := 6) sc_law_like.nd rfl (Or.inl rfl)) (pgs_cons (pg_name (i := 7) sc_law_like.nd rfl (Or.inl rfl)) (pgs_cons (pg_name (i := 8) sc_law_like.nd rfl (Or.inl rfl)) pgs_nil))))))
      (pss_cons (ps_set (i := 9) sc_law_like.nd rfl (Or.inl rfl) (pe_op op_mod (pv 4) pe_int))
      (pss_cons (ps_if (PW.pt (pw_and (pt_cmpR op_lt (pv 9) pe_int (nomark _)) (pw_and1 (pt_cmpR (r := rNeD K) (op_neD hr.units) (pv 6) (pe_lst pa_nil) (nomark _))))) (pss_one (ps_for PassesOwn.never rfl (pi_any1 rfl (fr_range T) (pa_cons (pe_op op_add pe_int (pv 9)) pa_nil)) (pg_name (i := 10) sc_law_like.nd rfl (Or.inl rfl)) (pss_cons (ps_set (i := 11) sc_law_like.nd rfl (Or.inl rfl) (pe_cal (c_law_cell T) (hr.mono (by decide)) rfl pass0 (pa_cons (pv 0) (pa_cons (pe_op op_add (pe_op op_add (pv 1) pe_int) (pv 10)) pa_nil))))
      (pss_one (ps_asg (pe_cal (c_law_value T) (hr.mono (by decide)) rfl pass0 (pa_cons (pe_op op_fdiv (pv 11) pe_int) pa_nil)) (pg_sub (pv 6) (pe_op op_mod (pv 11) (pe_callB (r := rLenS K) call_lenS (by rfl) (fr_len T) PySem.boot_len (pa_cons (pv 6) pa_nil))) set_list)))))) pss_nil)
      (pss_cons (ps_if (pt_cmpR op_eq (pv 9) pe_int (nomark _)) (pss_one (ps_set (i := 5) sc_law_like.nd rfl (Or.inl rfl) (pe_cal (c_law_ring T) (hr.mono (by decide)) rfl pass0 (pa_cons (pv 0) (pa_cons (pe_op op_add (pv 1) pe_int) pa_nil))))) pss_nil)
      (pss_cons (ps_if (pt_cmpR op_eq (pv 9) pe_int (nomark _)) (pss_one (ps_set (i := 8) sc_law_like.nd rfl (Or.inl rfl) (pe_cal (c_law_ring T) (hr.mono (by decide)) rfl pass0 (pa_cons (pv 0) (pa_cons (pe_op op_add (pv 1) pe_int) pa_nil))))) pss_nil)
      (pss_cons (ps_if (pt_cmpR op_eq (pv 9) pe_int (nomark _)) (pss_one (ps_ret (pe_cal (c_law_row T) (hr.mono (by decide)) rfl pass0 (pa_cons (pv 0) (pa_cons (pe_op op_add (pv 1) pe_int) (pa_cons (pv 3) pa_nil)))))) pss_nil)
      (pss_cons (ps_if (pt_cmpR op_eq (pv 9) pe_int (nomark _)) (pss_one (ps_ret (pe_tup (pa_cons (pv 8) (pa_cons (pe_lst pa_nil) (pa_cons (pe_op op_add (pv 3) pe_int) (pa_cons (pv 8) pa_nil))))))) pss_nil)
      (pss_one (ps_ret (pe_tup (pa_cons (pv 5) (pa_cons (pv 6) (pa_cons (pv 7) (pa_cons (pv 8) pa_nil))))))))))))))), ?_⟩
  have e0 := env_start (T := tx K) 8 i
  have start : (L2.start n_law_like vs) = vs.map some ++ List.replicate 8 none := by unfold L2.start; rw [isA_len i]; rfl
  rw [start]
  have l0 : (vs.map some ++ List.replicate 8 none : L2.St).length = 12 := by simp [isA_len i]
  generalize (vs.map some ++ List.replicate 8 none : L2.St) = σ0 at e0 l0
  have e0 : Env (tx K) H σ0 [some (.scr ns), some (di a), some (dF F), some (di b), none, none, none, none, none, none, none, none] := e0
  -- the drawn cell
  refine raw_asgD (d := di (cellZ ns a)) (evd_call (evl_cons (evd_var rfl) (evl_cons (evd_var rfl) evl_nil)) (sd_D (ns, a) hns)) e0 fun v1 H1 s1 i1 => ?_
  obtain rfl := is_v.mp i1
  have c0 := cellZ_pos ns a
  have eA : Env (tx K) H (σ0.set 4 (some (.int (cellZ ns a)))) [some (.scr ns), some (di a), some (dF F), some (di b), some (di (cellZ ns a)), none, none, none, none, none, none, none] := e0.set (i := 4) (d := di (cellZ ns a)) (is_v.mpr rfl)
  obtain ⟨n1, n2, n3, n4, n5⟩ := near_ver hv
  have x1 := Int.emod_nonneg (cellZ ns a / 8) (show (6 : Int) ≠ 0 by decide)
  have x2 := Int.emod_lt_of_pos (cellZ ns a / 8) (show (0 : Int) < 6 by decide)
  have y1 := Int.emod_nonneg (cellZ ns a / 48) (show (6 : Int) ≠ 0 by decide)
  have y2 := Int.emod_lt_of_pos (cellZ ns a / 48) (show (0 : Int) < 6 by decide)
  have le := hv.le
  have nl := Nat.le_of_dvd (by decide) n2
  have nr := Nat.le_of_dvd (by decide) n3
  have nm : (nearF F b).m.length ≤ 4000 := by
    have e1 : (nearF F b).e = (nearF F b).f + ((nearF F b).m.length : Int) := rfl
    unfold loK at n4
    unfold hiK at n5
    omega
  refine raw_asg (raw_call (ds := [tF (nearA (false, false, false) F) (nearF F b), di (cellZ ns a / 8 % 6), di (cellZ ns a / 48 % 6)]) (evl_cons (evd_call (evl_cons (evd_var rfl) (evl_cons (evd_var rfl) evl_nil)) (sd_D ((false, false, false), F, b) ⟨hv.pl.ok, by show F.l.length ≤ 100; omega, by show F.r.length ≤ 100; omega⟩)) (evl_cons (evd_op (evd_op (evd_var rfl) evd_c (d2_I ⟨by decide, by decide⟩)) evd_c (d2_I (by decide))) (evl_cons (evd_op (evd_op (evd_var rfl) evd_c (d2_I ⟨by decide, by decide⟩)) evd_c (d2_I (by decide))) evl_nil))) (eA.mono s1) fun vs2 H2 s2 i2 => ?_)
  refine ⟨_, _, _, _, i2, n1, by omega, by omega, nm, x1, by omega, y1, by omega, fun p a0 b0 c0 H3 W => ?_⟩
  obtain ⟨ws, wp, wa, wb, wc, wn, w1, w2⟩ := W
  have sides := wid_side (F := nearF F b) (x := cellZ ns a / 8 % 6) (y := cellZ ns a / 48 % 6) n1 n2 n3 y1
  have gf : (widF (nearF F b) (cellZ ns a / 8 % 6) (cellZ ns a / 48 % 6)).f = (nearF F b).f - cellZ ns a / 8 % 6 := rfl
  have gm : ((widF (nearF F b) (cellZ ns a / 8 % 6) (cellZ ns a / 48 % 6)).m.length : Int) = (nearF F b).m.length + cellZ ns a / 48 % 6 + cellZ ns a / 8 % 6 := by
    show ((cells _ _ _).length : Int) = _
    rw [cells_len]; omega
  generalize widF (nearF F b) (cellZ ns a / 8 % 6) (cellZ ns a / 48 % 6) = G at wp wa wb wc sides gf gm
  have glo : loK b (k + 1) + 24 ≤ G.f := by
    unfold loK at n4 ⊢; omega
  have ghi : G.f + (G.m.length : Int) ≤ hiK b (k + 1) := by
    have e1 : (nearF F b).e = (nearF F b).f + ((nearF F b).m.length : Int) := rfl
    unfold hiK at n5 ⊢; omega
  refine ⟨p, _, rfl, SqT.of wp, rfl, _, _, rfl, _, _, rfl, _, _, rfl, _, _, rfl, rfl, ?_⟩
  have sH3 : Same H H3 := (s1.trans s2).trans ws
  have hbn : H b0 = none := none_of (s1.trans s2) wn
  -- the way
  have eB : Env (tx K) H (((((σ0.set 4 (some (.int (cellZ ns a)))).set 5 (some (.ref a0))).set 6 (some (.ref b0))).set 7 (some (.int G.f))).set 8 (some (.ref c0))) [some (.scr ns), some (di a), some (dF F), some (di b), some (di (cellZ ns a)), none, none, some (di G.f), none, none, none, none] :=
    Env.unset (i := 8) (Env.set (i := 7) (d := di G.f) (Env.unset (i := 6) (Env.unset (i := 5) eA)) (is_v.mpr rfl))
  refine raw_asgD (d := di (cellZ ns a % 8)) (evd_op (evd_var rfl) evd_c (d2_I (by decide))) (eB.mono sH3) fun v4 H4 s4 i4 => ?_
  obtain rfl := is_v.mp i4
  have eC : Env (tx K) H ((((((σ0.set 4 (some (.int (cellZ ns a)))).set 5 (some (.ref a0))).set 6 (some (.ref b0))).set 7 (some (.int G.f))).set 8 (some (.ref c0))).set 9 (some (.int (cellZ ns a % 8)))) [some (.scr ns), some (di a), some (dF F), some (di b), some (di (cellZ ns a)), none, none, some (di G.f), none, some (di (cellZ ns a % 8)), none, none] := eB.set (i := 9) (d := di (cellZ ns a % 8)) (is_v.mpr rfl)
  have h5 : ((((((σ0.set 4 (some (.int (cellZ ns a)))).set 5 (some (.ref a0))).set 6 (some (.ref b0))).set 7 (some (.int G.f))).set 8 (some (.ref c0))).set 9 (some (.int (cellZ ns a % 8))))[5]? = some (some (.ref a0)) := by
    rw [List.getElem?_set_ne (by decide), List.getElem?_set_ne (by decide), List.getElem?_set_ne (by decide), List.getElem?_set_ne (by decide), List.getElem?_set_self (by simp [l0])]
  have h6 : ((((((σ0.set 4 (some (.int (cellZ ns a)))).set 5 (some (.ref a0))).set 6 (some (.ref b0))).set 7 (some (.int G.f))).set 8 (some (.ref c0))).set 9 (some (.int (cellZ ns a % 8))))[6]? = some (some (.ref b0)) := by
    rw [List.getElem?_set_ne (by decide), List.getElem?_set_ne (by decide), List.getElem?_set_ne (by decide), List.getElem?_set_self (by simp [l0])]
  have h8 : ((((((σ0.set 4 (some (.int (cellZ ns a)))).set 5 (some (.ref a0))).set 6 (some (.ref b0))).set 7 (some (.int G.f))).set 8 (some (.ref c0))).set 9 (some (.int (cellZ ns a % 8))))[8]? = some (some (.ref c0)) := by
    rw [List.getElem?_set_ne (by decide), List.getElem?_set_self (by simp [l0])]
  generalize ((((((σ0.set 4 (some (.int (cellZ ns a)))).set 5 (some (.ref a0))).set 6 (some (.ref b0))).set 7 (some (.int G.f))).set 8 (some (.ref c0))).set 9 (some (.int (cellZ ns a % 8))) : L2.St) = σs at eC h5 h6 h8
  generalize hw : cellZ ns a % 8 = way at eC
  have w0 : 0 ≤ way := by rw [← hw]; exact Int.emod_nonneg _ (by decide)
  have w8 : way < 8 := by rw [← hw]; exact Int.emod_lt_of_pos _ (by decide)
  generalize hcell : cellZ ns a = cell at eC c0
  -- slots at any time
  have mk : ∀ m σ' H', Lk H σs G.l G.r a0 b0 c0 m σ' H' → Env (tx K) H' σ' [some (.scr ns), some (di a), some (dF F), some (di b), some (di cell), some (.lst (dcs G.l)), some (.lst (dcs m)), some (di G.f), some (.lst (dcs G.r)), some (di way), none, none] := fun m σ' H' L => by
    have z := env_agree (i := 10) (j := 11) eC L.sm L.len L.ag
    have z1 := env_add (i := 5) (d := .lst (dcs G.l)) z (by rw [L.ag 5 (by decide) (by decide)]; exact h5) (is_lst.mpr ⟨a0, _, rfl, L.ha, isA_vs.mpr rfl⟩)
    have z2 := env_add (i := 6) (d := .lst (dcs m)) z1 (by rw [L.ag 6 (by decide) (by decide)]; exact h6) (is_lst.mpr ⟨b0, _, rfl, L.hb, isA_vs.mpr rfl⟩)
    exact env_add (i := 8) (d := .lst (dcs G.r)) z2 (by rw [L.ag 8 (by decide) (by decide)]; exact h8) (is_lst.mpr ⟨c0, _, rfl, L.hc, isA_vs.mpr rfl⟩)
  have L0 : Lk H σs G.l G.r a0 b0 c0 G.m σs H4 := ⟨sH3.trans s4, s4 _ _ wa, s4 _ _ wb, s4 _ _ wc, rfl, fun _ _ _ => rfl⟩
  -- the rest, whatever the middle
  have sr := ring_side ns (a + 10)
  have fin : ∀ m σ' H' (tr : TS), m.length = G.m.length → Lk H σs G.l G.r a0 b0 c0 m σ' H' → Run (tx K) tr [some (.scr ns), some (di a), some (dF F), some (di b), some (di cell), some (.lst (dcs G.l)), some (.lst (dcs m)), some (di G.f), some (.lst (dcs G.r)), some (di way), none, none] (fun _ => False) (fun d => ∃ G, d = dL G ∧ okForm b (k + 1) G) → tr { nx := fun _ H' => Q .non H', rt := Q } σ' H' := fun m σ' H' tr hm L h => by
    refine h _ σ' H' (mk m σ' H' L) (fun _ _ _ z => z.elim) (fun d v H'' hd s iv => ?_)
    obtain ⟨G', rfl, ok⟩ := hd
    exact q G' v H'' ok (L.sm.trans s) iv
  have mid : ∀ m σ' H' (tr : TS), m.length = G.m.length → Lk H σs G.l G.r a0 b0 c0 m σ' H' → (∀ m', m'.length = G.m.length → Run (tx K) tr [some (.scr ns), some (di a), some (dF F), some (di b), some (di cell), some (.lst (dcs G.l)), some (.lst (dcs m')), some (di G.f), some (.lst (dcs G.r)), some (di way), none, none] (fun _ => False) (fun d => ∃ G, d = dL G ∧ okForm b (k + 1) G)) → tr { nx := fun _ H' => Q .non H', rt := Q } σ' H' := fun m σ' H' tr hm L h => fin m σ' H' tr hm L (h m hm)
  have test : EvB (tx K) (tAnd (tTest (tOp (rI0 fun i j => .bl (decide (i < j))) (tVar 9) (tC (.int 3)))) (tTest (tOp (rNeD K) (tVar 6) (tLst tNil)))) [some (.scr ns), some (di a), some (dF F), some (di b), some (di cell), some (.lst (dcs G.l)), some (.lst (dcs G.m)), some (di G.f), some (.lst (dcs G.r)), some (di way), none, none] (decide (way < 3) && !decide (G.m = [])) :=
    evb_and (evb_test (evd_op (evd_var rfl) evd_c d2_I0)) fun h => evb_test (evd_op (evd_var rfl) (evd_lst evl_nil (Nat.le_of_ble_eq_true rfl)) (d2_neLs (ys := [])))
  have rest : ∀ m', m'.length = G.m.length → Run (tx K) (likeT K) [some (.scr ns), some (di a), some (dF F), some (di b), some (di cell), some (.lst (dcs G.l)), some (.lst (dcs m')), some (di G.f), some (.lst (dcs G.r)), some (di way), none, none] (fun _ => False) (fun d => ∃ G, d = dL G ∧ okForm b (k + 1) G) := fun m' hm' => by
    refine run_seq (run_mono (Nx := fun S => ∃ l', Side l' ∧ S = [some (.scr ns), some (di a), some (dF F), some (di b), some (di cell), some (.lst (dcs l')), some (.lst (dcs m')), some (di G.f), some (.lst (dcs G.r)), some (di way), none, none]) (Rt := fun _ => False) (run_if (evb_test (evd_op (evd_var rfl) (evd_c (x := .int 3)) d2_eqI)) (fun hb => run_asg (i := 5) (evd_call (sp := spRing K) (E := E0) (evl_cons (evd_var (k := 0) rfl) (evl_cons (evd_op (evd_var (k := 1) rfl) (evd_c (x := .int 10)) (d2_I0 (g := fun i j => .int (i + j)))) evl_nil)) (sd_D (ns, a + 10) hns)) ⟨_, sr, rfl⟩) (fun hb => run_next ⟨_, sides.1, rfl⟩)) (fun S' hS => ?_) (fun _ z => z.elim))
    obtain ⟨l', sl', rfl⟩ := hS
    refine run_seq (run_mono (Nx := fun S => ∃ r', Side r' ∧ S = [some (.scr ns), some (di a), some (dF F), some (di b), some (di cell), some (.lst (dcs l')), some (.lst (dcs m')), some (di G.f), some (.lst (dcs r')), some (di way), none, none]) (Rt := fun _ => False) (run_if (evb_test (evd_op (evd_var rfl) (evd_c (x := .int 4)) d2_eqI)) (fun hb => run_asg (i := 8) (evd_call (sp := spRing K) (E := E0) (evl_cons (evd_var (k := 0) rfl) (evl_cons (evd_op (evd_var (k := 1) rfl) (evd_c (x := .int 10)) (d2_I0 (g := fun i j => .int (i + j)))) evl_nil)) (sd_D (ns, a + 10) hns)) ⟨_, sr, rfl⟩) (fun hb => run_next ⟨_, sides.2, rfl⟩)) (fun S' hS => ?_) (fun _ z => z.elim))
    obtain ⟨r', sr', rfl⟩ := hS
    refine run_seq (run_if (evb_test (evd_op (evd_var rfl) (evd_c (x := .int 5)) d2_eqI)) (fun hb => run_ret (evd_call (sp := spRowZ K) (E := E0) (evl_cons (evd_var (k := 0) rfl) (evl_cons (evd_op (evd_var (k := 1) rfl) (evd_c (x := .int 10)) (d2_I0 (g := fun i j => .int (i + j)))) (evl_cons (evd_var (k := 3) rfl) evl_nil))) (sd_D (ns, a + 10, b) hns)) ⟨_, rfl, row_form ns (a + 10) b (by omega)⟩) (fun hb => run_next ?_))
    refine run_seq (run_if (evb_test (evd_op (evd_var rfl) (evd_c (x := .int 6)) d2_eqI)) (fun hb => run_ret (evd_tup (evl_cons (evd_var (k := 8) rfl) (evl_cons (evd_lst evl_nil (Nat.le_of_ble_eq_true rfl)) (evl_cons (evd_op (evd_var (k := 3) rfl) (evd_c (x := .int 7)) (d2_I0 (g := fun i j => .int (i + j)))) (evl_cons (evd_var (k := 8) rfl) evl_nil)))) (Nat.le_of_ble_eq_true rfl)) ⟨⟨r', [], b + 7, r'⟩, rfl, sr', sr', by show loK b (k + 1) + 24 ≤ b + 7; unfold loK; omega, by show b + 7 + (([] : List C).length : Int) ≤ hiK b (k + 1); unfold hiK; simp; omega⟩) (fun hb => run_next ?_))
    refine run_ret (evd_tup (evl_cons (evd_var (k := 5) rfl) (evl_cons (evd_var (k := 6) rfl) (evl_cons (evd_var (k := 7) rfl) (evl_cons (evd_var (k := 8) rfl) evl_nil)))) (Nat.le_of_ble_eq_true rfl)) ⟨⟨l', m', G.f, r'⟩, rfl, sl', sr', glo, ?_⟩
    show G.f + (m'.length : Int) ≤ _
    rw [hm']; exact ghi
  refine raw_if test (mk _ _ _ L0) (fun hb H5 s5 => ?_) (fun hb H5 s5 => ?_)
  · -- cells put
    have L1 : Lk H σs G.l G.r a0 b0 c0 G.m σs H5 := ⟨L0.sm.trans s5, s5 _ _ L0.ha, s5 _ _ L0.hb, s5 _ _ L0.hc, rfl, fun _ _ _ => rfl⟩
    have hm0 : 0 < G.m.length := by
      rw [Bool.and_eq_true] at hb
      have h2 := hb.2
      rw [Bool.not_eq_true', decide_eq_false_iff_not] at h2
      exact List.length_pos_iff.mpr h2
    refine raw_for1 (hi := 1 + way) (evl_cons (evd_op evd_c (evd_var rfl) d2_I0) evl_nil) (mk _ _ _ L1) (fun j σ' H' => ∃ m, m.length = G.m.length ∧ Lk H σs G.l G.r a0 b0 c0 m σ' H') (fun H6 s6 => ⟨G.m, rfl, L1.sm.trans s6, s6 _ _ L1.ha, s6 _ _ L1.hb, s6 _ _ L1.hc, rfl, fun _ _ _ => rfl⟩) (fun j σ' H' hj Pj => ?_) (fun σ' H' Pj => ?_)
    · obtain ⟨m, hm, L⟩ := Pj
      have eD := (mk m σ' H' L).set (i := 10) (d := di (0 + (j : Int))) (v := .int (0 + (j : Int))) (is_v.mpr rfl)
      refine raw_asgD (d := di (cellZ ns (a + 1 + (0 + (j : Int))))) (evd_call (evl_cons (evd_var rfl) (evl_cons (evd_op (evd_op (evd_var rfl) evd_c d2_I0) (evd_var rfl) d2_I0) evl_nil)) (sd_D (ns, a + 1 + (0 + (j : Int))) hns)) eD fun v7 H7 s7 i7 => ?_
      obtain rfl := is_v.mp i7
      generalize cellZ ns (a + 1 + (0 + (j : Int))) = mo
      have eE := (eD.mono s7).set (i := 11) (d := di mo) (v := .int mo) (is_v.mpr rfl)
      have hv8 : EvD (tx K) (tCall (spValue K) [] E0 (tCons (tOp (rI CDiv fun i j => .int (i / j)) (tVar 11) (tC (.int 16))) tNil)) _ (dc (valC (mo / 16))) := evd_call (S := [some (.scr ns), some (di a), some (dF F), some (di b), some (di cell), some (.lst (dcs G.l)), some (.lst (dcs m)), some (di G.f), some (.lst (dcs G.r)), some (di way), some (di (0 + (j : Int))), some (di mo)]) (evl_cons (evd_op (evd_var rfl) evd_c (d2_I ⟨by decide, by decide⟩)) evl_nil) (sd_D (mo / 16) trivial)
      unfold tAsg gSub
      refine hv8 _ H7 eE _ fun v8 H8 s8 i8 => ?_
      obtain rfl := is_v.mp i8
      have h6' : ((σ'.set 10 (some (.int (0 + (j : Int))))).set 11 (some (.int mo)))[6]? = some (some (.ref b0)) := by
        rw [List.getElem?_set_ne (by decide), List.getElem?_set_ne (by decide), L.ag 6 (by decide) (by decide)]; exact h6
      refine ⟨_, h6', ?_⟩
      have hm1 := Int.emod_nonneg mo (show (m.length : Int) ≠ 0 by omega)
      have hm2 := Int.emod_lt_of_pos mo (show (0 : Int) < m.length by omega)
      have hix : EvD (tx K) (tOp (rI (fun _ j => 0 < j) fun i j => .int (i % j)) (tVar 11) (tCB (rLenS K) (tCons (tVar 6) tNil))) [some (.scr ns), some (di a), some (dF F), some (di b), some (di cell), some (.lst (dcs G.l)), some (.lst (dcs m)), some (di G.f), some (.lst (dcs G.r)), some (di way), some (di (0 + (j : Int))), some (di mo)] (di (mo % (m.length : Int))) := evd_op (evd_var rfl) (evd_is (evd_cb (evl_cons (evd_var rfl) evl_nil) dc_lenL) (by rw [dcs_len])) (d2_I (by omega))
      refine hix _ H8 (eE.mono s8) _ fun v9 H9 s9 i9 => ?_
      obtain rfl := is_v.mp i9
      have hb9 := s9 _ _ (s8 _ _ (s7 _ _ L.hb))
      refine ⟨b0, _, _, (mo % (m.length : Int)).toNat, rfl, rfl, hb9, ?_, m.set (mo % (m.length : Int)).toNat (valC (mo / 16)), by rw [List.length_set]; exact hm, ?_⟩
      · unfold ixN
        rw [List.length_map, if_pos (by omega)]
        rw [if_pos (by omega)]
      · rw [map_set_cv]
        have ne1 : a0 ≠ b0 := fun z => w1 z.symm
        have ne2 : c0 ≠ b0 := fun z => w2 z.symm
        refine ⟨fun x o z => ?_, ?_, upd_same, ?_, ?_, fun x q1 q2 => ?_⟩
        · rw [upd_ne (ne_of_none z hbn)]; exact s9 _ _ (s8 _ _ (s7 _ _ (L.sm _ _ z)))
        · rw [upd_ne ne1]; exact s9 _ _ (s8 _ _ (s7 _ _ L.ha))
        · rw [upd_ne ne2]; exact s9 _ _ (s8 _ _ (s7 _ _ L.hc))
        · simp [L.len]
        · rw [List.getElem?_set_ne (fun z => q2 z.symm), List.getElem?_set_ne (fun z => q1 z.symm)]; exact L.ag x q1 q2
    · obtain ⟨m, hm, L⟩ := Pj
      exact mid m σ' H' _ hm L rest
  · have L1 : Lk H σs G.l G.r a0 b0 c0 G.m σs H5 := ⟨L0.sm.trans s5, s5 _ _ L0.ha, s5 _ _ L0.hb, s5 _ _ L0.hc, rfl, fun _ _ _ => rfl⟩
    exact mid G.m σs H5 _ rfl L1 rest
end
end Fx

/-! FwC5: _law_tried; patches between versions. -/
namespace Fx
open PySem PySem.Spec PyProof.Rows L2 Fw
/-! ### the plain law of a patch -/
theorem ptN_ruO {F G : Fm} (hF : Pl F) (hG : Pl G) : wv [ptM F G, G] ruM = wv [F, G] ruO := by
  have hp : ∀ A ∈ [F, G], Pl A := fun A hA => by simp at hA; rcases hA with rfl | rfl <;> assumption
  have h2 := (wv_plf hp ruU).2.1
  funext p
  have hM : (ptM F G).at p = ruU [F.at p, G.at p] := by
    show (plf (wv [F, G] ruU)).at p = _
    rw [h2]; rfl
  show ruM [(ptM F G).at p, G.at p] = ruO [F.at p, G.at p]
  rw [hM]
  unfold ruM ruO ruU
  simp only [List.getD_cons_zero, List.getD_cons_succ]
  by_cases h : F.at p = G.at p
  · rw [if_pos h, if_pos h, if_pos rfl]
  · rw [if_neg h, if_neg h, if_neg (by simp)]
theorem pt_back {F G : Fm} (hF : Pl F) (hG : Pl G) (hM : Pl (ptM F G)) : wv [F, ptM F G, ptN F G] ruC = G.at := by
  have hp : ∀ A ∈ [F, G], Pl A := fun A hA => by simp at hA; rcases hA with rfl | rfl <;> assumption
  have hp2 : ∀ A ∈ [ptM F G, G], Pl A := fun A hA => by simp at hA; rcases hA with rfl | rfl <;> assumption
  have h2 := (wv_plf hp ruU).2.1
  have h3 := (wv_plf hp2 ruM).2.1
  funext p
  have eM : (ptM F G).at p = ruU [F.at p, G.at p] := by
    show (plf (wv [F, G] ruU)).at p = _
    rw [h2]; rfl
  have eN : (ptN F G).at p = ruO [F.at p, G.at p] := by
    show (plf (wv [ptM F G, G] ruM)).at p = _
    rw [h3, ptN_ruO hF hG]; rfl
  show ruC [F.at p, (ptM F G).at p, (ptN F G).at p] = G.at p
  rw [eM, eN]
  unfold ruC ruO ruU
  simp only [List.getD_cons_zero, List.getD_cons_succ]
  by_cases h : F.at p = G.at p
  · rw [if_pos h, if_pos rfl, h]
  · rw [if_neg h, if_neg h, if_neg (by simp)]
/-! ### versions -/
structure VS (b : Int) (Vs : List Fm) (n : Nat) : Prop where
  ok : ∀ F ∈ Vs, okVer b 66 F
  n : n < Vs.length
  z : Vs.length ≤ 66
theorem ver_too {b : Int} {F G : Fm} (hF : okVer b 66 F) (hG : okVer b 66 G) : TooB [F, G] = false := by
  refine too_iff.mpr ⟨?_, ?_⟩
  · refine Nat.le_trans (Nat.le_of_dvd (by decide) (lcmL_dvd (N := 12) fun n hn => ?_)) (by decide)
    simp at hn
    rcases hn with rfl | rfl
    · exact hF.l12
    · exact hG.l12
  · refine Nat.le_trans (Nat.le_of_dvd (by decide) (lcmL_dvd (N := 12) fun n hn => ?_)) (by decide)
    simp at hn
    rcases hn with rfl | rfl
    · exact hF.r12
    · exact hG.r12
theorem win_w {lo hi : Int} {Fs : List Fm} (h : ∀ F ∈ Fs, Win lo hi F) (hw : hi - lo ≤ 4000) : hiF Fs - loF Fs ≤ 4000 := by
  have := (win_lo h).1
  omega
/-- one more wheel of it -/
theorem ver_wv {b lo hi : Int} {Fs : List Fm} {rule : List C → C} (h : ∀ F ∈ Fs, Pl F ∧ F.l.length ∣ 12 ∧ F.r.length ∣ 12 ∧ Win lo hi F) : Pl (plf (wv Fs rule)) ∧ (plf (wv Fs rule)).l.length ∣ 12 ∧ (plf (wv Fs rule)).r.length ∣ 12 ∧ Win (lo - 24) hi (plf (wv Fs rule)) := by
  have hp : ∀ F ∈ Fs, Pl F := fun F hF => (h F hF).1
  obtain ⟨h1, h2, h3, h4, h5, _⟩ := wv_plf hp rule
  have dL : lenL Fs ∣ 12 := lcmL_dvd fun n hn => by
    obtain ⟨F, hF, rfl⟩ := List.mem_map.mp hn
    exact (h F hF).2.1
  have dR : lenR Fs ∣ 12 := lcmL_dvd fun n hn => by
    obtain ⟨F, hF, rfl⟩ := List.mem_map.mp hn
    exact (h F hF).2.2.1
  have w := win_wv hp (fun F hF => (h F hF).2.2.2) rule
  have a1 := Nat.le_of_dvd (by decide) dL
  have a2 := Nat.le_of_dvd (by decide) dR
  refine ⟨h1, Nat.dvd_trans h3 dL, Nat.dvd_trans h4 dR, ?_⟩
  rcases w with z | ⟨z1, z2⟩
  · exact .inl z
  · exact .inr ⟨by omega, z2⟩
theorem win_mono {lo lo' hi hi' : Int} {F : Fm} (h : Win lo hi F) (h1 : lo' ≤ lo) (h2 : hi ≤ hi') : Win lo' hi' F := by
  rcases h with z | ⟨z1, z2⟩
  · exact .inl z
  · exact .inr ⟨by omega, by omega⟩
theorem win_row {lo hi : Int} {F : Fm} (h : Pl F ∧ F.l.length ∣ 12 ∧ F.r.length ∣ 12 ∧ Win lo hi F) (hw : hi - lo ≤ 4000) : okRow F := by
  obtain ⟨h1, h2, h3, h4⟩ := h
  have a1 := Nat.le_of_dvd (by decide) h2
  have a2 := Nat.le_of_dvd (by decide) h3
  have hm : F.m.length ≤ 4000 := by
    rcases h4 with z | ⟨z1, z2⟩
    · rw [z.1]; simp
    · unfold Fm.e at z2; omega
  exact ⟨h1, h1.ok.l0, by omega, hm, h1.ok.r0, by omega⟩
structure VPair (F G : Fm) : Prop where
  pair : okPair F G
  too : TooB [F, G] = false
  pat : okRow F ∧ okRow (ptM F G) ∧ okRow (ptN F G) ∧ hiF [F, ptM F G, ptN F G] - loF [F, ptM F G, ptN F G] ≤ 4000 ∧ TooB [F, ptM F G, ptN F G] = false
theorem ver_pair {b : Int} {F G : Fm} (hF : okVer b 66 F) (hG : okVer b 66 G) : VPair F G := by
  have a1 : Pl F ∧ F.l.length ∣ 12 ∧ F.r.length ∣ 12 ∧ Win (loK b 66) (hiK b 66) F := ⟨hF.pl, hF.l12, hF.r12, hF.win⟩
  have a2 : Pl G ∧ G.l.length ∣ 12 ∧ G.r.length ∣ 12 ∧ Win (loK b 66) (hiK b 66) G := ⟨hG.pl, hG.l12, hG.r12, hG.win⟩
  have ew : hiK b 66 - loK b 66 = 2350 := by unfold hiK loK; omega
  have b1 : Pl (ptM F G) ∧ (ptM F G).l.length ∣ 12 ∧ (ptM F G).r.length ∣ 12 ∧ Win (loK b 66 - 24) (hiK b 66) (ptM F G) := ver_wv (b := b) (rule := ruU) fun A hA => by
    simp at hA; rcases hA with rfl | rfl <;> assumption
  have up : ∀ {A : Fm} {d : Int}, 0 ≤ d → (Pl A ∧ A.l.length ∣ 12 ∧ A.r.length ∣ 12 ∧ Win (loK b 66) (hiK b 66) A) → (Pl A ∧ A.l.length ∣ 12 ∧ A.r.length ∣ 12 ∧ Win (loK b 66 - d) (hiK b 66) A) := fun hd h => ⟨h.1, h.2.1, h.2.2.1, win_mono h.2.2.2 (by omega) (by omega)⟩
  have b2 : Pl (ptN F G) ∧ (ptN F G).l.length ∣ 12 ∧ (ptN F G).r.length ∣ 12 ∧ Win (loK b 66 - 24 - 24) (hiK b 66) (ptN F G) := ver_wv (b := b) (rule := ruM) fun A hA => by
    simp at hA; rcases hA with rfl | rfl
    · exact b1
    · exact up (by decide) a2
  have tr : okRow F := hF.row (by decide)
  refine ⟨⟨tr, hG.row (by decide), ?_, fun _ => ?_⟩, ver_too hF hG, tr, win_row b1 (by omega), win_row b2 (by omega), ?_, ?_⟩
  · exact win_w (lo := loK b 66) (hi := hiK b 66) (fun A hA => by simp at hA; rcases hA with rfl | rfl; exact a1.2.2.2; exact a2.2.2.2) (by omega)
  · exact win_w (lo := loK b 66 - 24) (hi := hiK b 66) (fun A hA => by simp at hA; rcases hA with rfl | rfl; exact b1.2.2.2; exact (up (d := 24) (by decide) a2).2.2.2) (by omega)
  · refine win_w (lo := loK b 66 - 24 - 24) (hi := hiK b 66) (fun A hA => ?_) (by omega)
    simp at hA
    rcases hA with rfl | rfl | rfl
    · exact win_mono a1.2.2.2 (by omega) (by omega)
    · exact win_mono b1.2.2.2 (by omega) (by omega)
    · exact b2.2.2.2
  · refine too_iff.mpr ⟨?_, ?_⟩
    · refine Nat.le_trans (Nat.le_of_dvd (by decide) (lcmL_dvd (N := 12) fun n hn => ?_)) (by decide)
      simp at hn
      rcases hn with rfl | rfl | rfl
      · exact hF.l12
      · exact b1.2.1
      · exact b2.2.1
    · refine Nat.le_trans (Nat.le_of_dvd (by decide) (lcmL_dvd (N := 12) fun n hn => ?_)) (by decide)
      simp at hn
      rcases hn with rfl | rfl | rfl
      · exact hF.r12
      · exact b1.2.2.1
      · exact b2.2.2.1
section
variable {P : Program} {w : World} {K : PySem.W.Frag} {mg : Str → Option Value} {base : Heap} (T : Tt K mg)
noncomputable def patD (F G : Fm) : De := .tup [.row (ptM F G), .row (ptN F G)]
noncomputable def trD (Vs : List Fm) (n : Nat) (d e : De) : De :=
  match verO Vs n d, verO Vs n e with
  | some F, some G => if TooB [F, G] = true then .v (.str "many") else patD F G
  | _, _ => .v (.str "version")
noncomputable def spTried (K : PySem.W.Frag) : Sp := fun vs H Q _ => ∃ (p : Addr) (Vs : List Fm) (n : Nat) (d e : De), (∃ n, d.tyn = some n) ∧ n < Vs.length ∧
  ((IsA (tx K) H [.log p Vs n, di 0, d, e] vs ∧ (∃ n, e.tyn = some n) ∧ (∀ F G, verO Vs n d = some F → verO Vs n e = some G → okPair F G) ∧ ∀ v H', Same H H' → Is (tx K) H' (trD Vs n d e) v → Q v H') ∨
   (IsA (tx K) H [.log p Vs n, di 1, d, e] vs ∧ (∀ F ∈ Vs, F.Ok) ∧ Vs.length ≤ 1000 ∧ (∀ z, d = di z → ∀ q H', H q = none → Same H H' → Is (tx K) H' (.lst ((whO Vs z).map di)) (.ref q) → Q (.ref q) H') ∧ (d.place = false → ∀ v H', Same H H' → Is (tx K) H' (.v (.str "place")) v → Q v H')))
theorem kind_many {K : PySem.W.Frag} : xkA K .many = XT K := rfl
include T
theorem c_law_tried : Cal P w K mg base CX0 12 "_law_tried" (spTried K) := by
  obtain ⟨fd, F⟩ := fd_law_tried T
  refine ⟨⟨fd, ["_law_log", "_law_way", "_law_one", "_law_other"], fn0 F sc_law_tried (fun vs H Q E h => by obtain ⟨p, Vs, n, d, e, _, _, ⟨i, _⟩ | ⟨i, _⟩⟩ := h <;> (rw [isA_len i]; rfl)) (fun cdv A outer s H vs Q E hr h => ?_), gl_law_tried T, F.kp, F.bindsN (fun _ _ _ _ _ _ us hl => match us, hl with | [_, _, _, _], _ => rfl)⟩⟩
  obtain ⟨f1, fd1, ps1, F1, M1, B1⟩ := (m_between (P := P) (w := w) (base := base) T).ex
  obtain ⟨f2, fd2, ps2, F2, M2, B2⟩ := (m_when (P := P) (w := w) (base := base) T).ex
  refine ⟨_, pss_cons (ps_set (i := 4) sc_law_tried.nd rfl (Or.inl rfl) pe_non)
    (pss_cons (ps_set (i := 5) sc_law_tried.nd rfl (Or.inl rfl) pe_non)
    (pss_cons (ps_try_asT (n := "e") (i := 6) (c := .ref (He.ga K "FarError")) (tb := fun W => tAsg (tIf (tTest (tOp rEq (tVar 1) (tC (.int 0)))) (tMethW (logA K) "between" (spBetween K) [] (WE W) (tVar 0) (tCons (tVar 2) (tCons (tVar 3) tNil))) (tMethW (logA K) "when" (spWhen K) [] (WE W) (tVar 0) (tCons (tVar 2) tNil))) (gName 4)) (ts := tAsg (tVar 6) (gName 5)) rfl rfl rfl sc_law_tried.nd rfl rfl ⟨rfl, by decide, .inl (gl_FarError T)⟩
      (fun W pn xe tk po => pss_one (ps_set (i := 4) sc_law_tried.nd rfl (Or.inl rfl) (pe_ifExp (pt_cmpR op_eq (pv 1) pe_int (nomark _)) (pe_methW (pv 0) (cl_Log T) M1 F1 (hr.mono (by decide)) B1 .nil (fun σ => passAt tk σ) (pa_cons (pv 2) (pa_cons (pv 3) pa_nil))) (pe_methW (pv 0) (cl_Log T) M2 F2 (hr.mono (by decide)) B2 .nil (fun σ => passAt tk σ) (pa_cons (pv 2) pa_nil)))))
      (fun a pn => pss_one (ps_set (i := 5) sc_law_tried.nd rfl (Or.inl rfl) (pv 6))))
    (pss_one (ps_ret (pe_ifExp (pt_cmpR op_isNo (pv 5) pe_non (nomark _)) (pv 4) (pe_cal (c_law_kind T) (hr.mono (by decide)) rfl pass0 (pa_cons (pv 5) pa_nil))))))), ?_⟩
  have rest : ∀ (S : Sl) (d4 : De), S[4]? = some (some d4) → S[5]? = some (some (.v .non)) → ∀ σ H (Q : VK), Env (tx K) H σ S → (∀ v H', Same H H' → Is (tx K) H' d4 v → Q v H') → (tRet (tIf (tTest (tOp rIsNo (tVar 5) (tC .non))) (tVar 4) (tCall (spKind K) [] E0 (tCons (tVar 5) tNil)))) { nx := fun _ H' => Q .non H', rt := Q } σ H := fun S d4 h4 h5 σ H Q e q => by
    exact (run_ret (T := tx K) (Nx := fun _ => False) (Rt := fun d => d = d4) (evd_if (k := true) (evb_is (evb_test (evd_op (evd_var h5) evd_c d2_isNo)) rfl) (fun _ => evd_var h4) (fun h => by cases h)) rfl) _ σ H e (fun _ _ _ z => z.elim) (fun d v H' hd s i => q v H' s (by rw [← hd]; exact i))
  have restX : ∀ (S : Sl) (x : XK3), S[5]? = some (some (.exc (xkA K x))) → ∀ σ H (Q : VK), Env (tx K) H σ S → (∀ v H', Same H H' → Is (tx K) H' (.v (.str (xkS x))) v → Q v H') → (tRet (tIf (tTest (tOp rIsNo (tVar 5) (tC .non))) (tVar 4) (tCall (spKind K) [] E0 (tCons (tVar 5) tNil)))) { nx := fun _ H' => Q .non H', rt := Q } σ H := fun S x h5 σ H Q e q => by
    exact (run_ret (T := tx K) (Nx := fun _ => False) (Rt := fun d => d = .v (.str (xkS x))) (evd_if (k := false) (evb_test (evd_op (evd_var h5) evd_c (d2_isNoR rfl))) (fun h => by cases h) (fun _ => evd_call (evl_cons (evd_var h5) evl_nil) (sd_D x trivial))) rfl) _ σ H e (fun _ _ _ z => z.elim) (fun d v H' hd s i => q v H' s (by rw [← hd]; exact i))
  have xm : ∀ x : XK3, PySem.W.exmOne K (.ref (xkA K x)) (.ref (He.ga K "FarError")) = some true := fun x => by
    cases x with
    | many => exact xm_TooMany T
    | version => exact xm_NoVersion T
    | place => exact xm_NoPlace T
  -- an exception
  have caught : ∀ (S : Sl) (x : XK3) (σ : L2.St) (H0 H' : Hp), S.length = 7 → Env (tx K) H0 σ S → Same H0 H' → (∀ v H2, Same H0 H2 → Is (tx K) H2 (.v (.str (xkS x))) v → Q v H2) →
      WE (wAsT K (.ref (He.ga K "FarError")) 6 (tAsg (tVar 6) (gName 5)) { nx := fun σ H => tRet (tIf (tTest (tOp rIsNo (tVar 5) (tC .non))) (tVar 4) (tCall (spKind K) [] E0 (tCons (tVar 5) tNil))) { nx := fun _ H' => Q .non H', rt := Q } σ H, rt := Q }) σ (.ref (xkA K x)) none H' := fun S x σ H0 H' hS e0 s0 q => by
    refine ⟨xkA K x, rfl, rfl, xm x, fun a ha => ?_⟩
    have s1 : Same H' (upd H' a (.ext (ExcAt a (xkA K x)))) := same_new ha
    have e1 := (e0.mono (s0.trans s1)).set (i := 6) (d := .exc (xkA K x)) (v := .ref a) (is_exc.mpr ⟨a, rfl, upd_same⟩)
    have h6 : (σ.set 6 (some (.ref a)))[6]? = some (some (.ref a)) := List.getElem?_set_self (by rw [e0.1, hS]; decide)
    refine ⟨.ref a, h6, ?_⟩
    have e2 := e1.set (i := 5) (d := .exc (xkA K x)) (v := .ref a) (is_exc.mpr ⟨a, rfl, upd_same⟩)
    have e3 := Env.unset (i := 6) (o := none) e2
    refine restX _ x ?_ _ _ Q e3 (fun v H2 s i => q v H2 ((s0.trans s1).trans s) i)
    rw [List.getElem?_set_ne (by decide), List.getElem?_set_self (by simp [hS])]
  obtain ⟨p, Vs, n, d, e, hd, hn, hh⟩ := h
  rcases hh with ⟨i, he, hpair, q⟩ | ⟨i, hok, hz, q1, q2⟩
  · have e0 := env_start (T := tx K) 3 i
    have start : (L2.start n_law_tried vs) = vs.map some ++ List.replicate 3 none := by unfold L2.start; rw [isA_len i]; rfl
    rw [start]
    refine raw_asgD (d := .v .non) evd_c e0 fun v1 H1 s1 i1 => raw_asgD (d := .v .non) evd_c ((e0.mono s1).set i1) fun v2 H2 s2 i2 => ?_
    have e2 : Env (tx K) H2 _ [some (.log p Vs n), some (di 0), some d, some e, some (.v .non), some (.v .non), none] := (((e0.mono s1).set (i := 4) i1).mono s2).set (i := 5) i2
    refine (evb_is (evb_test (evd_op (S := [some (.log p Vs n), some (di 0), some d, some e, some (.v .non), some (.v .non), none]) (evd_var rfl) (evd_c (x := .int 0)) d2_eqI)) (decide_eq_true rfl)) _ H2 e2 _ fun H3 s3 => ?_
    rw [if_pos rfl]
    have e3 := e2.mono s3
    obtain ⟨v0, g0, g0'⟩ := e3.2 0 _ rfl
    obtain ⟨rfl, dx, a, ws, g1, g2, g3⟩ := is_log.mp g0'
    refine ⟨_, g0, p, dx, _, rfl, g1, rfl, ?_⟩
    refine (evl_cons (evd_var rfl) (evl_cons (evd_var rfl) evl_nil) : EvL (tx K) _ [some (.log p Vs n), some (di 0), some d, some e, some (.v .non), some (.v .non), none] [d, e]) _ H3 e3 _ fun us H4 s4 i4 => ?_
    rw [List.append_nil]
    refine ⟨p, Vs, n, d, e, isA_cons.mpr ⟨_, _, rfl, is_log.mpr ⟨rfl, logAt_mono s4 ⟨dx, a, ws, g1, g2, g3⟩⟩, i4⟩, hn, hd, he, hpair, fun o ho v H5 s5 i5 => ?_, fun C hC H5 s5 => ?_⟩
    · refine rest _ o ?_ ?_ _ H5 Q ((e3.mono (s4.trans s5)).set (i := 4) i5) (fun v' H6 s6 i6 => q v' H6 (((((s1.trans s2).trans s3).trans s4).trans s5).trans s6) ?_)
      · rfl
      · rfl
      · have : trD Vs n d e = o := by
          unfold btO at ho
          unfold trD
          revert ho
          cases verO Vs n d with
          | none => intro ho; cases ho
          | some F =>
            cases verO Vs n e with
            | none => intro ho; cases ho
            | some G =>
              intro ho
              by_cases hT : TooB [F, G] = true
              · simp only [if_pos hT] at ho; cases ho
              · simp only [if_neg hT] at ho ⊢; cases ho; rfl
        rw [this]; exact i6
    · have hx : ∃ x : XK3, C = xkA K x ∧ trD Vs n d e = .v (.str (xkS x)) := by
        unfold btO at hC
        unfold trD
        revert hC
        cases verO Vs n d with
        | none => intro hC; cases hC; exact ⟨.version, rfl, rfl⟩
        | some F =>
          cases verO Vs n e with
          | none => intro hC; cases hC; exact ⟨.version, rfl, rfl⟩
          | some G =>
            intro hC
            by_cases hT : TooB [F, G] = true
            · simp only [if_pos hT] at hC ⊢; cases hC; exact ⟨.many, rfl, rfl⟩
            · simp only [if_neg hT] at hC; cases hC
      obtain ⟨x, rfl, ht⟩ := hx
      exact caught _ x _ H3 H5 rfl e3 (s4.trans s5) (fun v H6 s6 i6 => q v H6 (((s1.trans s2).trans s3).trans s6) (by rw [ht]; exact i6))
  · have e0 := env_start (T := tx K) 3 i
    have start : (L2.start n_law_tried vs) = vs.map some ++ List.replicate 3 none := by unfold L2.start; rw [isA_len i]; rfl
    rw [start]
    refine raw_asgD (d := .v .non) evd_c e0 fun v1 H1 s1 i1 => raw_asgD (d := .v .non) evd_c ((e0.mono s1).set i1) fun v2 H2 s2 i2 => ?_
    have e2 : Env (tx K) H2 _ [some (.log p Vs n), some (di 1), some d, some e, some (.v .non), some (.v .non), none] := (((e0.mono s1).set (i := 4) i1).mono s2).set (i := 5) i2
    refine (evb_is (evb_test (evd_op (S := [some (.log p Vs n), some (di 1), some d, some e, some (.v .non), some (.v .non), none]) (evd_var rfl) (evd_c (x := .int 0)) d2_eqI)) (decide_eq_false (by decide))) _ H2 e2 _ fun H3 s3 => ?_
    rw [if_neg Bool.false_ne_true]
    have e3 := e2.mono s3
    obtain ⟨v0, g0, g0'⟩ := e3.2 0 _ rfl
    obtain ⟨rfl, dx, a, ws, g1, g2, g3⟩ := is_log.mp g0'
    refine ⟨_, g0, p, dx, _, rfl, g1, rfl, ?_⟩
    refine (evl_cons (evd_var rfl) evl_nil : EvL (tx K) _ [some (.log p Vs n), some (di 1), some d, some e, some (.v .non), some (.v .non), none] [d]) _ H3 e3 _ fun us H4 s4 i4 => ?_
    rw [List.append_nil]
    have sA := ((s1.trans s2).trans s3).trans s4
    refine ⟨p, Vs, n, d, isA_cons.mpr ⟨_, _, rfl, is_log.mpr ⟨rfl, logAt_mono s4 ⟨dx, a, ws, g1, g2, g3⟩⟩, i4⟩, hd, hok, by omega, hz, fun z hzz q0 H5 hq s5 i5 => ?_, fun hp H5 s5 => ?_⟩
    · have e5 := (e3.mono (s4.trans s5)).set (i := 4) i5
      obtain ⟨w5, k5, k6⟩ := e5.2 4 _ (by rfl)
      have hv : w5 = .ref q0 := by
        rw [List.getElem?_set_self (by rw [e3.1]; exact Nat.le_of_ble_eq_true rfl)] at k5
        cases k5; rfl
      -- the answer is the very list
      refine (evb_is (evb_test (evd_op (evd_var (T := tx K) (k := 5) rfl) (evd_c (x := .non)) d2_isNo)) (decide_eq_true rfl)) _ H5 e5 _ fun H6 s6 => ?_
      rw [if_pos rfl]
      refine ⟨w5, k5, ?_⟩
      rw [hv]
      exact q1 z hzz q0 H6 (none_of sA hq) ((sA.trans s5).trans s6) (by rw [← hv]; exact k6.mono s6)
    · exact caught _ .place _ H3 H5 rfl e3 (s4.trans s5) (fun v H6 s6 i6 => q2 hp v H6 (((s1.trans s2).trans s3).trans s6) i6)
end
end Fx

/-! FwC6: the log asked for patches and changes. -/
namespace Fx
open PySem PySem.Spec PyProof.Rows L2 Fw
theorem raw_drop {te : TE} {tu : TS} {D : Ends} {σ : L2.St} {H : Hp} (h : te σ H fun _ H1 => tu D σ H1) : tSeq (tDrop te) tu D σ H := h
theorem evb_nt {T : Tx} {S : Sl} {te : TE} (h : EvD T te S (db true)) : EvB T (tNot (tTest te)) S false := evb_is (evb_not (evb_test h)) rfl
section
variable {P : Program} {w : World} {K : PySem.W.Frag} {mg : Str → Option Value} {base : Heap} (T : Tt K mg)
abbrev dVs (Vs : List Fm) : De := .lst (Vs.map dF)
theorem dVs_get {Vs : List Fm} {k : Nat} {F : Fm} (h : Vs[k]? = some F) : (Vs.map dF)[k]? = some (dF F) := by rw [List.getElem?_map, h]; rfl
theorem trD_pat {Vs : List Fm} {n : Nat} {d e : De} {F G : Fm} (h1 : verO Vs n d = some F) (h2 : verO Vs n e = some G) (h : TooB [F, G] = false) : trD Vs n d e = patD F G := by
  unfold trD
  rw [h1, h2]
  show (if TooB [F, G] = true then _ else _) = _
  rw [if_neg (by rw [h]; exact Bool.false_ne_true)]
theorem trD_many {Vs : List Fm} {n : Nat} {d e : De} {F G : Fm} (h1 : verO Vs n d = some F) (h2 : verO Vs n e = some G) (h : TooB [F, G] = true) : trD Vs n d e = .v (.str "many") := by
  unfold trD
  rw [h1, h2]
  show (if TooB [F, G] = true then _ else _) = _
  rw [if_pos h]
theorem trD_bad {Vs : List Fm} {n : Nat} {d e : De} (h : verO Vs n d = none ∨ verO Vs n e = none) : trD Vs n d e = .v (.str "version") := by
  unfold trD
  rcases h with h | h
  · rw [h]
  · rw [h]
    cases verO Vs n d <;> rfl
theorem sdBetween {p : Addr} {Vs : List Fm} {n : Nat} {d e : De} {E : XK} (hn : n < Vs.length) (hd : ∃ n, d.tyn = some n) (he : ∃ n, e.tyn = some n) (hp : ∀ F G, verO Vs n d = some F → verO Vs n e = some G → okPair F G) : SD (tx K) (spTried K) [.log p Vs n, di 0, d, e] (trD Vs n d e) E := fun H vs i Q q =>
  ⟨p, Vs, n, d, e, hd, hn, .inl ⟨i, he, hp, q⟩⟩
theorem sdPat {p : Addr} {Vs : List Fm} {n : Nat} {d e : De} {F G : Fm} {E : XK} (hn : n < Vs.length) (hd : ∃ n, d.tyn = some n) (he : ∃ n, e.tyn = some n) (h1 : verO Vs n d = some F) (h2 : verO Vs n e = some G) (hp : okPair F G) (ht : TooB [F, G] = false) : SD (tx K) (spTried K) [.log p Vs n, di 0, d, e] (patD F G) E := by
  rw [← trD_pat h1 h2 ht]
  exact sdBetween hn hd he fun F' G' a b => by rw [h1] at a; rw [h2] at b; cases a; cases b; exact hp
theorem sdBad {p : Addr} {Vs : List Fm} {n : Nat} {d e : De} {E : XK} (hn : n < Vs.length) (hd : ∃ n, d.tyn = some n) (he : ∃ n, e.tyn = some n) (h : verO Vs n d = none ∨ verO Vs n e = none) : SD (tx K) (spTried K) [.log p Vs n, di 0, d, e] (.v (.str "version")) E := by
  rw [← trD_bad h]
  refine sdBetween hn hd he fun F' G' a b => ?_
  rcases h with h | h
  · rw [h] at a; cases a
  · rw [h] at b; cases b
theorem sdWhen {p : Addr} {Vs : List Fm} {n : Nat} {z : Int} {e : De} {E : XK} (hn : n < Vs.length) (hok : ∀ F ∈ Vs, F.Ok) (hz : Vs.length ≤ 1000) : SD (tx K) (spTried K) [.log p Vs n, di 1, di z, e] (.lst ((whO Vs z).map di)) E := fun H vs i Q q =>
  ⟨p, Vs, n, di z, e, ⟨_, rfl⟩, hn, .inr ⟨i, hok, hz, fun z' h q0 H' _ s iv => by rw [di_inj.mp h] at q; exact q _ H' s iv, fun h => by cases h⟩⟩
theorem sdPlace {p : Addr} {Vs : List Fm} {n : Nat} {d e : De} {E : XK} (hn : n < Vs.length) (hok : ∀ F ∈ Vs, F.Ok) (hz : Vs.length ≤ 1000) (ht : ∃ n, d.tyn = some n) (hd : d.place = false) : SD (tx K) (spTried K) [.log p Vs n, di 1, d, e] (.v (.str "place")) E := fun H vs i Q q =>
  ⟨p, Vs, n, d, e, ht, hn, .inr ⟨i, hok, hz, (fun z h => by rw [h] at hd; cases hd), fun _ => q⟩⟩
theorem wvl_pair {F G : Fm} {a b : Bool × Bool × Bool} (h : okPair F G) (ht : TooB [F, G] = false) : WvL .U [(a, F), (b, G)] :=
  ⟨Nat.le_refl 2, Nat.le_of_ble_eq_true rfl, fun x hx => by simp at hx; rcases hx with rfl | rfl; exact h.1; exact h.2.1, ht, h.2.2.1⟩
theorem patD_O {F G : Fm} (h : okPair F G) : patD F G = .tup [.row (plf (wv [F, G] ruU)), .row (plf (wv [F, G] ruO))] := by
  unfold patD ptN
  rw [ptN_ruO h.1.1 h.2.1.1]; rfl
theorem sdIsPat {F G : Fm} {a b : Bool × Bool × Bool} {E : XK} (h : okPair F G) (ht : TooB [F, G] = false) : SD (tx K) (spIsPatch K) [patD F G, .lst [tF a F, tF b G]] (db true) E := by
  rw [patD_O h]
  exact sd_D [(a, F), (b, G)] (wvl_pair h ht)
theorem sdIsPatF {F G : Fm} {E : XK} (h : okPair F G) (ht : TooB [F, G] = false) : SD (tx K) (spIsPatch K) [patD F G, .lst [dF F, dF G]] (db true) E := sdIsPat (a := (false, false, false)) (b := (false, false, false)) h ht
noncomputable def spPatches (K : PySem.W.Frag) : Sp := spD (tx K) (fun a : Addr × List Fm × Nat × Int × Int => [.log a.1 a.2.1 a.2.2.1, dVs a.2.1, di (a.2.2.1 : Int), di a.2.2.2.1]) (fun a => VS a.2.2.2.2 a.2.1 a.2.2.1 ∧ 0 ≤ a.2.2.2.1) (fun _ => db true)
def spWhens (K : PySem.W.Frag) : Sp := spD (tx K) (fun a : Addr × List Fm × Nat × Int => [.log a.1 a.2.1 a.2.2.1, dVs a.2.1, di a.2.2.2]) (fun a => a.2.2.1 < a.2.1.length ∧ (∀ F ∈ a.2.1, F.Ok) ∧ a.2.1.length ≤ 1000) (fun _ => db true)
theorem verO_nat {Vs : List Fm} {n k : Nat} {F : Fm} (h : Vs[k]? = some F) : verO Vs n (di (k : Int)) = some F := by
  have hk : k < Vs.length := (List.getElem?_eq_some_iff.mp h).1
  show (if 0 ≤ (k : Int) ∧ (k : Int) < Vs.length then Vs[(k : Int).toNat]? else none) = _
  rw [if_pos ⟨by omega, by omega⟩, Int.toNat_natCast, h]
include T
theorem c_law_patches : Cal P w K mg base CX0 13 "_law_patches" (spPatches K) := by
  obtain ⟨fd, F⟩ := fd_law_patches T
  refine ⟨⟨fd, ["_law_log", "_law_versions", "_law_on", "_law_cell_here"], fn0 F sc_law_patches (spD_len fun _ => rfl) (fun cdv A outer s H vs Q E hr h => ?_), gl_law_patches T, F.kp, F.bindsN (fun _ _ _ _ _ _ us hl => match us, hl with | [_, _, _, _], _ => rfl)⟩⟩
  obtain ⟨⟨p, Vs, n, c, b⟩, i, ⟨hV, hc⟩, q⟩ := h
  refine ⟨_, (pss_cons (ps_par (i := 4) (j := 5) (by rfl) sc_law_patches.nd rfl rfl (by decide) rfl rfl (pa_cons (pe_op op_mod (pv 3) (pe_callB (r := rLenS K) call_lenS (by rfl) (fr_len T) PySem.boot_len (pa_cons (pv 1) pa_nil))) (pa_cons (pe_op op_mod (pe_op op_fdiv (pv 3) pe_int) (pe_callB (r := rLenS K) call_lenS (by rfl) (fr_len T) PySem.boot_len (pa_cons (pv 1) pa_nil))) pa_nil)) (by rfl))
      (pss_cons (ps_set (i := 6) sc_law_patches.nd rfl (Or.inl rfl) (pe_cal (c_law_tried T) (hr.mono (by decide)) rfl pass0 (pa_cons (pv 0) (pa_cons pe_int (pa_cons (pv 4) (pa_cons (pv 5) pa_nil))))))
      (pss_cons (ps_if (pt_not (pt_val (pe_cal (c_law_is_patch T) (hr.mono (by decide)) rfl pass0 (pa_cons (pv 6) (pa_cons (pe_lst (pa_cons (pe_ix (r := rIxL K) ix_list (pv 1) (pv 4) (fun _ _ => rfl)) (pa_cons (pe_ix (r := rIxL K) ix_list (pv 1) (pv 5) (fun _ _ => rfl)) pa_nil))) pa_nil))))) (pss_one (ps_ret pe_bl)) pss_nil)
      (pss_cons (ps_if (pt_not (pt_val (pe_cal (c_law_is T) (hr.mono (by decide)) rfl pass0 (pa_cons (pe_cal (c_patched T) (hr.mono (by decide)) rfl pass0 (pa_cons (pe_calM (pv 0) (cl_Log T) (m_version T) (hr.mono (by decide)) passF (pa_cons (pv 4) pa_nil)) (pa_cons (pv 6) pa_nil))) (pa_cons (pe_ix (r := rIxL K) ix_list (pv 1) (pv 5) (fun _ _ => rfl)) pa_nil))))) (pss_one (ps_ret pe_bl)) pss_nil)
      (pss_cons (ps_if (pt_not (pt_val (pe_cal (c_law_is_patch T) (hr.mono (by decide)) rfl pass0 (pa_cons (pe_cal (c_law_tried T) (hr.mono (by decide)) rfl pass0 (pa_cons (pv 0) (pa_cons pe_int (pa_cons pe_non (pa_cons (pv 5) pa_nil))))) (pa_cons (pe_lst (pa_cons (pe_ix (r := rIxL K) ix_list (pv 1) (pv 2) (fun _ _ => rfl)) (pa_cons (pe_ix (r := rIxL K) ix_list (pv 1) (pv 5) (fun _ _ => rfl)) pa_nil))) pa_nil))))) (pss_one (ps_ret pe_bl)) pss_nil)
      (pss_cons (ps_if (pt_not (pt_val (pe_cal (c_law_is_patch T) (hr.mono (by decide)) rfl pass0 (pa_cons (pe_cal (c_law_tried T) (hr.mono (by decide)) rfl pass0 (pa_cons (pv 0) (pa_cons pe_int (pa_cons (pv 4) (pa_cons pe_non pa_nil))))) (pa_cons (pe_lst (pa_cons (pe_ix (r := rIxL K) ix_list (pv 1) (pv 4) (fun _ _ => rfl)) (pa_cons (pe_ix (r := rIxL K) ix_list (pv 1) (pv 2) (fun _ _ => rfl)) pa_nil))) pa_nil))))) (pss_one (ps_ret pe_bl)) pss_nil)
      (pss_cons (ps_if (pt_not (pt_val (pe_cal (c_law_is_patch T) (hr.mono (by decide)) rfl pass0 (pa_cons (pe_cal (c_law_tried T) (hr.mono (by decide)) rfl pass0 (pa_cons (pv 0) (pa_cons pe_int (pa_cons pe_non (pa_cons pe_non pa_nil))))) (pa_cons (pe_lst (pa_cons (pe_ix (r := rIxL K) ix_list (pv 1) (pv 2) (fun _ _ => rfl)) (pa_cons (pe_ix (r := rIxL K) ix_list (pv 1) (pv 2) (fun _ _ => rfl)) pa_nil))) pa_nil))))) (pss_one (ps_ret pe_bl)) pss_nil)
      (pss_cons (ps_if (PW.pt (pw_or (pt_not (pt_val (pe_cal (c_law_is T) (hr.mono (by decide)) rfl pass0 (pa_cons (pe_calM (pv 0) (cl_Log T) (m_version T) (hr.mono (by decide)) passF (pa_cons pe_non pa_nil)) (pa_cons (pe_ix (r := rIxL K) ix_list (pv 1) (pv 2) (fun _ _ => rfl)) pa_nil))))) (pw_or1 (pt_not (pt_val (pe_cal (c_law_is T) (hr.mono (by decide)) rfl pass0 (pa_cons (pe_calM0D (pv 0) (cl_Log T) (m_versionD T) (hr.mono (by decide)) passF) (pa_cons (pe_ix (r := rIxL K) ix_list (pv 1) (pv 2) (fun _ _ => rfl)) pa_nil)))))))) (pss_one (ps_ret pe_bl)) pss_nil)
      (pss_cons (ps_set (i := 7) sc_law_patches.nd rfl (Or.inl rfl) (pe_ix (r := rIxL K) ix_list (pe_lst (pa_cons (pe_callB (r := rLenS K) call_lenS (by rfl) (fr_len T) PySem.boot_len (pa_cons (pv 1) pa_nil)) (pa_cons (pe_un un_neg pe_int) (pa_cons pe_bl (pa_cons pe_str (pa_cons (pe_op op_pow pe_int pe_int) pa_nil)))))) (pe_op op_mod (pe_op op_fdiv (pv 3) pe_int) pe_int) (fun _ _ => rfl)))
      (pss_one (ps_ret (pe_and (pe_cmpR (r := rEqD K) (op_eqD hr.units) (pe_cal (c_law_tried T) (hr.mono (by decide)) rfl pass0 (pa_cons (pv 0) (pa_cons pe_int (pa_cons (pv 7) (pa_cons (pv 4) pa_nil))))) pe_str (nomark _)) (pe_one (pe_cmpR (r := rEqD K) (op_eqD hr.units) (pe_cal (c_law_tried T) (hr.mono (by decide)) rfl pass0 (pa_cons (pv 0) (pa_cons pe_int (pa_cons (pv 4) (pa_cons (pv 7) pa_nil))))) pe_str (nomark _))))))))))))))), ?_⟩
  refine by_run (ds := [.log p Vs n, dVs Vs, di (n : Int), di c]) (d := db true) i (Nat.le_of_ble_eq_true rfl) ?_ q
  obtain ⟨hok, hn, hz⟩ := hV
  dsimp only at hok hn hz hc
  have lenV : ∀ {S : Sl} , S[1]? = some (some (dVs Vs)) → EvD (tx K) (tCB (rLenS K) (tCons (tVar 1) tNil)) S (di (Vs.length : Int)) := fun hs => evd_is (evd_cb (evl_cons (evd_var hs) evl_nil) dc_lenL) (by rw [List.length_map])
  have m1 := Int.emod_nonneg c (show (Vs.length : Int) ≠ 0 by omega)
  have m2 := Int.emod_lt_of_pos c (show (0 : Int) < Vs.length by omega)
  have m3 := Int.emod_nonneg (c / 16) (show (Vs.length : Int) ≠ 0 by omega)
  have m4 := Int.emod_lt_of_pos (c / 16) (show (0 : Int) < Vs.length by omega)
  obtain ⟨j, hj⟩ : ∃ j : Nat, c % (Vs.length : Int) = (j : Int) := ⟨(c % (Vs.length : Int)).toNat, by omega⟩
  obtain ⟨k, hk⟩ : ∃ k : Nat, c / 16 % (Vs.length : Int) = (k : Int) := ⟨(c / 16 % (Vs.length : Int)).toNat, by omega⟩
  obtain ⟨F, hF⟩ : ∃ F, Vs[j]? = some F := ⟨_, List.getElem?_eq_getElem (by omega)⟩
  obtain ⟨G, hG⟩ : ∃ G, Vs[k]? = some G := ⟨_, List.getElem?_eq_getElem (by omega)⟩
  obtain ⟨J, hJ⟩ : ∃ J, Vs[n]? = some J := ⟨_, List.getElem?_eq_getElem hn⟩
  have oF := hok F (List.mem_of_getElem? hF)
  have oG := hok G (List.mem_of_getElem? hG)
  have oJ := hok J (List.mem_of_getElem? hJ)
  have pFG := ver_pair oF oG
  have pJG := ver_pair oJ oG
  have pFJ := ver_pair oF oJ
  have pJJ := ver_pair oJ oJ
  have vF := verO_nat (n := n) hF
  have vG := verO_nat (n := n) hG
  refine run_seq (run_par (a := di (j : Int)) (b := di (k : Int)) (evl_cons (evd_is (evd_op (evd_var rfl) (lenV rfl) (d2_I (by omega))) (by rw [hj])) (evl_cons (evd_is (evd_op (evd_op (evd_var rfl) evd_c (d2_I ⟨by decide, by decide⟩)) (lenV rfl) (d2_I (by omega))) (by rw [hk])) evl_nil)) ?_)
  refine run_seq (run_asg (evd_call (evl_cons (evd_var rfl) (evl_cons evd_c (evl_cons (evd_var rfl) (evl_cons (evd_var rfl) evl_nil)))) (sdPat hn ⟨_, rfl⟩ ⟨_, rfl⟩ vF vG pFG.pair pFG.too)) ?_)
  refine run_seq (run_if (b := false) (evb_nt ((evd_call (evl_cons (evd_var rfl) (evl_cons (evd_lst (evl_cons (evd_op (evd_var rfl) (evd_var rfl) (d2_ixL (k := j) (dVs_get hF) rfl)) (evl_cons (evd_op (evd_var rfl) (evd_var rfl) (d2_ixL (k := k) (dVs_get hG) rfl)) evl_nil)) (Nat.le_of_ble_eq_true rfl)) evl_nil)) (sdIsPatF pFG.pair pFG.too)))) (fun hb => by cases hb) (fun _ => run_next ?_))
  have hback : plf (wv [F, ptM F G, ptN F G] ruC) = G := by rw [pt_back oF.pl oG.pl pFG.pat.2.1.1, oG.pl.plf]
  refine run_seq (run_if (b := false) (evb_nt ((evd_call (evl_cons (evd_is (evd_call (evl_cons (evd_methL (fun _ _ => rfl) (evd_var rfl) (evl_cons (evd_var rfl) evl_nil) (sd_E (d := .row F) (p, Vs, n, di (j : Int)) ⟨hn, _, rfl⟩ (by show (verO Vs n (di (j : Int))).map De.row = _; rw [vF]; rfl))) (evl_cons (evd_var rfl) evl_nil)) (sd_D (F, ptM F G, ptN F G) pFG.pat)) (e := .row G) (by rw [hback])) (evl_cons (evd_op (evd_var rfl) (evd_var rfl) (d2_ixL (k := k) (dVs_get hG) rfl)) evl_nil)) (sd_D G oG.pl.ok)))) (fun hb => by cases hb) (fun _ => run_next ?_))
  refine run_seq (run_if (b := false) (evb_nt ((evd_call (evl_cons (evd_call (evl_cons (evd_var rfl) (evl_cons evd_c (evl_cons evd_c (evl_cons (evd_var rfl) evl_nil)))) (sdPat hn ⟨_, rfl⟩ ⟨_, rfl⟩ hJ vG pJG.pair pJG.too)) (evl_cons (evd_lst (evl_cons (evd_op (evd_var rfl) (evd_var rfl) (d2_ixL (k := n) (dVs_get hJ) rfl)) (evl_cons (evd_op (evd_var rfl) (evd_var rfl) (d2_ixL (k := k) (dVs_get hG) rfl)) evl_nil)) (Nat.le_of_ble_eq_true rfl)) evl_nil)) (sdIsPatF pJG.pair pJG.too)))) (fun hb => by cases hb) (fun _ => run_next ?_))
  refine run_seq (run_if (b := false) (evb_nt ((evd_call (evl_cons (evd_call (evl_cons (evd_var rfl) (evl_cons evd_c (evl_cons (evd_var rfl) (evl_cons evd_c evl_nil)))) (sdPat hn ⟨_, rfl⟩ ⟨_, rfl⟩ vF hJ pFJ.pair pFJ.too)) (evl_cons (evd_lst (evl_cons (evd_op (evd_var rfl) (evd_var rfl) (d2_ixL (k := j) (dVs_get hF) rfl)) (evl_cons (evd_op (evd_var rfl) (evd_var rfl) (d2_ixL (k := n) (dVs_get hJ) rfl)) evl_nil)) (Nat.le_of_ble_eq_true rfl)) evl_nil)) (sdIsPatF pFJ.pair pFJ.too)))) (fun hb => by cases hb) (fun _ => run_next ?_))
  refine run_seq (run_if (b := false) (evb_nt ((evd_call (evl_cons (evd_call (evl_cons (evd_var rfl) (evl_cons evd_c (evl_cons evd_c (evl_cons evd_c evl_nil)))) (sdPat hn ⟨_, rfl⟩ ⟨_, rfl⟩ hJ hJ pJJ.pair pJJ.too)) (evl_cons (evd_lst (evl_cons (evd_op (evd_var rfl) (evd_var rfl) (d2_ixL (k := n) (dVs_get hJ) rfl)) (evl_cons (evd_op (evd_var rfl) (evd_var rfl) (d2_ixL (k := n) (dVs_get hJ) rfl)) evl_nil)) (Nat.le_of_ble_eq_true rfl)) evl_nil)) (sdIsPatF pJJ.pair pJJ.too)))) (fun hb => by cases hb) (fun _ => run_next ?_))
  have vNon : EvD (tx K) (tMeth (logA K) "version" (spVersion K) [.non] XNo (tVar 0) tNil) [some (.log p Vs n), some (dVs Vs), some (di (n : Int)), some (di c), some (di (j : Int)), some (di (k : Int)), some (patD F G), none] (.row J) := fun σ H e Q q => by
    obtain ⟨v0, g0, g0'⟩ := e.2 0 _ rfl
    obtain ⟨rfl, dx, a, ws, g1, g2, g3⟩ := is_log.mp g0'
    refine ⟨_, g0, p, dx, _, rfl, g1, rfl, ?_⟩
    exact (sd_E (T := tx K) (C := XV K) (args := fun a : Addr × List Fm × Nat × De => [.log a.1 a.2.1 a.2.2.1, a.2.2.2]) (pre := fun a => a.2.2.1 < a.2.1.length ∧ ∃ n, a.2.2.2.tyn = some n) (res := fun a => (verO a.2.1 a.2.2.1 a.2.2.2).map De.row) (E := XNo) (d := .row J) (p, Vs, n, De.v V.non) ⟨hn, _, rfl⟩ (by show (verO Vs n (.v .non)).map De.row = _; rw [verO_non, hJ]; rfl)) H _ (isA_cons.mpr ⟨_, _, rfl, is_log.mpr ⟨rfl, dx, a, ws, g1, g2, g3⟩, isA_cons.mpr ⟨_, _, rfl, is_v.mpr rfl, isA_nil.mpr rfl⟩⟩) Q q
  refine run_seq (run_if (b := false) (evb_is (evb_or (evb_not (evb_test (evd_call (evl_cons (evd_methL (fun _ _ => rfl) (evd_var rfl) (evl_cons evd_c evl_nil) (sd_E (d := .row J) (p, Vs, n, De.v V.non) ⟨hn, _, rfl⟩ (by show (verO Vs n (.v .non)).map De.row = _; rw [verO_non, hJ]; rfl))) (evl_cons (evd_op (evd_var rfl) (evd_var rfl) (d2_ixL (k := n) (dVs_get hJ) rfl)) evl_nil)) (sd_D J oJ.pl.ok)))) fun h => (evb_not (evb_test (evd_call (evl_cons vNon (evl_cons (evd_op (evd_var rfl) (evd_var rfl) (d2_ixL (k := n) (dVs_get hJ) rfl)) evl_nil)) (sd_D J oJ.pl.ok))))) rfl) (fun hb => by cases hb) (fun _ => run_next ?_))
  have b1 := Int.emod_nonneg (c / 256) (show (5 : Int) ≠ 0 by decide)
  have b2 := Int.emod_lt_of_pos (c / 256) (show (0 : Int) < 5 by decide)
  obtain ⟨bad, hbad, hbt, hbv⟩ : ∃ bad : De, ([di (Vs.length : Int), di (-1), db false, .v (.str "1"), di (10 ^ 30)] : List De)[(c / 256 % 5).toNat]? = some bad ∧ (∃ n, bad.tyn = some n) ∧ verO Vs n bad = none := by
    generalize hx : (c / 256 % 5).toNat = x
    have hx5 : x < 5 := by omega
    match x, hx5 with
    | 0, _ => exact ⟨_, rfl, ⟨_, rfl⟩, by show (if 0 ≤ (Vs.length : Int) ∧ (Vs.length : Int) < Vs.length then Vs[(Vs.length : Int).toNat]? else none) = none; rw [if_neg (by omega)]⟩
    | 1, _ => exact ⟨_, rfl, ⟨_, rfl⟩, by show (if 0 ≤ (-1 : Int) ∧ (-1 : Int) < Vs.length then Vs[(-1 : Int).toNat]? else none) = none; rw [if_neg (by omega)]⟩
    | 2, _ => exact ⟨_, rfl, ⟨_, rfl⟩, rfl⟩
    | 3, _ => exact ⟨_, rfl, ⟨_, rfl⟩, rfl⟩
    | 4, _ => exact ⟨_, rfl, ⟨_, rfl⟩, by show (if 0 ≤ ((10 : Int) ^ 30) ∧ ((10 : Int) ^ 30) < Vs.length then Vs[((10 : Int) ^ 30).toNat]? else none) = none; rw [if_neg (by omega)]⟩
  refine run_seq (run_asg (evd_op (evd_is (evd_lst (evl_cons (lenV rfl) (evl_cons (evd_un evd_c d1_neg) (evl_cons evd_c (evl_cons evd_c (evl_cons (evd_op evd_c evd_c (d2_I ⟨by decide, by decide, by decide⟩)) evl_nil))))) (Nat.le_of_ble_eq_true rfl)) (show _ = De.lst [di (Vs.length : Int), di (-1), db false, .v (.str "1"), di (10 ^ 30)] from rfl)) (evd_op (evd_op (evd_var rfl) evd_c (d2_I ⟨by decide, by decide⟩)) evd_c (d2_I (by decide))) (d2_ixL (k := (c / 256 % 5).toNat) hbad (by omega))) ?_)
  exact run_ret (evd_is (evd_and (evd_op (evd_call (evl_cons (evd_var rfl) (evl_cons evd_c (evl_cons (evd_var rfl) (evl_cons (evd_var rfl) evl_nil)))) (sdBad hn hbt ⟨_, rfl⟩ (.inl hbv))) evd_c (d2_eqS (by decide +kernel))) fun h => (evd_op (evd_call (evl_cons (evd_var rfl) (evl_cons evd_c (evl_cons (evd_var rfl) (evl_cons (evd_var rfl) evl_nil)))) (sdBad hn ⟨_, rfl⟩ hbt (.inr hbv))) evd_c (d2_eqS (by decide +kernel)))) rfl) rfl
theorem c_law_whens : Cal P w K mg base CX0 13 "_law_whens" (spWhens K) := by
  obtain ⟨fd, F⟩ := fd_law_whens T
  refine ⟨⟨fd, ["_law_log", "_law_versions", "_law_place"], fn0 F sc_law_whens (spD_len fun _ => rfl) (fun cdv A outer s H vs Q E hr h => ?_), gl_law_whens T, F.kp, F.bindsN (fun _ _ _ _ _ _ us hl => match us, hl with | [_, _, _], _ => rfl)⟩⟩
  obtain ⟨⟨p, Vs, n, z⟩, i, ⟨hn, hok, hz⟩, q⟩ := h
  refine ⟨_, (pss_cons (ps_set (i := 3) sc_law_whens.nd rfl (Or.inl rfl) (pe_lst pa_nil))
      (pss_cons (ps_for PassesOwn.never rfl (pi_any2 rfl (fr_range T) (pa_cons pe_int (pa_cons (pe_callB (r := rLenS K) call_lenS (by rfl) (fr_len T) PySem.boot_len (pa_cons (pv 1) pa_nil)) pa_nil))) (pg_name (i := 4) sc_law_whens.nd rfl (Or.inl rfl)) (pss_one (ps_if (pt_cmpR op_ne (pe_cal (c_law_at T) (hr.mono (by decide)) rfl pass0 (pa_cons (pe_ix (r := rIxL K) ix_list (pv 1) (pv 4) (fun _ _ => rfl)) (pa_cons (pv 2) pa_nil))) (pe_cal (c_law_at T) (hr.mono (by decide)) rfl pass0 (pa_cons (pe_ix (r := rIxL K) ix_list (pv 1) (pe_op op_sub (pv 4) pe_int) (fun _ _ => rfl)) (pa_cons (pv 2) pa_nil))) (nomark _)) (pss_one (ps_expr (pe_bm PySem.F.plainAttrs_list PySem.F.slot_list_append PySem.F.type_list_append mt_append (pv 3) (pa_cons (pv 4) pa_nil)))) pss_nil)))
      (pss_cons (ps_set (i := 5) sc_law_whens.nd rfl (Or.inl rfl) (pe_cal (c_law_tried T) (hr.mono (by decide)) rfl pass0 (pa_cons (pv 0) (pa_cons pe_int (pa_cons (pv 2) (pa_cons pe_non pa_nil))))))
      (pss_cons (ps_if (PW.pt (pw_or (pt_not (pt_val (pe_callB (r := rIsi K) call_isi (by rfl) (fr_isinstance T) (by decide +kernel) (pa_cons (pv 5) (pa_cons (pe_bltn (v := .ty "list") (by rfl) (fr_list T) (by decide +kernel) rfl) pa_nil))))) (pw_or (pt_cmpR (r := rNeD K) (op_neD hr.units) (pv 5) (pv 3) (nomark _)) (pw_or1 (pt_cmpR (r := rNeD K) (op_neD hr.units) (pe_lc (own := [("_law_one", 6)]) (g := gName 6) rfl sc_law_whens.nd (pi_list (pv 5)) (blkOk_by (own := [("_law_one", 6)]) (N := n_law_whens) (sc := defScope s_law_whens) (by decide +kernel)) (fun _ _ _ _ _ => pg_name (i := 6) sc_law_whens.nd rfl (Or.inl rfl)) (fun _ _ _ _ _ => pts_one (pt_val (pe_callB (r := rIsi K) call_isi (by rfl) (fr_isinstance T) (by decide +kernel) (pa_cons (pv 6) (pa_cons (pe_bltn (v := .ty "bool") (by rfl) (fr_bool T) (by decide +kernel) rfl) pa_nil))))) (fun _ _ _ _ _ => (pv 6))) (pe_lst pa_nil) (nomark _)))))) (pss_one (ps_ret pe_bl)) pss_nil)
      (pss_cons (ps_expr (pe_bm PySem.F.plainAttrs_list PySem.F.slot_list_append PySem.F.type_list_append mt_append (pv 5) (pa_cons pe_int pa_nil)))
      (pss_one (ps_ret (pe_cmpR (r := rEqD K) (op_eqD hr.units) (pe_cal (c_law_tried T) (hr.mono (by decide)) rfl pass0 (pa_cons (pv 0) (pa_cons pe_int (pa_cons (pv 2) (pa_cons pe_non pa_nil))))) (pv 3) (nomark _))))))))), ?_⟩
  refine by_run (ds := [.log p Vs n, dVs Vs, di z]) (d := db true) i (Nat.le_of_ble_eq_true rfl) ?_ q
  dsimp only at hn hok hz
  have getF : ∀ k, k < Vs.length → ∃ F, Vs[k]? = some F ∧ (Vs.map fun F => F.at z)[k]?.getD none = F.at z ∧ F.Ok := fun k hk => ⟨Vs[k], List.getElem?_eq_getElem hk, by rw [List.getElem?_map, List.getElem?_eq_getElem hk]; rfl, hok _ (List.getElem_mem hk)⟩
  refine run_appIf (i := 4) (j := 3) (lo := 1) (hi := (Vs.length : Int)) (fun k => di (1 + (k : Int))) (fun k => !decide ((Vs.map fun F => F.at z)[k + 1]?.getD none = (Vs.map fun F => F.at z)[k]?.getD none)) (Nat.le_of_ble_eq_true rfl) (by decide) (evl_cons evd_c (evl_cons (evd_is (evd_cb (evl_cons (evd_var rfl) evl_nil) dc_lenL) (by rw [List.length_map])) evl_nil)) (by omega) (fun k hk => ?_) (fun k hk _ => evd_var rfl) (fun _ _ => rfl) ?_
  · obtain ⟨F, f1, f2, f3⟩ := getF (k + 1) (by omega)
    obtain ⟨G, g1, g2, g3⟩ := getF k (by omega)
    rw [f2, g2]
    exact evb_test (evd_op (evd_call (evl_cons (evd_op (evd_var rfl) (evd_var rfl) (d2_ixL (k := k + 1) (dVs_get f1) (by omega))) (evl_cons (evd_var rfl) evl_nil)) (sd_D ((false, false, false), F, z) f3)) (evd_call (evl_cons (evd_op (evd_var rfl) (evd_op (evd_var rfl) evd_c d2_I0) (d2_ixL (k := k) (dVs_get g1) (by omega))) (evl_cons (evd_var rfl) evl_nil)) (sd_D ((false, false, false), G, z) g3)) d2_neC)
  · have ew : (((List.range ((Vs.length : Int) - 1).toNat).filter fun k => !decide ((Vs.map fun F => F.at z)[k + 1]?.getD none = (Vs.map fun F => F.at z)[k]?.getD none)).map fun (k : Nat) => di (1 + (k : Int))) = (whO Vs z).map di := by
      unfold whO
      rw [List.map_map, show Vs.length - 1 = ((Vs.length : Int) - 1).toNat by omega]; rfl
    rw [ew]
    intro D σ H e nx r
    have e : Env (tx K) H σ [some (.log p Vs n), some (dVs Vs), some (di z), some (.lst ((whO Vs z).map di)), none, none, none] := e
    refine raw_asg (raw_call (evl_cons (evd_var rfl) (evl_cons evd_c (evl_cons (evd_var rfl) (evl_cons evd_c evl_nil)))) e fun vs1 H1 s1 i1 => ?_)
    refine ⟨p, Vs, n, di z, .v .non, ⟨_, rfl⟩, hn, .inr ⟨i1, hok, hz, fun z' hz' q0 H2 hq s2 i2 => ?_, fun h => by cases h⟩⟩
    have ez := di_inj.mp hz'
    subst ez
    have hq0 : H q0 = none := none_of s1 hq
    have e2 := (e.mono (s1.trans s2)).set (i := 5) i2
    refine raw_if (b := false) (evb_is (evb_or (evb_not (evb_test (evd_cb (evl_cons (evd_var (k := 5) rfl) (evl_cons evd_c evl_nil)) (dc_isi (a := "list") rfl (by decide +kernel : kitB "list" "list" = some true))))) fun h => (evb_or (evb_test (evd_op (evd_var (k := 5) rfl) (evd_var (k := 3) rfl) d2_neIs)) fun h => (evb_test (evd_op (evd_is (evd_lcF (whO Vs z) di di (fun _ => false) (evd_var (k := 5) rfl) (by
        have : (whO Vs z).length ≤ Vs.length := by
          unfold whO
          rw [List.length_map]
          refine Nat.le_trans (List.length_filter_le _ _) ?_
          rw [List.length_range]; omega
        omega) (fun x hx => evb_test (evd_cb (evl_cons (evd_var rfl) (evl_cons evd_c evl_nil)) (dc_isBool (c := some x)))) (fun x hx h => by cases h) (fun _ _ => rfl)) (show _ = De.lst (([] : List Int).map di) by rw [List.filter_eq_nil_iff.mpr (fun _ _ h => by cases h)])) (evd_lst evl_nil (Nat.le_of_ble_eq_true rfl)) (d2_neIs (ys := [])))))) (by rw [decide_eq_true rfl, decide_eq_true rfl]; rfl)) e2 (fun h => by cases h) (fun _ H3 s3 => ?_)
    unfold tNext
    dsimp only
    refine raw_drop ?_
    have h5 : (σ.set 5 (some (.ref q0)))[5]? = some (some (.ref q0)) := List.getElem?_set_self (by rw [e.1]; exact Nat.le_of_ble_eq_true rfl)
    obtain ⟨_, xs, q1, hx1, hx2⟩ := is_lst.mp (i2.mono s3)
    cases q1
    refine ⟨_, h5, .inl ⟨rfl, _, SqL.of hx1⟩, q0, xs, .int 0, rfl, rfl, hx1, ?_, ?_⟩
    · rw [isA_len hx2, List.length_map, sizeLine_eq]
      have : (whO Vs z).length ≤ Vs.length := by
        unfold whO
        rw [List.length_map]
        refine Nat.le_trans (List.length_filter_le _ _) ?_
        rw [List.length_range]; omega
      omega
    · have s4 : Same H (upd H3 q0 (.lst (xs ++ [.int 0]))) := fun a o y => by
        rw [upd_ne (ne_of_none y hq0)]; exact s3 _ _ (s2 _ _ (s1 _ _ y))
      have e4 := Env.unset (i := 5) (o := some (.ref q0)) (e.mono s4)
      exact (run_ret (T := tx K) (Nx := fun _ => False) (Rt := fun e => e = db true) (evd_is (evd_op (evd_call (evl_cons (evd_var rfl) (evl_cons evd_c (evl_cons (evd_var rfl) (evl_cons evd_c evl_nil)))) (sdWhen hn hok hz)) (evd_var (k := 3) rfl) d2_eqIs) (by rw [decide_eq_true rfl])) rfl) _ _ _ e4 (fun _ _ _ z => z.elim) (fun d v H' hd s iv => r d v H' hd (s4.trans s) iv)
end
end Fx

/-! FwC7: a version put anew; the great wheels. -/
namespace Fw
theorem rep_one (n : Nat) (x : C) : rep n [x] = List.replicate n x := by
  unfold rep
  induction n with
  | zero => rfl
  | succ n ih => rw [List.replicate_succ, List.flatten_cons, ih, List.replicate_succ]; rfl
end Fw
namespace Fx
open PySem PySem.Spec PyProof.Rows L2 Fw
theorem ringS_len {m : Nat} (h : 1 ≤ m) : (ringS m).length = m := by
  unfold ringS
  rw [List.length_append, rep_len]
  show (m - 1) * 1 + 1 = m
  omega
theorem ringS_ne (m : Nat) : ringS m ≠ [] := by unfold ringS; simp
theorem ringS_lt {m k : Nat} (h : k + 1 < m) : (ringS m).getD k none = some 0 := by
  unfold ringS
  rw [rep_one, List.getD_eq_getElem?_getD, List.getElem?_append_left (by rw [List.length_replicate]; omega), List.getElem?_replicate, if_pos (by omega)]
  rfl
theorem ringS_last {m : Nat} (h : 1 ≤ m) : (ringS m).getD (m - 1) none = some 1 := by
  unfold ringS
  rw [rep_one, List.getD_eq_getElem?_getD, List.getElem?_append_right (by rw [List.length_replicate]; omega), List.length_replicate]
  simp
theorem ringS_least {m : Nat} (h : 1 ≤ m) : leastLen (ringS m) = m := by
  have ok := leastLen_ok (ringS_ne m)
  have hl := ringS_len h
  have hp := leastLen_per (ringS_ne m)
  generalize leastLen (ringS m) = k at ok hp
  by_cases z : k < m
  · have e := hp ((m - 1 - k : Nat) : Int)
    rw [rg_lt (by omega) (by omega), rg_lt (by omega) (by omega)] at e
    have e1 : (((m - 1 - k : Nat) : Int) + (k : Int)).toNat = m - 1 := by omega
    rw [e1, Int.toNat_natCast, ringS_last h, ringS_lt (by omega)] at e
    cases e
  · omega
theorem least_one (c : C) : leastLen [c] = 1 := by
  have ok := leastLen_ok (xs := [c]) (by simp)
  have h1 := ok.1
  have h2 := ok.2.1
  simp at h2
  omega
theorem siz0 (m : Nat) (p : Int) : sizF m p 0 = ⟨ringS m, [some 5], p, [none]⟩ := by unfold sizF; rw [if_pos rfl]
theorem siz1 (m : Nat) (p : Int) : sizF m p 1 = ⟨[none], [some 5], p, ringS m⟩ := by unfold sizF; rw [if_neg (by decide)]
theorem siz_pl {m : Nat} {p s : Int} (h : 2 ≤ m) (hs : s = 0 ∨ s = 1) : Pl (sizF m p s) := by
  rcases hs with rfl | rfl
  · rw [siz0]
    refine ⟨⟨ringS_ne m, by simp⟩, by rw [ringS_least (by omega)]; exact (ringS_len (by omega)).symm, least_one _, .inr ⟨?_, .inr ?_⟩⟩
    · rw [Fm.at_m (by show p ≤ p + 1 - 1; omega) (by show p + 1 - 1 < p + 1; omega), Fm.at_r (by show p + 1 ≤ p + 1 - 1 + 1; omega)]
      show ([some 5] : List C).getD (p + 1 - 1 - p).toNat none ≠ rg [none] _
      rw [show (p + 1 - 1 - p).toNat = 0 by omega]
      unfold rg
      simp
    · have hl := ringS_len (m := m) (by omega)
      rw [Fm.at_m (by show p ≤ p; omega) (by show p < p + 1; omega), Fm.at_l (by show p - ((ringS m).length : Int) < p; omega)]
      show ([some 5] : List C).getD (p - p).toNat none ≠ rg (ringS m) (p - ((ringS m).length : Int) - p)
      have := rg_per (ringS m) (p - ((ringS m).length : Int) - p)
      rw [← this, show p - ((ringS m).length : Int) - p + ((ringS m).length : Int) = 0 by omega, rg_lt (by omega) (by omega), show (0 : Int).toNat = 0 by rfl, ringS_lt (by omega), show (p - p).toNat = 0 by omega]
      simp
  · rw [siz1]
    have hl := ringS_len (m := m) (by omega)
    refine ⟨⟨by simp, ringS_ne m⟩, least_one _, by rw [ringS_least (by omega)]; exact (ringS_len (by omega)).symm, .inr ⟨?_, .inr ?_⟩⟩
    · rw [Fm.at_m (by show p ≤ p + 1 - 1; omega) (by show p + 1 - 1 < p + 1; omega), Fm.at_r (by show p + 1 ≤ p + 1 - 1 + ((ringS m).length : Int); omega)]
      show ([some 5] : List C).getD (p + 1 - 1 - p).toNat none ≠ rg (ringS m) (p + 1 - 1 + ((ringS m).length : Int) - p - 1)
      rw [rg_lt (by omega) (by omega), show (p + 1 - 1 + ((ringS m).length : Int) - p - 1).toNat = m - 1 by omega, ringS_last (by omega), show (p + 1 - 1 - p).toNat = 0 by omega]
      simp
    · rw [Fm.at_m (by show p ≤ p; omega) (by show p < p + 1; omega), Fm.at_l (by show p - 1 < p; omega)]
      show ([some 5] : List C).getD (p - p).toNat none ≠ rg [none] _
      rw [show (p - p).toNat = 0 by omega]
      unfold rg
      simp
theorem siz_fit {m : Nat} {p s : Int} (h : 2 ≤ m) (h2 : m ≤ 4000) (hs : s = 0 ∨ s = 1) : Fm.Fit (sizF m p s) := by
  rcases hs with rfl | rfl
  · rw [siz0]
    exact ⟨ringS_ne m, by show (ringS m).length ≤ 4000; rw [ringS_len (by omega)]; exact h2, Nat.le_of_ble_eq_true rfl, by simp, Nat.le_of_ble_eq_true rfl⟩
  · rw [siz1]
    exact ⟨by simp, Nat.le_of_ble_eq_true rfl, Nat.le_of_ble_eq_true rfl, ringS_ne m, by show (ringS m).length ≤ 4000; rw [ringS_len (by omega)]; exact h2⟩
theorem siz_f (m : Nat) (p s : Int) : (sizF m p s).f = p := by unfold sizF; split <;> rfl
theorem siz_m (m : Nat) (p s : Int) : (sizF m p s).m = [some 5] := by unfold sizF; split <;> rfl
theorem siz_e (m : Nat) (p s : Int) : (sizF m p s).e = p + 1 := by unfold Fm.e; rw [siz_f, siz_m]; rfl
theorem siz_at (m : Nat) (p s : Int) : (sizF m p s).at p = some 5 := by
  rw [Fm.at_m (by rw [siz_f]; omega) (by rw [siz_f, siz_m]; show p < p + 1; omega), siz_f, siz_m, show (p - p).toNat = 0 by omega]; rfl
theorem siz_none (m : Nat) (p q : Int) (h : p < q) : (sizF m p 0).at q = none := by
  rw [siz0, Fm.at_r (by show p + 1 ≤ q; omega)]
  show rg [none] _ = none
  unfold rg
  simp
def farOk (x : Nat × Nat × Bool) : Bool := decide (2 ≤ x.1) && decide (2 ≤ x.2.1) && decide (x.1 ≤ 4000) && decide (x.2.1 ≤ 4000) && (decide (Nat.lcm x.1 x.2.1 ≤ 4000) == x.2.2) && (!x.2.2 || decide (x.1 % 2 = 0) || decide (Nat.lcm x.1 x.2.1 ≤ 3990))
theorem farZ_ok (c : Int) : farOk (farZ c) = true := by
  have h1 := Int.emod_nonneg c (show (8 : Int) ≠ 0 by decide)
  have h2 := Int.emod_lt_of_pos c (show (0 : Int) < 8 by decide)
  have all : (farL.all farOk) = true := by decide +kernel
  have hk : (c % 8).toNat < farL.length := by show _ < 8; omega
  unfold farZ
  rw [List.getD_eq_getElem?_getD, List.getElem?_eq_getElem hk]
  exact List.all_eq_true.mp all _ (List.getElem_mem hk)
theorem great_pair {m m' : Nat} {may : Bool} {b s : Int} (h : farOk (m, m', may) = true) (hs : s = ((m % 2 : Nat) : Int)) :
    okPair (sizF m b s) (sizF m' (b + 3) s) ∧ TooB [sizF m b s, sizF m' (b + 3) s] = !may := by
  unfold farOk at h
  simp only [Bool.and_eq_true, decide_eq_true_eq, beq_iff_eq, Bool.or_eq_true, Bool.not_eq_true'] at h
  obtain ⟨⟨⟨⟨⟨a1, a2⟩, a3⟩, a4⟩, a5⟩, a6⟩ := h
  have hs2 : s = 0 ∨ s = 1 := by have := Nat.mod_lt m (show 0 < 2 by decide); omega
  have p0 := siz_pl (p := b) a1 hs2
  have p1 := siz_pl (p := b + 3) a2 hs2
  have f0 := siz_fit (p := b) a1 a3 hs2
  have f1 := siz_fit (p := b + 3) a2 a4 hs2
  have w0 : Win b (b + 4) (sizF m b s) := .inr ⟨by rw [siz_f]; omega, by rw [siz_e]; omega⟩
  have w1 : Win b (b + 4) (sizF m' (b + 3) s) := .inr ⟨by rw [siz_f]; omega, by rw [siz_e]; omega⟩
  have hp : ∀ A ∈ [sizF m b s, sizF m' (b + 3) s], Pl A := fun A hA => by simp at hA; rcases hA with rfl | rfl <;> assumption
  have hw : ∀ A ∈ [sizF m b s, sizF m' (b + 3) s], Win b (b + 4) A := fun A hA => by simp at hA; rcases hA with rfl | rfl <;> assumption
  have l1 := ringS_len (m := m) (by omega)
  have l2 := ringS_len (m := m') (by omega)
  have lens : (s = 0 → lenL [sizF m b s, sizF m' (b + 3) s] = Nat.lcm m m' ∧ lenR [sizF m b s, sizF m' (b + 3) s] = 1) ∧ (s = 1 → lenL [sizF m b s, sizF m' (b + 3) s] = 1 ∧ lenR [sizF m b s, sizF m' (b + 3) s] = Nat.lcm m m') := by
    constructor
    · rintro rfl
      rw [siz0, siz0]
      constructor
      · show Nat.lcm (Nat.lcm 1 (ringS m).length) (ringS m').length = _
        rw [l1, l2, Nat.lcm_one_left]
      · show Nat.lcm (Nat.lcm 1 1) 1 = 1
        decide
    · rintro rfl
      rw [siz1, siz1]
      constructor
      · show Nat.lcm (Nat.lcm 1 1) 1 = 1
        decide
      · show Nat.lcm (Nat.lcm 1 (ringS m).length) (ringS m').length = _
        rw [l1, l2, Nat.lcm_one_left]
  have htoo : TooB [sizF m b s, sizF m' (b + 3) s] = !may := by
    unfold TooB
    rcases hs2 with z | z
    · rw [(lens.1 z).1, (lens.1 z).2, ← a5]
      by_cases y : Nat.lcm m m' ≤ 4000
      · rw [decide_eq_true y, decide_eq_false (by omega)]; rfl
      · rw [decide_eq_false y, decide_eq_true (by omega)]; rfl
    · rw [(lens.2 z).1, (lens.2 z).2, ← a5]
      by_cases y : Nat.lcm m m' ≤ 4000
      · rw [decide_eq_true y, decide_eq_false (show ¬ Nat.lcm m m' > 4000 by omega)]; rfl
      · rw [decide_eq_false y, decide_eq_true (show Nat.lcm m m' > 4000 by omega)]; rfl
  refine ⟨⟨⟨p0, f0⟩, ⟨p1, f1⟩, win_w hw (by omega), fun ht => ?_⟩, htoo⟩
  have hmay : may = true := by rw [htoo] at ht; simpa using ht
  obtain ⟨g1, g2, g3, g4, g5, g6⟩ := wv_plf hp ruU
  have g1 : Pl (ptM (sizF m b s) (sizF m' (b + 3) s)) := g1
  have wl := win_lo hw
  have nr : ¬ ((loF [sizF m b s, sizF m' (b + 3) s] = 0 ∧ hiF [sizF m b s, sizF m' (b + 3) s] = 0 ∧ ∀ F ∈ [sizF m b s, sizF m' (b + 3) s], F.Rnd)) := fun z => by
    have := (z.2.2 _ List.mem_cons_self).1
    rw [siz_m] at this
    cases this
  obtain ⟨lo1, hi1⟩ : b ≤ loF [sizF m b s, sizF m' (b + 3) s] ∧ hiF [sizF m b s, sizF m' (b + 3) s] ≤ b + 4 := by
    rcases wl.2 with z | z
    · exact absurd z nr
    · exact z
  have wM : Win (b - 3995) (b + 4) (ptM (sizF m b s) (sizF m' (b + 3) s)) := by
    rcases g6 with z | ⟨z1, z2⟩
    · exact .inl z
    · right
      rcases hs2 with y | y
      · -- the left wheels: the marks end where the rows' own cells end
        have hm2 : ((ptM (sizF m b s) (sizF m' (b + 3) s)).m.length : Int) ≤ hiF [sizF m b s, sizF m' (b + 3) s] - loF [sizF m b s, sizF m' (b + 3) s] := g5
        have he : b + 4 ≤ (ptM (sizF m b s) (sizF m' (b + 3) s)).e := Classical.byContradiction fun ne => by
          have r1 : (ptM (sizF m b s) (sizF m' (b + 3) s)).r.length = 1 := by
            have d : (ptM (sizF m b s) (sizF m' (b + 3) s)).r.length ∣ 1 := by rw [← (lens.1 y).2]; exact g4
            exact Nat.dvd_one.mp d
          have tail := g1.LRr.2 (b + 3) (by omega)
          rw [r1] at tail
          have ea : ∀ q, (ptM (sizF m b s) (sizF m' (b + 3) s)).at q = ruU [(sizF m b s).at q, (sizF m' (b + 3) s).at q] := fun q => by
            show (plf (wv _ ruU)).at q = _
            rw [g2]; rfl
          rw [ea, ea, siz_at] at tail
          subst y
          rw [siz_none m b (b + 3) (by omega), siz_none m b _ (by omega), siz_none m' (b + 3) _ (by omega)] at tail
          simp [ruU] at tail
        have hee : (ptM (sizF m b s) (sizF m' (b + 3) s)).e = (ptM (sizF m b s) (sizF m' (b + 3) s)).f + ((ptM (sizF m b s) (sizF m' (b + 3) s)).m.length : Int) := rfl
        have z2 : (ptM (sizF m b s) (sizF m' (b + 3) s)).e ≤ hiF [sizF m b s, sizF m' (b + 3) s] := z2
        exact ⟨by omega, by omega⟩
      · rw [(lens.2 y).1, (lens.2 y).2] at z1
        have hm1 : m % 2 = 1 := by omega
        have lc : Nat.lcm m m' ≤ 3990 := by
          rcases a6 with (z | z) | z
          · rw [hmay] at z; cases z
          · omega
          · exact z
        have z1 : loF [sizF m b s, sizF m' (b + 3) s] - ((1 : Nat) : Int) - ((Nat.lcm m m' : Nat) : Int) < (ptM (sizF m b s) (sizF m' (b + 3) s)).f := z1
        have z2 : (ptM (sizF m b s) (sizF m' (b + 3) s)).e ≤ hiF [sizF m b s, sizF m' (b + 3) s] := z2
        exact ⟨by omega, by omega⟩
  refine win_w (lo := b - 3995) (hi := b + 4) (fun A hA => ?_) (by omega)
  simp at hA
  rcases hA with rfl | rfl
  · exact wM
  · exact win_mono w1 (by omega) (by omega)
end Fx

/-! FwC8: a version put anew; the great wheels. -/
namespace Fx
open PySem PySem.Spec PyProof.Rows L2 Fw
theorem nls_dcs (xs : List C) : De.nls (dcs xs) = true := nls_of fun d hd => by
  obtain ⟨c, _, rfl⟩ := List.mem_map.mp hd
  rfl
theorem sq_nl (b : Bool) (xs : List C) : (De.sq b (dcs xs)).nl = true := by
  cases b
  · show (De.tup (dcs xs)).nl = true
    rw [De.nl]; exact nls_dcs xs
  · show (De.lst (dcs xs)).nl = true
    rw [De.nl]; exact nls_dcs xs
theorem tF_nl (a : Bool × Bool × Bool) (F : Fm) : (tF a F).nl = true := by
  unfold tF
  rw [De.nl]
  refine nls_of fun d hd => ?_
  unfold sqs at hd
  simp only [List.mem_cons, List.not_mem_nil, or_false] at hd
  rcases hd with rfl | rfl | rfl | rfl
  · exact sq_nl _ _
  · exact sq_nl _ _
  · rfl
  · exact sq_nl _ _
theorem dF_nl (F : Fm) : (dF F).nl = true := tF_nl (false, false, false) F
theorem nls_dF (Vs : List Fm) : De.nls (Vs.map dF) = true := nls_of fun d hd => by
  obtain ⟨F, _, rfl⟩ := List.mem_map.mp hd
  exact dF_nl F
theorem lst_nl (Vs : List Fm) : (De.lst (Vs.map dF)).nl = true := by rw [De.nl]; exact nls_dF Vs
theorem nlo_v (x : V) : nlo (some (.v x)) = true := rfl
theorem nlo_lst (Vs : List Fm) : nlo (some (.lst (Vs.map dF))) = true := lst_nl Vs
theorem nlo_tF (a : Bool × Bool × Bool) (F : Fm) : nlo (some (tF a F)) = true := tF_nl a F
theorem nlo_scr (ns : List Int) : nlo (some (.scr ns)) = true := rfl
theorem nlo_none : nlo none = true := rfl
section
variable {T : Tx} {S : Sl} {p : Addr} {te ta tb : TE} {ts tu : TS} {a b d : De} {Vs Vs' : List Fm} {n n' i : Nat} {Nx : Sl → Prop}
/-- one of several values -/
def EvE (T : Tx) (te : TE) (S : Sl) (Pd : De → Prop) : Prop := ∀ σ H, Env T H σ S → ∀ Q : VK, (∀ d v H', Pd d → Same H H' → Is T H' d v → Q v H') → te σ H Q
theorem runm_asgE {Rt : De → Sl → Prop} {Pd : De → Prop} (h : EvE T te S Pd) (k : ∀ d, Pd d → Nx (S.set i (some d))) : RunM T p (tAsg te (gName i)) S Nx Rt := fun D σ H e n r =>
  h σ H e _ fun d v H1 hd e1 i1 => n _ _ H1 (k d hd) (sx_of e1) ((e.mono e1).set i1)
theorem evm_op {r : R2} (hi : S[i]? = some (some (.log p Vs n))) (ha : EvD T ta S a) (na : a.nl = true) (hb : EvM T p tb S b Vs' n') (hr : D2 T r a b d) : EvM T p (tOp r ta tb) S d Vs' n' := fun σ H e Q q =>
  ha σ H e _ fun v H1 e1 i1 => by
    obtain ⟨v0, h0, h0'⟩ := (e.mono e1).2 i _ hi
    obtain ⟨_, dx, a0, vs, hp, _⟩ := is_log.mp h0'
    exact hb σ H1 (e.mono e1) _ fun w H2 s2 l2 i2 => hr H2 v w (is_sx hp s2 na i1) i2 _ fun z H3 e3 i3 => q z H3 ((sx_of e1).trans (s2.trans (sx_of e3))) (logAt_mono e3 l2) i3
theorem evm_cb1 {r : List V → Hp → VK → Prop} (h : EvM T p te S a Vs' n') (hr : DC T r [a] d) : EvM T p (tCB r (tCons te tNil)) S d Vs' n' := fun σ H e Q q =>
  h σ H e _ fun v H1 s1 l1 i1 => hr H1 [v] (isA_one i1) _ fun z H2 e2 i2 => q z H2 (s1.trans (sx_of e2)) (logAt_mono e2 l1) i2
theorem evm_is (h : EvM T p te S a Vs n) (e1 : a = d) (e2 : Vs = Vs') (e3 : n = n') : EvM T p te S d Vs' n' := by
  rw [← e1, ← e2, ← e3]; exact h
end
section
variable {K : PySem.W.Frag} {S : Sl} {p : Addr} {te : TE} {Vs : List Fm} {n i : Nat} {E : XK}
theorem evm_do {F : Fm} (hi : S[i]? = some (some (.log p Vs n))) (h : EvD (tx K) te S (.row F)) (ft : Fm.Fit F) (hn : n < Vs.length) (hz : Vs.length ≤ 1000) : EvM (tx K) p (tMeth (logA K) "do" (spDo K) [] E (tVar i) (tCons te tNil)) S (db (doB Vs n (plf F.at))) (doV Vs n (plf F.at)) (doN Vs n (plf F.at)) := fun σ H e Q q => by
  obtain ⟨v0, h0, h0'⟩ := e.2 i _ hi
  obtain ⟨rfl, dx, a, vs, h1, h2, h3⟩ := is_log.mp h0'
  refine ⟨_, h0, p, dx, _, rfl, h1, rfl, h σ H e _ fun v H1 s1 i1 => ?_⟩
  exact ⟨p, Vs, n, F, isA_cons.mpr ⟨_, _, rfl, is_log.mpr ⟨rfl, logAt_mono s1 ⟨dx, a, vs, h1, h2, h3⟩⟩, isA_one i1⟩, ft, hn, hz, fun H' s l => q _ H' ((sx_of s1).trans s) l (is_v.mpr rfl)⟩
theorem evm_back (hi : S[i]? = some (some (.log p Vs n))) : EvM (tx K) p (tMeth (logA K) "back" (spBack K) [] E (tVar i) tNil) S (db (!decide ((n : Int) = 0))) Vs (n - 1) := fun σ H e Q q => by
  obtain ⟨v0, h0, h0'⟩ := e.2 i _ hi
  obtain ⟨rfl, dx, a, vs, h1, h2, h3⟩ := is_log.mp h0'
  refine ⟨_, h0, p, dx, _, rfl, h1, rfl, ?_⟩
  exact ⟨p, Vs, n, isA_one (is_log.mpr ⟨rfl, dx, a, vs, h1, h2, h3⟩), fun H' s l => q _ H' s l (is_v.mpr rfl)⟩
theorem eve_like {t : TA} {ns : List Int} {a b : Int} {F : Fm} {k : Nat} (h : EvL (tx K) t S [.scr ns, di a, dF F, di b]) (hns : ns.length ≤ 63) (hv : okVer b k F) (hk : k ≤ 70) : EvE (tx K) (tCall (spLike K) [] E t) S (fun d => ∃ G, d = dL G ∧ okForm b (k + 1) G) := fun σ H e Q q =>
  h σ H e _ fun vs H1 s1 i1 => by
    rw [List.append_nil]
    exact ⟨ns, a, F, b, k, i1, hns, hv, hk, fun G v H' ok s iv => q _ v H' ⟨G, rfl, ok⟩ (s1.trans s) iv⟩
theorem run_mkLog {t : TA} {F : Fm} {rest : TS} {Nx : Sl → Prop} {Rt : De → Prop} (h : EvL (tx K) t S [.row F]) (ft : Fm.Fit F) (k : ∀ x, RunM (tx K) x rest (S.set i (some (.log x [plf F.at] 0))) Nx (fun d _ => Rt d)) : Run (tx K) (tSeq (tAsg (tMake (He.ga K "Log") (spLog K) [] E t) (gName i)) rest) S Nx Rt := fun D σ H e nx r =>
  h σ H e _ fun vs H1 e1 i1 => fun x dx hx hdx hne => by
    have s1 : Same H1 (upd (upd H1 dx (.own x)) x (.ins (logA K) dx [])) := fun b o z => by
      rw [upd_ne (ne_of_none z hx), upd_ne (ne_of_none z hdx)]; exact z
    refine ⟨F, x, dx, isA_cons.mpr ⟨_, _, rfl, is_v.mpr rfl, by rw [List.append_nil]; exact i1.mono s1⟩, ft, upd_same, fun H' s' l => ⟨rfl, ?_⟩⟩
    have s2 : Same H H' := fun b o z => s' b o (fun y => by have := e1 _ _ z; rw [y, hx] at this; cases this) (s1 b o (e1 b o z))
    have hHx : H x = none := none_of e1 hx
    have fin : ∀ H2, Sx x H' H2 → Same H H2 := fun H2 s3 b o z => s3 b o (fun y => by rw [y, hHx] at z; cases z) (s2 b o z)
    exact k x D _ H' ((e.mono s2).set (is_log.mpr ⟨rfl, l⟩)) (fun S' σ2 H2 a s3 e3 => nx S' σ2 H2 a (fin H2 s3) e3) (fun d v S' σ2 H2 a s3 e3 iv => r d v H2 a (fin H2 s3) iv)
end
theorem doV_same {Vs : List Fm} {n : Nat} {G : Fm} (h : Vs[n]? = some G) : doV Vs n G = Vs ∧ doN Vs n G = n ∧ doB Vs n G = false := by
  unfold doV doN doB
  rw [if_pos h, if_pos h, if_pos h]
  exact ⟨rfl, rfl, rfl⟩
theorem doV_new {Vs : List Fm} {n : Nat} {G : Fm} (h : ¬ Vs[n]? = some G) : doV Vs n G = Vs.take (n + 1) ++ [G] ∧ doN Vs n G = n + 1 ∧ doB Vs n G = true := by
  unfold doV doN doB
  rw [if_neg h, if_neg h, if_neg h]
  exact ⟨rfl, rfl, rfl⟩
section
variable {P : Program} {w : World} {K : PySem.W.Frag} {mg : Str → Option Value} {base : Heap} (T : Tt K mg)
def spGreat (K : PySem.W.Frag) : Sp := spD (tx K) (fun a : List Int × Int => [.scr a.1, di a.2]) (fun a => a.1.length ≤ 63) (fun _ => db true)
def spPut (K : PySem.W.Frag) : Sp := fun vs H Q _ => ∃ (p : Addr) (Vs : List Fm) (n : Nat) (ns : List Int) (b : Int), IsA (tx K) H [.log p Vs n, dVs Vs, di (n : Int), .scr ns, di b] vs ∧ ns.length ≤ 63 ∧ (∀ F ∈ Vs, okVer b 65 F) ∧ n < Vs.length ∧ Vs.length ≤ 65 ∧
  ∀ v H', Sx p H H' → Is (tx K) H' (db true) v → Q v H'
include T
theorem c_law_put_anew : Cal P w K mg base CX0 14 "_law_put_anew" (spPut K) := by
  obtain ⟨fd, F⟩ := fd_law_put_anew T
  refine ⟨⟨fd, ["_law_log", "_law_versions", "_law_on", "_law_script", "_law_base_here"], fn0 F sc_law_put_anew (fun vs H Q E h => by obtain ⟨p, Vs, n, ns, b, i, _⟩ := h; rw [isA_len i]; rfl) (fun cdv A outer s H vs Q E hr h => ?_), gl_law_put_anew T, F.kp, F.bindsN (fun _ _ _ _ _ _ us hl => match us, hl with | [_, _, _, _, _], _ => rfl)⟩⟩
  obtain ⟨p, Vs, n, ns, b, i, hns, hok, hn, hz, q⟩ := h
  refine ⟨_, (pss_cons (ps_set (i := 5) sc_law_put_anew.nd rfl (Or.inl rfl) (pe_op op_sub (pe_op op_add (pv 4) (pe_op op_mod (pe_cal (c_law_cell T) (hr.mono (by decide)) rfl pass0 (pa_cons (pv 3) (pa_cons pe_int pa_nil))) pe_int)) pe_int))
      (pss_cons (ps_if (PW.pt (pw_or (pt_not (pt_val (pe_cal (c_law_is_patch T) (hr.mono (by decide)) rfl pass0 (pa_cons (pe_cal (c_law_tried T) (hr.mono (by decide)) rfl pass0 (pa_cons (pv 0) (pa_cons pe_int (pa_cons pe_int (pa_cons (pv 2) pa_nil))))) (pa_cons (pe_lst (pa_cons (pe_ix (r := rIxL K) ix_list (pv 1) pe_int (fun _ _ => rfl)) (pa_cons (pe_ix (r := rIxL K) ix_list (pv 1) (pv 2) (fun _ _ => rfl)) pa_nil))) pa_nil))))) (pw_or1 (pt_not (pt_val (pe_calM0 (pv 0) (cl_Log T) (m_back T) (hr.mono (by decide)) pass0)))))) (pss_one (ps_ret (pe_cmpR op_eq (pv 2) pe_int (nomark _)))) pss_nil)
      (pss_cons (ps_set (i := 6) sc_law_put_anew.nd rfl (Or.inl rfl) (pe_cal (c_law_like T) (hr.mono (by decide)) rfl pass0 (pa_cons (pv 3) (pa_cons pe_int (pa_cons (pe_ix (r := rIxL K) ix_list (pv 1) (pe_op op_sub (pv 2) pe_int) (fun _ _ => rfl)) (pa_cons (pv 4) pa_nil))))))
      (pss_cons (ps_set (i := 7) sc_law_put_anew.nd rfl (Or.inl rfl) (pe_op op_cat (pe_slice sl_list (pv 1) po_none (po_some (pv 2))) (pe_op op_rep (pe_lst (pa_cons (pe_cal (c_law_once T) (hr.mono (by decide)) rfl pass0 (pa_cons (pv 6) pa_nil)) pa_nil)) (pe_callTy call_int1' (by rfl) (fr_int T) (by decide +kernel) (pa_cons (pe_calM (pv 0) (cl_Log T) (m_do T) (hr.mono (by decide)) pass0 (pa_cons (pe_cal (c_law_made T) (hr.mono (by decide)) rfl pass0 (pa_cons (pv 6) (pa_cons pe_int pa_nil))) pa_nil)) pa_nil)))))
      (pss_cons (ps_if (pt_cmpR op_eq (pe_callB (r := rLenS K) call_lenS (by rfl) (fr_len T) PySem.boot_len (pa_cons (pv 7) pa_nil)) (pv 2) (nomark _)) (pss_one (ps_ret (pe_cmpR (r := rEqD K) (op_eqD hr.units) (pe_ix (r := rIxL K) ix_list (pv 7) (pe_un un_neg pe_int) (fun _ _ => rfl)) (pe_cal (c_law_once T) (hr.mono (by decide)) rfl pass0 (pa_cons (pv 6) pa_nil)) (nomark _)))) pss_nil)
      (pss_cons (ps_if (pt_not (pt_val (pe_cal (c_law_is_patch T) (hr.mono (by decide)) rfl pass0 (pa_cons (pe_cal (c_law_tried T) (hr.mono (by decide)) rfl pass0 (pa_cons (pv 0) (pa_cons pe_int (pa_cons pe_int (pa_cons (pv 2) pa_nil))))) (pa_cons (pe_lst (pa_cons (pe_ix (r := rIxL K) ix_list (pv 7) pe_int (fun _ _ => rfl)) (pa_cons (pe_ix (r := rIxL K) ix_list (pv 7) (pv 2) (fun _ _ => rfl)) pa_nil))) pa_nil))))) (pss_one (ps_ret pe_bl)) pss_nil)
      (pss_cons (ps_if (pt_not (pt_val (pe_cal (c_law_is_patch T) (hr.mono (by decide)) rfl pass0 (pa_cons (pe_cal (c_law_tried T) (hr.mono (by decide)) rfl pass0 (pa_cons (pv 0) (pa_cons pe_int (pa_cons (pv 2) (pa_cons pe_int pa_nil))))) (pa_cons (pe_lst (pa_cons (pe_ix (r := rIxL K) ix_list (pv 7) (pv 2) (fun _ _ => rfl)) (pa_cons (pe_ix (r := rIxL K) ix_list (pv 7) pe_int (fun _ _ => rfl)) pa_nil))) pa_nil))))) (pss_one (ps_ret pe_bl)) pss_nil)
      (pss_one (ps_ret (pe_and (pe_cal (c_law_whens T) (hr.mono (by decide)) rfl pass0 (pa_cons (pv 0) (pa_cons (pv 7) (pa_cons (pv 5) pa_nil)))) (pe_one (pe_cal (c_law_whens T) (hr.mono (by decide)) rfl pass0 (pa_cons (pv 0) (pa_cons (pv 7) (pa_cons (pe_op op_add (pv 5) pe_int) pa_nil))))))))))))))), ?_⟩
  refine by_runM (p := p) (ds := [.log p Vs n, dVs Vs, di (n : Int), .scr ns, di b]) (Rt := fun d _ => d = db true) i (Nat.le_of_ble_eq_true rfl) ?_ (fun d v S' σ' H' hd s e iv => q v H' s (by rw [← hd]; exact iv))
  have hok6 : ∀ F ∈ Vs, okVer b 66 F := fun F hF => (hok F hF).mono (by decide)
  obtain ⟨A0, hA0⟩ : ∃ A, Vs[0]? = some A := ⟨_, List.getElem?_eq_getElem (by omega)⟩
  obtain ⟨J, hJ⟩ : ∃ A, Vs[n]? = some A := ⟨_, List.getElem?_eq_getElem hn⟩
  have p0 := ver_pair (hok6 _ (List.mem_of_getElem? hA0)) (hok6 _ (List.mem_of_getElem? hJ))
  refine runm_seq (runm_asg (d := di (b + cellZ ns 7 % 9 - 4)) (evd_op (evd_op (evd_var rfl) (evd_op (evd_call (evl_cons (evd_var rfl) (evl_cons evd_c evl_nil)) (sd_D (ns, 7) hns)) evd_c (d2_I (by decide))) d2_I0) evd_c d2_I0) ?_)
  generalize b + cellZ ns 7 % 9 - 4 = pl
  refine runm_seq (runm_ifM (i := 0) (b := !(!decide ((n : Int) = 0))) rfl (nlX_of (by simp only [List.all_cons, List.all_nil, List.map_cons, List.map_nil, List.set, nlo_v, nlo_lst, nlo_scr, nlo_none, Bool.and_self, List.cons_append, List.nil_append, List.replicate, List.length_cons, List.length_nil])) (evmb_or (evb_nt (evd_call (evl_cons (evd_call (evl_cons (evd_var rfl) (evl_cons evd_c (evl_cons evd_c (evl_cons (evd_var rfl) evl_nil)))) (sdPat hn ⟨_, rfl⟩ ⟨_, rfl⟩ (verO_nat (k := 0) hA0) (verO_nat hJ) p0.pair p0.too)) (evl_cons (evd_lst (evl_cons (evd_op (evd_var rfl) evd_c (d2_ixL (k := 0) (dVs_get hA0) rfl)) (evl_cons (evd_op (evd_var rfl) (evd_var rfl) (d2_ixL (k := n) (dVs_get hJ) rfl)) evl_nil)) (Nat.le_of_ble_eq_true rfl)) evl_nil)) (sdIsPatF p0.pair p0.too))) (evmb_not (evmb_test (evm_back (Vs := Vs) (n := n) rfl)))) (fun hb => ?_) (fun hb => runm_next ?_))
  · rw [Bool.not_not, decide_eq_true_eq] at hb
    exact runm_ret (evd_op (evd_var rfl) evd_c d2_eqI) (by rw [decide_eq_true hb])
  · rw [Bool.not_not, decide_eq_false_iff_not] at hb
    obtain ⟨B, hB⟩ : ∃ A, Vs[n - 1]? = some A := ⟨_, List.getElem?_eq_getElem (by omega)⟩
    have oB := hok _ (List.mem_of_getElem? hB)
    refine runm_seq (runm_asgE (eve_like (k := 65) (evl_cons (evd_var rfl) (evl_cons evd_c (evl_cons (evd_op (evd_var rfl) (evd_op (evd_var rfl) evd_c d2_I0) (d2_ixL (k := n - 1) (dVs_get hB) (by omega))) (evl_cons (evd_var rfl) evl_nil)))) hns oB (by decide)) (fun d hd => ?_))
    obtain ⟨G, rfl, hG⟩ := hd
    have oG : okVer b 66 (plf G.at) := hG.ver
    have fG : Fm.Fit G := hG.fit (by decide)
    have eOnce : ∀ {S : Sl} {k : Nat}, S[k]? = some (some (dL G)) → EvD (tx K) (tCall (spOnce K) [] E0 (tCons (tVar k) tNil)) S (dF (plf G.at)) := fun h => evd_call (evl_cons (evd_var h) evl_nil) (sd_D ((true, true, true), G) fG)
    have eSl : EvD (tx K) (tSl (rSlL K) (tVar 1) tNoPart (tPart (tVar 2))) [some (.log p Vs (n - 1)), some (dVs Vs), some (di (n : Int)), some (.scr ns), some (di b), some (di pl), some (dL G), none] (dVs (Vs.take n)) := evd_is (evd_slL (evd_var rfl) evo_no (evo_some (evd_var rfl))) (by rw [cut_take (k := n) (by rw [List.length_map]; omega) rfl, ← List.map_take])
    have eDo := evm_do (K := K) (E := E0) (S := [some (.log p Vs (n - 1)), some (dVs Vs), some (di (n : Int)), some (.scr ns), some (di b), some (di pl), some (dL G), none]) (i := 0) (p := p) (Vs := Vs) (n := n - 1) (te := tCall (spMade K) [] E0 (tCons (tVar 6) (tCons (tC (.int 0)) tNil))) rfl (evd_call (evl_cons (evd_var rfl) (evl_cons evd_c evl_nil)) (sd_D ((true, true, true), G, 0) fG)) fG (by omega) (by omega)
    have nl8 : NlX [some (.log p Vs (n - 1)), some (dVs Vs), some (di (n : Int)), some (.scr ns), some (di b), some (di pl), some (dL G), none] 0 := nlX_of (by simp only [List.all_cons, List.all_nil, List.set, nlo_v, nlo_lst, nlo_scr, nlo_none, nlo_tF, Bool.and_self])
    show RunM (tx K) p _ [some (.log p Vs (n - 1)), some (dVs Vs), some (di (n : Int)), some (.scr ns), some (di b), some (di pl), some (dL G), none] _ _
    generalize plf G.at = G' at oG eOnce eDo
    by_cases hc : Vs[n - 1]? = some G'
    · obtain ⟨c1, c2, c3⟩ := doV_same hc
      have eBG : B = G' := by rw [hB] at hc; exact Option.some.inj hc
      rw [c1, c2, c3] at eDo
      refine runm_seq (runm_asgM (i := 0) (j := 7) (d := dVs (Vs.take n)) rfl nl8 (evm_is (evm_op (i := 0) rfl eSl (lst_nl _) (evm_op (i := 0) rfl (evd_lst (evl_cons (eOnce rfl) evl_nil) (Nat.le_of_ble_eq_true rfl)) (lst_nl [G']) (evm_cb1 eDo dc_intB) (d2_repL (by decide) (by decide) (Nat.le_of_ble_eq_true rfl))) (d2_cat (by rw [List.length_map, List.length_take]; show _ + 0 ≤ _; omega))) (by show De.lst (_ ++ []) = _; rw [List.append_nil]) rfl rfl) ?_)
      refine runm_seq (runm_if (b := true) (evb_is (evb_test (evd_op (evd_is (evd_cb (evl_cons (evd_var rfl) evl_nil) dc_lenL) (show _ = di (n : Int) by rw [List.length_map, List.length_take, Nat.min_eq_left (by omega)])) (evd_var rfl) d2_eqI)) (decide_eq_true rfl)) (fun _ => ?_) (fun h => by cases h))
      refine runm_ret (evd_op (evd_op (evd_var rfl) (evd_un evd_c d1_neg) (d2_ixLast (k := n - 1) (dVs_get (F := B) (by rw [List.getElem?_take, if_pos (by omega)]; exact hB)) (by rw [List.length_map, List.length_take]; omega))) (eOnce rfl) d2_eqF) (by rw [decide_eq_true eBG])
    · obtain ⟨c1, c2, c3⟩ := doV_new hc
      rw [show n - 1 + 1 = n by omega] at c1 c2
      rw [c1, c2, c3] at eDo
      refine runm_seq (runm_asgM (i := 0) (j := 7) (d := dVs (Vs.take n ++ [G'])) rfl nl8 (evm_is (evm_op (i := 0) rfl eSl (lst_nl _) (evm_op (i := 0) rfl (evd_lst (evl_cons (eOnce rfl) evl_nil) (Nat.le_of_ble_eq_true rfl)) (lst_nl [G']) (evm_cb1 eDo dc_intB) (d2_repL (by decide) (by decide) (Nat.le_of_ble_eq_true rfl))) (d2_cat (by rw [List.length_map, List.length_take]; show _ + 1 ≤ _; omega))) (by show De.lst (_ ++ [dF G']) = De.lst (List.map dF (_ ++ [G'])); rw [List.map_append]; rfl) rfl rfl) ?_)
      have hl2 : (Vs.take n ++ [G']).length = n + 1 := by rw [List.length_append, List.length_take]; show min n Vs.length + 1 = n + 1; omega
      refine runm_seq (runm_if (b := false) (evb_is (evb_test (evd_op (evd_is (evd_cb (evl_cons (evd_var rfl) evl_nil) dc_lenL) (show _ = di ((n + 1 : Nat) : Int) by rw [List.length_map, hl2])) (evd_var rfl) d2_eqI)) (decide_eq_false (by omega))) (fun h => by cases h) (fun _ => runm_next ?_))
      have g0 : (Vs.take n ++ [G'])[0]? = some A0 := by rw [List.getElem?_append_left (by rw [List.length_take]; omega), List.getElem?_take, if_pos (by omega)]; exact hA0
      have gn : (Vs.take n ++ [G'])[n]? = some G' := by
        rw [List.getElem?_append_right (by rw [List.length_take]; omega), List.length_take, show n - min n Vs.length = 0 by omega]; rfl
      have hokW : ∀ F ∈ Vs.take n ++ [G'], okVer b 66 F := fun F hF => by
        rcases List.mem_append.mp hF with z | z
        · exact hok6 F (List.mem_of_mem_take z)
        · simp at z; rw [z]; exact oG
      show RunM (tx K) p _ [some (.log p (Vs.take n ++ [G']) n), some (dVs Vs), some (di (n : Int)), some (.scr ns), some (di b), some (di pl), some (dL G), some (dVs (Vs.take n ++ [G']))] _ _
      generalize Vs.take n ++ [G'] = Ws at hl2 g0 gn hokW
      have q1 := ver_pair (hokW _ (List.mem_of_getElem? g0)) (hokW _ (List.mem_of_getElem? gn))
      have q2 := ver_pair (hokW _ (List.mem_of_getElem? gn)) (hokW _ (List.mem_of_getElem? g0))
      have hnW : n < Ws.length := by omega
      have hokO : ∀ F ∈ Ws, F.Ok := fun F hF => (hokW F hF).pl.ok
      refine runm_seq (runm_if (b := false) (evb_nt (evd_call (evl_cons (evd_call (evl_cons (evd_var rfl) (evl_cons evd_c (evl_cons evd_c (evl_cons (evd_var rfl) evl_nil)))) (sdPat hnW ⟨_, rfl⟩ ⟨_, rfl⟩ (verO_nat (k := 0) g0) (verO_nat gn) q1.pair q1.too)) (evl_cons (evd_lst (evl_cons (evd_op (evd_var rfl) evd_c (d2_ixL (k := 0) (dVs_get g0) rfl)) (evl_cons (evd_op (evd_var rfl) (evd_var rfl) (d2_ixL (k := n) (dVs_get gn) rfl)) evl_nil)) (Nat.le_of_ble_eq_true rfl)) evl_nil)) (sdIsPatF q1.pair q1.too))) (fun h => by cases h) (fun _ => runm_next ?_))
      refine runm_seq (runm_if (b := false) (evb_nt (evd_call (evl_cons (evd_call (evl_cons (evd_var rfl) (evl_cons evd_c (evl_cons (evd_var rfl) (evl_cons evd_c evl_nil)))) (sdPat hnW ⟨_, rfl⟩ ⟨_, rfl⟩ (verO_nat gn) (verO_nat (k := 0) g0) q2.pair q2.too)) (evl_cons (evd_lst (evl_cons (evd_op (evd_var rfl) (evd_var rfl) (d2_ixL (k := n) (dVs_get gn) rfl)) (evl_cons (evd_op (evd_var rfl) evd_c (d2_ixL (k := 0) (dVs_get g0) rfl)) evl_nil)) (Nat.le_of_ble_eq_true rfl)) evl_nil)) (sdIsPatF q2.pair q2.too))) (fun h => by cases h) (fun _ => runm_next ?_))
      exact runm_ret (evd_and (evd_call (evl_cons (evd_var rfl) (evl_cons (evd_var rfl) (evl_cons (evd_var rfl) evl_nil))) (sd_D (p, Ws, n, pl) ⟨hnW, hokO, by show Ws.length ≤ 1000; omega⟩)) fun h => (evd_call (evl_cons (evd_var rfl) (evl_cons (evd_var rfl) (evl_cons (evd_op (evd_var rfl) evd_c d2_I0) evl_nil))) (sd_D (p, Ws, n, pl + 1) ⟨hnW, hokO, by show Ws.length ≤ 1000; omega⟩))) rfl
theorem c_law_great : Cal P w K mg base CX0 13 "_law_great" (spGreat K) := by
  obtain ⟨fd, F⟩ := fd_law_great T
  refine ⟨⟨fd, ["_law_script", "_law_base_here"], fn0 F sc_law_great (spD_len fun _ => rfl) (fun cdv A outer s H vs Q E hr h => ?_), gl_law_great T, F.kp, F.bindsN (fun _ _ _ _ _ _ us hl => match us, hl with | [_, _], _ => rfl)⟩⟩
  obtain ⟨⟨ns, b⟩, i, hns, q⟩ := h
  refine ⟨_, (pss_cons (ps_asg (pe_cal (c_law_far T) (hr.mono (by decide)) rfl pass0 (pa_cons (pe_cal (c_law_cell T) (hr.mono (by decide)) rfl pass0 (pa_cons (pv 0) (pa_cons pe_int pa_nil))) pa_nil)) (pg_tup rfl (pgs_cons (pg_name (i := 2) sc_law_great.nd rfl (Or.inl rfl)) (pgs_cons (pg_name (i := 3) sc_law_great.nd rfl (Or.inl rfl)) (pgs_cons (pg_name (i := 4) sc_law_great.nd rfl (Or.inl rfl)) pgs_nil)))))
      (pss_cons (ps_set (i := 5) sc_law_great.nd rfl (Or.inl rfl) (pe_lst (pa_cons (pe_cal (c_law_sized T) (hr.mono (by decide)) rfl pass0 (pa_cons (pv 2) (pa_cons (pv 1) (pa_cons (pe_op op_mod (pv 2) pe_int) pa_nil)))) (pa_cons (pe_cal (c_law_sized T) (hr.mono (by decide)) rfl pass0 (pa_cons (pv 3) (pa_cons (pe_op op_add (pv 1) pe_int) (pa_cons (pe_op op_mod (pv 2) pe_int) pa_nil)))) pa_nil))))
      (pss_cons (ps_set (i := 6) sc_law_great.nd rfl (Or.inl rfl) (pe_calK (k_Log T) (hr.mono (by decide)) rfl pass0 (pa_cons (pe_cal (c_law_made T) (hr.mono (by decide)) rfl pass0 (pa_cons (pe_ix (r := rIxL K) ix_list (pv 5) pe_int (fun _ _ => rfl)) (pa_cons pe_int pa_nil))) pa_nil)))
      (pss_cons (ps_if (pt_cmpR (r := rNeD K) (op_neD hr.units) (pe_cal (c_law_tried T) (hr.mono (by decide)) rfl pass0 (pa_cons (pv 6) (pa_cons pe_int (pa_cons (pv 1) (pa_cons pe_non pa_nil))))) (pe_lst pa_nil) (nomark _)) (pss_one (ps_ret pe_bl)) pss_nil)
      (pss_cons (ps_expr (pe_calM (pv 6) (cl_Log T) (m_do T) (hr.mono (by decide)) pass0 (pa_cons (pe_cal (c_law_made T) (hr.mono (by decide)) rfl pass0 (pa_cons (pe_ix (r := rIxL K) ix_list (pv 5) pe_int (fun _ _ => rfl)) (pa_cons pe_int pa_nil))) pa_nil)))
      (pss_cons (ps_if (pt_cmpR (r := rNeD K) (op_neD hr.units) (pe_cal (c_law_tried T) (hr.mono (by decide)) rfl pass0 (pa_cons (pv 6) (pa_cons pe_int (pa_cons (pv 1) (pa_cons pe_non pa_nil))))) (pe_op op_rep (pe_lst (pa_cons pe_int pa_nil)) (pe_callTy call_int1' (by rfl) (fr_int T) (by decide +kernel) (pa_cons (pe_cmpR op_ne (pe_cal (c_law_at T) (hr.mono (by decide)) rfl pass0 (pa_cons (pe_ix (r := rIxL K) ix_list (pv 5) pe_int (fun _ _ => rfl)) (pa_cons (pv 1) pa_nil))) (pe_cal (c_law_at T) (hr.mono (by decide)) rfl pass0 (pa_cons (pe_ix (r := rIxL K) ix_list (pv 5) pe_int (fun _ _ => rfl)) (pa_cons (pv 1) pa_nil))) (nomark _)) pa_nil))) (nomark _)) (pss_one (ps_ret pe_bl)) pss_nil)
      (pss_cons (ps_set (i := 7) sc_law_great.nd rfl (Or.inl rfl) (pe_cal (c_law_tried T) (hr.mono (by decide)) rfl pass0 (pa_cons (pv 6) (pa_cons pe_int (pa_cons pe_int (pa_cons pe_int pa_nil))))))
      (pss_one (ps_ret (pe_ifExp (pt_val (pv 4)) (pe_cal (c_law_is_patch T) (hr.mono (by decide)) rfl pass0 (pa_cons (pv 7) (pa_cons (pv 5) pa_nil))) (pe_cmpR (r := rEqD K) (op_eqD hr.units) (pv 7) pe_str (nomark _)))))))))))), ?_⟩
  refine by_run (ds := [.scr ns, di b]) (d := db true) i (Nat.le_of_ble_eq_true rfl) ?_ q
  refine run_seq (run_unT (is := [2, 3, 4]) (evd_call (evl_cons (evd_call (evl_cons (evd_var rfl) (evl_cons evd_c evl_nil)) (sd_D (ns, 1) hns)) evl_nil) (sd_D (cellZ ns 1) trivial)) rfl rfl ?_)
  have hx := farZ_ok (cellZ ns 1)
  show Run (tx K) _ [some (.scr ns), some (di b), some (di ((farZ (cellZ ns 1)).1 : Int)), some (di ((farZ (cellZ ns 1)).2.1 : Int)), some (db (farZ (cellZ ns 1)).2.2), none, none, none] _ _
  generalize farZ (cellZ ns 1) = x at hx
  obtain ⟨m, m', may⟩ := x
  have hx0 := hx
  unfold farOk at hx0
  simp only [Bool.and_eq_true, decide_eq_true_eq] at hx0
  obtain ⟨⟨⟨⟨⟨a1, a2⟩, a3⟩, a4⟩, _⟩, _⟩ := hx0
  have hs : (m : Int) % 2 = ((m % 2 : Nat) : Int) := by omega
  obtain ⟨pr, pt⟩ := great_pair (b := b) hx hs
  have hs2 : (m : Int) % 2 = 0 ∨ (m : Int) % 2 = 1 := by omega
  dsimp only
  have e1f := siz_f m b ((m : Int) % 2)
  have e2f := siz_f m' (b + 3) ((m : Int) % 2)
  refine run_seq (run_asg (evd_lst (evl_cons (evd_call (evl_cons (evd_var rfl) (evl_cons (evd_var rfl) (evl_cons (evd_op (evd_var rfl) evd_c (d2_I (by decide))) evl_nil))) (sd_D (m, b, (m : Int) % 2) ⟨a1, a3⟩)) (evl_cons (evd_call (evl_cons (evd_var rfl) (evl_cons (evd_op (evd_var rfl) evd_c d2_I0) (evl_cons (evd_op (evd_var rfl) evd_c (d2_I (by decide))) evl_nil))) (sd_D (m', b + 3, (m : Int) % 2) ⟨a2, a4⟩)) evl_nil)) (Nat.le_of_ble_eq_true rfl)) ?_)
  show Run (tx K) _ [some (.scr ns), some (di b), some (di (m : Int)), some (di (m' : Int)), some (db may), some (.lst [dL (sizF m b ((m : Int) % 2)), dL (sizF m' (b + 3) ((m : Int) % 2))]), none, none] _ _
  generalize sizF m b ((m : Int) % 2) = F0 at pr pt e1f
  generalize sizF m' (b + 3) ((m : Int) % 2) = F1 at pr pt e2f
  have f0 := pr.1.2
  have f1 := pr.2.1.2
  refine run_mkLog (evl_cons (evd_call (evl_cons (evd_op (evd_var rfl) evd_c (d2_ixL (k := 0) rfl rfl)) (evl_cons evd_c evl_nil)) (sd_D ((true, true, true), F0, 0) f0)) evl_nil) f0 (fun x => ?_)
  rw [pr.1.1.plf]
  have hok0 : ∀ F ∈ [F0], F.Ok := fun F hF => by simp at hF; rw [hF]; exact f0.ok
  have hok1 : ∀ F ∈ [F0, F1], F.Ok := fun F hF => by simp at hF; rcases hF with rfl | rfl; exact f0.ok; exact f1.ok
  refine runm_seq (runm_if (b := false) (evb_is (evb_test (evd_op (evd_call (evl_cons (evd_var rfl) (evl_cons evd_c (evl_cons (evd_var rfl) (evl_cons evd_c evl_nil)))) (sdWhen (n := 0) (Nat.lt_succ_self 0) hok0 (Nat.le_of_ble_eq_true rfl))) (evd_lst evl_nil (Nat.le_of_ble_eq_true rfl)) (d2_neIs (ys := [])))) (by rw [decide_eq_true (show whO [F0] b = [] from rfl)]; rfl)) (fun h => by cases h) (fun _ => runm_next ?_))
  have hne : ¬ [F0][0]? = some (plf F1.at) := fun z => by
    rw [pr.2.1.1.plf] at z
    have : F0 = F1 := Option.some.inj z
    rw [this, e2f] at e1f
    omega
  obtain ⟨c1, c2, c3⟩ := doV_new hne
  rw [pr.2.1.1.plf] at c1 c2 c3
  have c1 : doV [F0] 0 F1 = [F0, F1] := c1
  have c2 : doN [F0] 0 F1 = 1 := c2
  have eDo := evm_do (K := K) (E := E0) (S := [some (.scr ns), some (di b), some (di (m : Int)), some (di (m' : Int)), some (db may), some (.lst [dL F0, dL F1]), some (.log x [F0] 0), none]) (i := 6) (p := x) (Vs := [F0]) (n := 0) (te := tCall (spMade K) [] E0 (tCons (tOp (rIxL K) (tVar 5) (tC (.int 1))) (tCons (tC (.int 1)) tNil))) rfl (evd_call (evl_cons (evd_op (evd_var rfl) evd_c (d2_ixL (k := 1) rfl rfl)) (evl_cons evd_c evl_nil)) (sd_D ((true, true, true), F1, 1) f1)) f1 (Nat.lt_succ_self 0) (Nat.le_of_ble_eq_true rfl)
  rw [pr.2.1.1.plf, c1, c2, c3] at eDo
  have nl2 : nlo (some (.lst [dL F0, dL F1])) = true := by
    show (De.lst [dL F0, dL F1]).nl = true
    rw [De.nl]
    exact nls_of fun d hd => by simp at hd; rcases hd with rfl | rfl <;> exact tF_nl _ _
  refine runm_seq (runm_dropM (i := 6) rfl (nlX_of (by simp only [List.all_cons, List.all_nil, List.set, nlo_v, nl2, nlo_scr, nlo_none, Bool.and_self])) eDo ?_)
  have ew : whO [F0, F1] b = if F1.at b = F0.at b then [] else [1] := by
    unfold whO
    show List.map _ (List.filter _ [0]) = _
    by_cases z : F1.at b = F0.at b
    · rw [if_pos z, List.filter_cons_of_neg (by simp [z])]; rfl
    · rw [if_neg z, List.filter_cons_of_pos (by simp [z])]; rfl
  have eat : ∀ (k : Nat) (F : Fm), [F0, F1][k]? = some F → F.Ok → ∀ (kk : Int), kk = (k : Int) → EvD (tx K) (tCall (spAt K) [] E0 (tCons (tOp (rIxL K) (tVar 5) (tC (.int kk))) (tCons (tVar 1) tNil))) [some (.scr ns), some (di b), some (di (m : Int)), some (di (m' : Int)), some (db may), some (.lst [dL F0, dL F1]), some (.log x [F0, F1] 1), none] (dc (F.at b)) := fun k F h ok kk hkk =>
    evd_call (evl_cons (evd_op (evd_var rfl) evd_c (d2_ixL (k := k) (d := dL F) (by
      match k, h with
      | 0, h => cases h; rfl
      | 1, h => cases h; rfl) hkk)) (evl_cons (evd_var rfl) evl_nil)) (sd_D ((true, true, true), F, b) ok)
  have hn1 : 1 < [F0, F1].length := Nat.lt_succ_self 1
  refine runm_seq (runm_if (b := false) (evb_is (evb_test (evd_op (evd_call (evl_cons (evd_var rfl) (evl_cons evd_c (evl_cons (evd_var rfl) (evl_cons evd_c evl_nil)))) (sdWhen (n := 1) hn1 hok1 (Nat.le_of_ble_eq_true rfl))) (evd_is (evd_op (evd_lst (evl_cons evd_c evl_nil) (Nat.le_of_ble_eq_true rfl)) (evd_cb (evl_cons (evd_op (eat 0 F0 rfl f0.ok 0 rfl) (eat 1 F1 rfl f1.ok 1 rfl) d2_neC) evl_nil) dc_intB) (d2_repL (by split <;> decide) (by split <;> decide) (by show 1 * _ ≤ _; split <;> decide))) (show _ = De.lst ((whO [F0, F1] b).map di) by
    rw [ew]
    by_cases z : F1.at b = F0.at b
    · rw [if_pos z, decide_eq_true z.symm]; rfl
    · rw [if_neg z, decide_eq_false (fun y => z y.symm)]; rfl)) d2_neIs)) (by rw [decide_eq_true rfl]; rfl)) (fun h => by cases h) (fun _ => runm_next ?_))
  have v0 : verO [F0, F1] 1 (di 0) = some F0 := verO_nat (k := 0) rfl
  have v1 : verO [F0, F1] 1 (di 1) = some F1 := verO_nat (k := 1) rfl
  refine runm_seq (runm_asg (evd_call (evl_cons (evd_var rfl) (evl_cons evd_c (evl_cons evd_c (evl_cons evd_c evl_nil)))) (sdBetween hn1 ⟨_, rfl⟩ ⟨_, rfl⟩ fun F' G' a b => by rw [v0] at a; rw [v1] at b; cases a; cases b; exact pr)) ?_)
  cases may with
  | true =>
    rw [trD_pat v0 v1 pt]
    exact runm_ret (evd_if (evb_test (evd_var rfl)) (fun _ => evd_call (evl_cons (evd_var rfl) (evl_cons (evd_var rfl) evl_nil)) (sdIsPat pr pt)) (fun h => by cases h)) rfl
  | false =>
    rw [trD_many v0 v1 pt]
    exact runm_ret (evd_if (evb_test (evd_var rfl)) (fun h => by cases h) (fun _ => evd_op (evd_var rfl) evd_c (d2_eqS (by decide +kernel)))) rfl
end
end Fx

/-! FwC9: the law's own def. -/
namespace Fx
open PySem PySem.Spec PyProof.Rows L2 Fw
section
variable {T : Tx} {S : Sl} {ts tu : TS} {te : TE} {tt : TT} {d : De} {Nx : Sl → Prop} {Rt : De → Prop} {p : Addr}
/-- a block, whatever it does to the heap -/
def RunF (T : Tx) (ts : TS) (S : Sl) (Nx : Sl → Prop) (Rt : De → Prop) : Prop := ∀ (D : Ends) σ H, Env T H σ S → (∀ S' σ' H', Nx S' → Env T H' σ' S' → D.nx σ' H') → (∀ d v H', Rt d → Is T H' d v → D.rt v H') → ts D σ H
theorem runf_run (h : Run T ts S Nx Rt) : RunF T ts S Nx Rt := fun D σ H e n r => h D σ H e (fun S' σ' H' a _ c => n S' σ' H' a c) fun d v H' a _ c => r d v H' a c
theorem runf_m (h : RunM T p ts S Nx (fun d _ => Rt d)) : RunF T ts S Nx Rt := fun D σ H e n r => h D σ H e (fun S' σ' H' a _ c => n S' σ' H' a c) fun d v S' σ' H' a _ _ c => r d v H' a c
theorem runf_seq (h : RunF T ts S (fun S' => RunF T tu S' Nx Rt) Rt) : RunF T (tSeq ts tu) S Nx Rt := fun D σ H e n r =>
  h _ σ H e (fun S' σ' H' k e' => k D σ' H' e' n r) r
theorem runf_less {S' : Sl} (h : RunF T ts S' Nx Rt) (k : ∀ H σ, Env T H σ S → Env T H σ S') : RunF T ts S Nx Rt := fun D σ H e n r => h D σ H (k H σ e) n r
theorem runf_asgE {i : Nat} {Pd : De → Prop} (h : EvE T te S Pd) (k : ∀ d, Pd d → Nx (S.set i (some d))) : RunF T (tAsg te (gName i)) S Nx Rt := fun D σ H e n r =>
  h σ H e _ fun d v H1 hd e1 i1 => n _ _ H1 (k d hd) ((e.mono e1).set i1)
theorem runf_for1 {i : Nat} {hi : Int} {ta : TA} (Pk : Nat → Sl → Prop) (h : EvL T ta S [di hi]) (h0 : ∃ S0, Pk 0 S0 ∧ ∀ H σ, Env T H σ S → Env T H σ S0)
    (hs : ∀ k S', k < hi.toNat → Pk k S' → RunF T ts (S'.set i (some (di (k : Int)))) (fun S'' => ∃ S3, Pk (k + 1) S3 ∧ ∀ H σ, Env T H σ S'' → Env T H σ S3) Rt) (hn : ∀ S', Pk hi.toNat S' → Nx S') : RunF T (tFor (iAny1 ta) (gName i) ts) S Nx Rt := fun D σ H e n r => by
  refine raw_for1 h e (fun k σ' H' => ∃ S', Pk k S' ∧ Env T H' σ' S') (fun H' s => ?_) (fun k σ' H' hk P => ?_) (fun σ' H' P => ?_)
  · obtain ⟨S0, a, b⟩ := h0
    exact ⟨S0, a, b _ _ (e.mono s)⟩
  · obtain ⟨S', a, b⟩ := P
    have e2 := b.set (i := i) (d := di (k : Int)) (v := .int (0 + (k : Int))) (is_v.mpr (by rw [Int.zero_add]))
    exact hs k S' hk a _ _ H' e2 (fun S'' σ2 H2 ⟨S3, c1, c2⟩ e3 => ⟨S3, c1, c2 _ _ e3⟩) r
  · obtain ⟨S', a, b⟩ := P
    exact n S' σ' H' (hn S' a) b
theorem by_runF {N : List Str} {vs : List V} {H : Hp} {Q : VK} {ds : List De} (i : IsA T H ds vs) (hl : ds.length ≤ N.length) (h : RunF T ts (ds.map some ++ List.replicate (N.length - ds.length) none) (fun _ => False) (fun e => e = d)) (q : ∀ v H', Is T H' d v → Q v H') :
    ts { nx := fun _ H' => Q .non H', rt := Q } (L2.start N vs) H := by
  have e := env_start (T := T) (N.length - ds.length) i
  unfold L2.start
  rw [isA_len i]
  exact h _ _ H e (fun S' σ' H' a b => a.elim) (fun e v H' a c => q v H' (by rw [← a]; exact c))
end
section
variable {K : PySem.W.Frag} {S : Sl} {E : XK} {i : Nat}
theorem runf_mkLog {t : TA} {F : Fm} {rest : TS} {Nx : Sl → Prop} {Rt : De → Prop} (h : EvL (tx K) t S [.row F]) (ft : Fm.Fit F) (k : ∀ x, RunF (tx K) rest (S.set i (some (.log x [plf F.at] 0))) Nx Rt) : RunF (tx K) (tSeq (tAsg (tMake (He.ga K "Log") (spLog K) [] E t) (gName i)) rest) S Nx Rt := fun D σ H e nx r =>
  h σ H e _ fun vs H1 e1 i1 => fun x dx hx hdx hne => by
    have s1 : Same H1 (upd (upd H1 dx (.own x)) x (.ins (logA K) dx [])) := fun b o z => by
      rw [upd_ne (ne_of_none z hx), upd_ne (ne_of_none z hdx)]; exact z
    refine ⟨F, x, dx, isA_cons.mpr ⟨_, _, rfl, is_v.mpr rfl, by rw [List.append_nil]; exact i1.mono s1⟩, ft, upd_same, fun H' s' l => ⟨rfl, ?_⟩⟩
    have s2 : Same H H' := fun b o z => s' b o (fun y => by have := e1 _ _ z; rw [y, hx] at this; cases this) (s1 b o (e1 b o z))
    exact k x D _ H' ((e.mono s2).set (is_log.mpr ⟨rfl, l⟩)) nx r
end
/-! ### the list of versions grows -/
section
variable {T : Tx} {H : Hp} {D : Addr} {ws ys : List V} {Vs : List Fm}
theorem first_ref (hw : IsA T H (Vs.map dF) ws) (hne : Vs ≠ []) : ∃ q xs r, ws = .ref q :: r ∧ H q = some (.tup xs) := by
  cases Vs with
  | nil => exact absurd rfl hne
  | cons F Fs =>
    obtain ⟨v, r, rfl, h1, _⟩ := isA_cons.mp hw
    obtain ⟨q, xs, rfl, h2, _⟩ := is_tup.mp (show Is T H (.tup _) v from h1)
    exact ⟨q, xs, r, rfl, h2⟩
theorem scr_grow (hD : H D = some (.lst ws)) (hw : IsA T H (Vs.map dF) ws) (hne : Vs ≠ []) {ns : List Int} {v : V} (h : Is T H (.scr ns) v) : Is T (upd H D (.lst ys)) (.scr ns) v := by
  obtain ⟨a, rfl, h2⟩ := is_scr.mp h
  obtain ⟨q, xs, r, e1, e2⟩ := first_ref hw hne
  refine is_scr.mpr ⟨a, rfl, ?_⟩
  rcases h2 with (h2 | ⟨o, h2⟩) | h2
  · refine .inl (.inl ?_)
    rw [upd_ne (fun z => ?_)]
    · exact h2
    · rw [z, hD] at h2
      have := Option.some.inj h2
      injection this with this
      rw [e1] at this
      cases ns with
      | nil => cases this
      | cons n ns => cases this
  · refine .inl (.inr ⟨o, ?_⟩)
    rw [upd_ne (fun z => by rw [z, hD] at h2; cases h2)]
    exact h2
  · exact .inr h2
theorem rows_noL (hD : H D = some (.lst ws)) : ∀ {Fs : List Fm} {vs : List V}, RowsAt T H Fs vs → RowsAt T (upd H D (.lst ys)) Fs vs
  | [], vs, h => h
  | F :: Fs, vs, h => by
    obtain ⟨v, r, h1, h2, h3⟩ := h
    exact ⟨v, r, h1, row_noL hD h2, rows_noL hD h3⟩
theorem log_grow (hD : H D = some (.lst ws)) (hw : IsA T H (Vs.map dF) ws) (hne : Vs ≠ []) {p : Addr} {Ws : List Fm} {n : Nat} (hW : Ws ≠ []) (h : LogAt T H p Ws n) : LogAt T (upd H D (.lst ys)) p Ws n := by
  obtain ⟨dx, a, vs, h1, h2, h3⟩ := h
  obtain ⟨q, xs, r, e1, e2⟩ := first_ref hw hne
  refine ⟨dx, a, vs, ?_, ?_, rows_noL hD h3⟩
  · rw [upd_ne (fun z => by rw [z, hD] at h1; cases h1)]; exact h1
  · rw [upd_ne (fun z => ?_)]
    · exact h2
    · rw [z, hD] at h2
      have e3 := Option.some.inj h2
      injection e3 with e3
      cases Ws with
      | nil => exact hW rfl
      | cons F Fs =>
        obtain ⟨v, r', g1, g2, _⟩ := h3
        obtain ⟨q', dx', _, _, _, k0, k1, _⟩ := g2
        rw [g1, e1] at e3
        injection e3 with e4 _
        rw [k0] at e4
        injection e4 with e4
        rw [e4, k1] at e2
        cases e2
end
theorem env_sx0 {T : Tx} {H H' : Hp} {S : Sl} {σ : L2.St} {p : Addr} {Vs : List Fm} {n : Nat} (l : LogAt T H p Vs n) (e : Env T H σ S) (nl : S.all nlo = true) (s : Sx p H H') : Env T H' σ S := by
  obtain ⟨dx, a, vs, hp, _⟩ := l
  refine ⟨e.1, fun j d q => ?_⟩
  obtain ⟨v, h1, h2⟩ := e.2 j d q
  exact ⟨v, h1, is_sx hp s (List.all_eq_true.mp nl (some d) (List.mem_of_getElem? q)) h2⟩
theorem d2_neS {T : Tx} {s : Str} (h : PyData.strOk s = true) : D2 T (rNeD T.K) (.v (.str s)) (.v (.str s)) (db false) := by
  have := d2_neT (T := T) (a := .v (.str s)) (b := .v (.str s)) (n := 0) (m := 0) (P := True) (by rw [De.fl]; exact h) (by rw [De.fl]; exact h) (by decide) (by decide) (by simp)
  simpa using this
section
variable {P : Program} {w : World} {K : PySem.W.Frag} {mg : Str → Option Value} {base : Heap} (T : Tt K mg)
def spLaw (K : PySem.W.Frag) : Sp := fun vs H Q _ => ∃ ns : List Int, IsA (tx K) H [.scr ns] vs ∧ ns.length ≤ 63 ∧ ∀ v H', Is (tx K) H' (db true) v → Q v H'
/-- the slots behind a step -/
abbrev lawS (ns : List Int) (b : Int) (x : Addr) (Vs : List Fm) (m : Nat) (o : Option De) : Sl := [some (.scr ns), some (di b), none, some (.log x Vs m), some (dVs Vs), none, o, none, none, none]
theorem nlX_law {ns : List Int} {b : Int} {x : Addr} {Vs : List Fm} {m : Nat} {o2 o5 o6 o7 : Option De} (h2 : nlo o2 = true) (h5 : nlo o5 = true) (h6 : nlo o6 = true) (h7 : nlo o7 = true) : NlX [some (.scr ns), some (di b), o2, some (.log x Vs m), some (dVs Vs), o5, o6, o7, none, none] 3 :=
  nlX_of (by simp only [List.all_cons, List.all_nil, List.set, nlo_v, nlo_lst, nlo_scr, nlo_none, h2, h5, h6, h7, Bool.and_self])
/-- one more version, if it is another one -/
theorem runf_grow {te te2 : TE} {ns : List Int} {b k : Int} {x : Addr} {Vs : List Fm} {G : Fm} {Nx : Sl → Prop} {Rt : De → Prop} (ft : Fm.Fit G) (hV : 1 ≤ Vs.length) (hz : Vs.length ≤ 1000)
    (h1 : EvD (tx K) te [some (.scr ns), some (di b), some (dL G), some (.log x Vs (Vs.length - 1)), some (dVs Vs), some (di k), none, none, none, none] (.row G))
    (h2 : ∀ o, EvD (tx K) te2 [some (.scr ns), some (di b), some (dL G), o, some (dVs Vs), some (di k), none, none, none, none] (dF (plf G.at)))
    (n1 : Nx (lawS ns b x Vs (Vs.length - 1) none)) (n2 : Nx (lawS ns b x (Vs ++ [plf G.at]) ((Vs ++ [plf G.at]).length - 1) none)) :
    RunF (tx K) (tIfS (tTest (tMeth (logA K) "do" (spDo K) [] E0 (tVar 3) (tCons te tNil))) (tDrop (tBM K "list" rAppend (tVar 4) (tCons te2 tNil))) tNext) [some (.scr ns), some (di b), some (dL G), some (.log x Vs (Vs.length - 1)), some (dVs Vs), some (di k), none, none, none, none] Nx Rt := fun D σ H e nx r => by
  have hn : Vs.length - 1 < Vs.length := by omega
  refine (evm_do (i := 3) (p := x) (Vs := Vs) (n := Vs.length - 1) rfl h1 ft hn hz) σ H e _ fun v H1 s1 l1 i1 => ?_
  have nl := nlX_law (ns := ns) (b := b) (x := x) (Vs := Vs) (m := Vs.length - 1) (o2 := some (dL G)) (o5 := some (di k)) (o6 := none) (o7 := none) (nlo_tF _ _) rfl rfl rfl
  refine ⟨doB Vs (Vs.length - 1) (plf G.at), is_v.mp i1, ?_⟩
  have e1 := env_sx (i := 3) e rfl nl s1 l1
  by_cases hc : Vs[Vs.length - 1]? = some (plf G.at)
  · obtain ⟨c1, c2, c3⟩ := doV_same hc
    rw [c3]
    dsimp only
    rw [if_neg Bool.false_ne_true]
    rw [c1, c2] at e1
    refine nx _ σ H1 n1 (env_less e1 rfl fun i hi => ?_)
    match i, hi with
    | 0, _ => exact .inr rfl
    | 1, _ => exact .inr rfl
    | 2, _ => exact .inl rfl
    | 3, _ => exact .inr rfl
    | 4, _ => exact .inr rfl
    | 5, _ => exact .inl rfl
    | 6, _ => exact .inl rfl
    | 7, _ => exact .inl rfl
    | 8, _ => exact .inl rfl
    | 9, _ => exact .inl rfl
  · obtain ⟨c1, c2, c3⟩ := doV_new hc
    rw [c3]
    dsimp only
    rw [if_pos rfl]
    have hV2 : Vs.take (Vs.length - 1 + 1) ++ [plf G.at] = Vs ++ [plf G.at] := by rw [show Vs.length - 1 + 1 = Vs.length by omega, List.take_length]
    rw [c1, c2, hV2] at e1
    have e1 : Env (tx K) H1 σ [some (.scr ns), some (di b), some (dL G), some (.log x (Vs ++ [plf G.at]) (Vs.length - 1 + 1)), some (dVs Vs), some (di k), none, none, none, none] := e1
    obtain ⟨v4, g4, g4'⟩ := e1.2 4 _ rfl
    obtain ⟨Dv, ws, rfl, d1, d2⟩ := is_lst.mp g4'
    refine ⟨_, g4, .inl ⟨rfl, _, SqL.of d1⟩, ?_⟩
    refine h2 _ σ H1 e1 _ fun y H2 s2 i2 => ?_
    have hne : Vs ≠ [] := fun z => by rw [z] at hV; simp at hV
    have d1' := s2 _ _ d1
    have d2' := d2.mono s2
    refine ⟨Dv, ws, y, rfl, rfl, d1', by rw [isA_len d2, List.length_map, sizeLine_eq]; omega, ?_⟩
    have e2 := e1.mono s2
    refine nx _ σ _ n2 ⟨e1.1, fun i d q => ?_⟩
    match i, q with
    | 0, q =>
      cases q
      obtain ⟨v, a1, a2⟩ := e2.2 0 _ rfl
      exact ⟨v, a1, scr_grow d1' d2' hne a2⟩
    | 1, q =>
      cases q
      obtain ⟨v, a1, a2⟩ := e2.2 1 _ rfl
      exact ⟨v, a1, is_v.mpr (is_v.mp a2)⟩
    | 2, q => cases q
    | 5, q => cases q
    | 6, q => cases q
    | 7, q => cases q
    | 8, q => cases q
    | 9, q => cases q
    | i + 10, q => simp at q
    | 3, q =>
      cases q
      obtain ⟨v, a1, a2⟩ := e2.2 3 _ rfl
      obtain ⟨b1, b2⟩ := is_log.mp a2
      refine ⟨v, a1, is_log.mpr ⟨b1, ?_⟩⟩
      have := log_grow (ys := ws ++ [y]) d1' d2' hne (by simp) b2
      rw [show (Vs ++ [plf G.at]).length - 1 = Vs.length - 1 + 1 by rw [List.length_append]; show Vs.length + 1 - 1 = _; omega]
      exact this
    | 4, q =>
      cases q
      refine ⟨_, g4, is_lst.mpr ⟨Dv, ws ++ [y], rfl, upd_same, ?_⟩⟩
      rw [List.map_append]
      exact isA_noL d1' (noLs_of fun d hd => by
        rcases List.mem_append.mp hd with z | z
        · obtain ⟨F, _, rfl⟩ := List.mem_map.mp z
          exact dF_noL F
        · simp at z; rw [z]; exact dF_noL _) (isA_snoc d2' i2)
include T
theorem f_law : ∃ fd : FuncData, (∀ (s : Shared) (v : Value), BindsTo s fd ⟨[v], []⟩ [("_law_script", v)]) ∧ ∀ base : Heap, FnOk P w K mg base CX0 15 (He.ga K "law") fd ["_law_script"] (spLaw K) := by
  obtain ⟨fd, F⟩ := fd_law T
  have bb := FunD.bindsA (ps := ["_law_script"]) F fun _ _ _ _ _ _ us hl => match us, hl with | [_], _ => rfl
  refine ⟨fd, fun s v => bb s [v] rfl, fun base => fn0 F sc_law (fun vs H Q E h => by obtain ⟨ns, i, _⟩ := h; rw [isA_len i]; rfl) (fun cdv A outer s H vs Q E hr h => ?_)⟩
  obtain ⟨ns, i, hns, q⟩ := h
  refine ⟨_, (pss_cons (ps_set (i := 1) sc_law.nd rfl (Or.inl rfl) (pe_cal (c_law_base T) (hr.mono (by decide)) rfl pass0 (pa_cons (pv 0) pa_nil)))
      (pss_cons (ps_set (i := 2) sc_law.nd rfl (Or.inl rfl) (pe_cal (c_law_row T) (hr.mono (by decide)) rfl pass0 (pa_cons (pv 0) (pa_cons pe_int (pa_cons (pv 1) pa_nil)))))
      (pss_cons (ps_set (i := 3) sc_law.nd rfl (Or.inl rfl) (pe_calK (k_Log T) (hr.mono (by decide)) rfl pass0 (pa_cons (pe_cal (c_law_made T) (hr.mono (by decide)) rfl pass0 (pa_cons (pv 2) (pa_cons pe_int pa_nil))) pa_nil)))
      (pss_cons (ps_set (i := 4) sc_law.nd rfl (Or.inl rfl) (pe_lst (pa_cons (pe_cal (c_law_once T) (hr.mono (by decide)) rfl pass0 (pa_cons (pv 2) pa_nil)) pa_nil)))
      (pss_cons (ps_for PassesOwn.never rfl (pi_any1 rfl (fr_range T) (pa_cons (pe_callB (call_max2' rfl) (by rfl) (fr_max T) (by decide +kernel) (pa_cons pe_int (pa_cons (pe_callB (call_min2' rfl) (by rfl) (fr_min T) (by decide +kernel) (pa_cons (pe_callB (r := rLenS K) call_lenS (by rfl) (fr_len T) PySem.boot_len (pa_cons (pv 0) pa_nil)) (pa_cons pe_int pa_nil))) pa_nil))) pa_nil)) (pg_name (i := 5) sc_law.nd rfl (Or.inl rfl)) (pss_cons (ps_set (i := 2) sc_law.nd rfl (Or.inl rfl) (pe_cal (c_law_like T) (hr.mono (by decide)) rfl pass0 (pa_cons (pv 0) (pa_cons (pe_op op_add pe_int (pe_op op_mul pe_int (pv 5))) (pa_cons (pe_ix (r := rIxL K) ix_list (pv 4) (pe_un un_neg pe_int) (fun _ _ => rfl)) (pa_cons (pv 1) pa_nil))))))
      (pss_one (ps_if (pt_val (pe_calM (pv 3) (cl_Log T) (m_do T) (hr.mono (by decide)) pass0 (pa_cons (pe_cal (c_law_made T) (hr.mono (by decide)) rfl pass0 (pa_cons (pv 2) (pa_cons (pv 5) pa_nil))) pa_nil))) (pss_one (ps_expr (pe_bm PySem.F.plainAttrs_list PySem.F.slot_list_append PySem.F.type_list_append mt_append (pv 4) (pa_cons (pe_cal (c_law_once T) (hr.mono (by decide)) rfl pass0 (pa_cons (pv 2) pa_nil)) pa_nil)))) pss_nil))))
      (pss_cons (ps_set (i := 6) sc_law.nd rfl (Or.inl rfl) (pe_op op_sub (pe_callB (r := rLenS K) call_lenS (by rfl) (fr_len T) PySem.boot_len (pa_cons (pv 4) pa_nil)) pe_int))
      (pss_cons (ps_for PassesOwn.never rfl (pi_any1 rfl (fr_range T) (pa_cons (pe_op op_mod (pe_cal (c_law_cell T) (hr.mono (by decide)) rfl pass0 (pa_cons (pv 0) (pa_cons pe_int pa_nil))) pe_int) pa_nil)) (pg_name (i := 5) sc_law.nd rfl (Or.inl rfl)) (pss_one (ps_set (i := 6) sc_law.nd rfl (Or.inl rfl) (pe_op op_sub (pv 6) (pe_callTy call_int1' (by rfl) (fr_int T) (by decide +kernel) (pa_cons (pe_calM0 (pv 3) (cl_Log T) (m_back T) (hr.mono (by decide)) pass0) pa_nil))))))
      (pss_cons (ps_for PassesOwn.never rfl (pi_any1 rfl (fr_range T) (pa_cons (pe_callB (call_max2' rfl) (by rfl) (fr_max T) (by decide +kernel) (pa_cons pe_int (pa_cons (pe_callB (call_min2' rfl) (by rfl) (fr_min T) (by decide +kernel) (pa_cons (pe_callB (r := rLenS K) call_lenS (by rfl) (fr_len T) PySem.boot_len (pa_cons (pv 0) pa_nil)) (pa_cons pe_int pa_nil))) pa_nil))) pa_nil)) (pg_name (i := 5) sc_law.nd rfl (Or.inl rfl)) (pss_cons (ps_set (i := 7) sc_law.nd rfl (Or.inl rfl) (pe_cal (c_law_cell T) (hr.mono (by decide)) rfl pass0 (pa_cons (pv 0) (pa_cons (pe_op op_add pe_int (pv 5)) pa_nil))))
      (pss_cons (ps_set (i := 8) sc_law.nd rfl (Or.inl rfl) (pe_ix (r := rIxL K) ix_list (pe_lst (pa_cons (pe_op op_add (pe_op op_sub (pv 1) pe_int) (pe_op op_mod (pe_op op_fdiv (pv 7) pe_int) pe_int)) (pa_cons (pe_op op_sub (pe_op op_mod (pe_op op_fdiv (pv 7) pe_int) pe_int) pe_int) (pa_cons (pe_op op_mul (pv 7) (pe_op op_pow pe_int pe_int)) (pa_cons (pe_op op_mul (pe_un un_neg (pv 7)) (pe_op op_pow pe_int pe_int)) pa_nil))))) (pe_op op_mod (pv 7) pe_int) (fun _ _ => rfl)))
      (pss_one (ps_if (PW.pt (pw_or (pt_not (pt_val (pe_cal (c_law_patches T) (hr.mono (by decide)) rfl pass0 (pa_cons (pv 3) (pa_cons (pv 4) (pa_cons (pv 6) (pa_cons (pe_op op_fdiv (pv 7) pe_int) pa_nil))))))) (pw_or1 (pt_not (pt_val (pe_cal (c_law_whens T) (hr.mono (by decide)) rfl pass0 (pa_cons (pv 3) (pa_cons (pv 4) (pa_cons (pv 8) pa_nil))))))))) (pss_one (ps_ret pe_bl)) pss_nil)))))
      (pss_cons (ps_for PassesOwn.never rfl (pi_tup (pe_tup (pa_cons pe_non (pa_cons pe_bl (pa_cons pe_str (pa_cons (pe_tup (pa_cons pe_int pa_nil)) (pa_cons (pe_lst (pa_cons pe_int pa_nil)) pa_nil))))))) (pg_name (i := 9) sc_law.nd rfl (Or.inl rfl)) (pss_one (ps_if (pt_cmpR (r := rNeD K) (op_neD hr.units) (pe_cal (c_law_tried T) (hr.mono (by decide)) rfl pass0 (pa_cons (pv 3) (pa_cons pe_int (pa_cons (pv 9) (pa_cons pe_non pa_nil))))) pe_str (nomark _)) (pss_one (ps_ret pe_bl)) pss_nil)))
      (pss_cons (ps_if (PW.pt (pw_or (pt_cmpR op_ne (pe_calM0 (pv 3) (cl_Log T) (m_how_many T) (hr.mono (by decide)) pass0) (pe_callB (r := rLenS K) call_lenS (by rfl) (fr_len T) PySem.boot_len (pa_cons (pv 4) pa_nil)) (nomark _)) (pw_or1 (pt_not (pt_val (pe_cal (c_law_put_anew T) (hr.mono (by decide)) rfl pass0 (pa_cons (pv 3) (pa_cons (pv 4) (pa_cons (pv 6) (pa_cons (pv 0) (pa_cons (pv 1) pa_nil))))))))))) (pss_one (ps_ret pe_bl)) pss_nil)
      (pss_one (ps_ret (pe_cal (c_law_great T) (hr.mono (by decide)) rfl pass0 (pa_cons (pv 0) (pa_cons (pv 1) pa_nil))))))))))))))), ?_⟩
  refine by_runF (ds := [.scr ns]) (d := db true) i (Nat.le_of_ble_eq_true rfl) ?_ q
  generalize hb : baseZ ns = b
  have lenS : ∀ {S : Sl}, S[0]? = some (some (.scr ns)) → EvD (tx K) (tCB (rLenS K) (tCons (tVar 0) tNil)) S (di (ns.length : Int)) := fun h => evd_cb (evl_cons (evd_var h) evl_nil) dc_lenS
  refine runf_seq (runf_run (run_ex (d' := di b) (evd_call (evl_cons (evd_var rfl) evl_nil) (sd_D ns hns)) (by rw [hb]) ?_))
  refine runf_seq (runf_run (run_ex (d' := dL (rowZ ns 10 b)) (evd_call (evl_cons (evd_var rfl) (evl_cons evd_c (evl_cons (evd_var rfl) evl_nil))) (sd_D (ns, 10, b) hns)) rfl ?_))
  have f0 := row_form ns 10 b (k := 1) (Nat.le_refl 1)
  have ft0 := f0.fit (by decide)
  have ov0 := f0.ver
  generalize rowZ ns 10 b = R0 at f0 ft0 ov0
  refine runf_mkLog (evl_cons (evd_call (evl_cons (evd_var rfl) (evl_cons evd_c evl_nil)) (sd_D ((true, true, true), R0, 0) ft0)) evl_nil) ft0 (fun x => ?_)
  refine runf_seq (runf_run (run_asg (evd_lst (evl_cons (evd_call (evl_cons (evd_var rfl) evl_nil) (sd_D ((true, true, true), R0) ft0)) evl_nil) (Nat.le_of_ble_eq_true rfl)) ?_))
  -- the changes
  refine runf_seq (runf_for1 (i := 5) (hi := max 4 (min (ns.length : Int) 63)) (fun k S => ∃ Vs, S = lawS ns b x Vs (Vs.length - 1) none ∧ 1 ≤ Vs.length ∧ Vs.length ≤ k + 1 ∧ ∀ F ∈ Vs, okVer b (k + 1) F) (evl_cons (evd_cb (evl_cons evd_c (evl_cons (evd_cb (evl_cons (lenS rfl) (evl_cons evd_c evl_nil)) dc_min2) evl_nil)) dc_max2) evl_nil) ⟨_, ⟨[plf R0.at], rfl, Nat.le_refl 1, Nat.le_refl 1, fun F hF => by simp at hF; rw [hF]; exact ov0⟩, fun H σ e => env_less e rfl fun i hi => ?_⟩ (fun k S' hk hS => ?_) (fun S' hS => ?_))
  · match i, hi with
    | 0, _ => exact .inr rfl
    | 1, _ => exact .inr rfl
    | 2, _ => exact .inl rfl
    | 3, _ => exact .inr rfl
    | 4, _ => exact .inr rfl
    | 5, _ => exact .inl rfl
    | 6, _ => exact .inl rfl
    | 7, _ => exact .inl rfl
    | 8, _ => exact .inl rfl
    | 9, _ => exact .inl rfl
  · obtain ⟨Vs, rfl, v1, v2, v3⟩ := hS
    obtain ⟨L, hL⟩ : ∃ A, Vs[Vs.length - 1]? = some A := ⟨_, List.getElem?_eq_getElem (by omega)⟩
    refine runf_seq (runf_asgE (eve_like (k := k + 1) (evl_cons (evd_var rfl) (evl_cons (evd_op evd_c (evd_op evd_c (evd_var rfl) (d2_I (.inl ⟨by decide, by decide⟩))) d2_I0) (evl_cons (evd_op (evd_var rfl) (evd_un evd_c d1_neg) (d2_ixLast (k := Vs.length - 1) (dVs_get hL) (by rw [List.length_map]; omega))) (evl_cons (evd_var rfl) evl_nil)))) hns (v3 L (List.mem_of_getElem? hL)) (by omega)) (fun d hd => ?_))
    obtain ⟨G, rfl, hG⟩ := hd
    have fG := hG.fit (by omega)
    have vG := hG.ver
    refine runf_grow (k := (k : Int)) fG v1 (by omega) (evd_call (evl_cons (evd_var rfl) (evl_cons (evd_var rfl) evl_nil)) (sd_D ((true, true, true), G, (k : Int)) fG)) (fun o => evd_call (evl_cons (evd_var rfl) evl_nil) (sd_D ((true, true, true), G) fG)) ⟨_, ⟨Vs, rfl, v1, by omega, fun F hF => (v3 F hF).mono (by omega)⟩, fun H σ e => e⟩ ⟨_, ⟨Vs ++ [plf G.at], rfl, ?_, ?_, fun F hF => ?_⟩, fun H σ e => e⟩
    · rw [List.length_append]; exact Nat.le_trans v1 (Nat.le_add_right _ _)
    · rw [List.length_append]; show Vs.length + 1 ≤ _; omega
    · rcases List.mem_append.mp hF with z | z
      · exact (v3 F z).mono (by omega)
      · simp at z; rw [z]; exact vG
  · obtain ⟨Vs, rfl, v1, v2, v3⟩ := hS
    have v2 : Vs.length ≤ 64 := by omega
    have v3 : ∀ F ∈ Vs, okVer b 65 F := fun F hF => (v3 F hF).mono (by omega)
    have vOk : ∀ F ∈ Vs, F.Ok := fun F hF => (v3 F hF).pl.ok
    have lenV : ∀ {S : Sl}, S[4]? = some (some (dVs Vs)) → EvD (tx K) (tCB (rLenS K) (tCons (tVar 4) tNil)) S (di (Vs.length : Int)) := fun h => evd_is (evd_cb (evl_cons (evd_var h) evl_nil) dc_lenL) (by rw [List.length_map])
    refine runf_seq (runf_run (run_ex (d' := di ((Vs.length - 1 : Nat) : Int)) (evd_op (lenV rfl) evd_c d2_I0) (by rw [show (Vs.length : Int) - 1 = ((Vs.length - 1 : Nat) : Int) by omega]) ?_))
    -- steps back
    refine runf_seq (runf_for1 (i := 5) (hi := cellZ ns 5 % 4) (fun k S => ∃ m, m < Vs.length ∧ S = lawS ns b x Vs m (some (di (m : Int)))) (evl_cons (evd_op (evd_call (evl_cons (evd_var rfl) (evl_cons evd_c evl_nil)) (sd_D (ns, 5) hns)) evd_c (d2_I (by decide))) evl_nil) ⟨_, ⟨Vs.length - 1, by omega, rfl⟩, fun H σ e => e⟩ (fun k S' hk hS => ?_) (fun S' hS => ?_))
    · obtain ⟨m, hm, rfl⟩ := hS
      refine runf_m (p := x) (runm_asgM (i := 3) (j := 6) (d := di ((m - 1 : Nat) : Int)) rfl (nlX_law rfl rfl rfl rfl) (evm_is (evm_op (i := 3) rfl (evd_var (k := 6) rfl) rfl (evm_cb1 (evm_back (i := 3) rfl) dc_intB) d2_I0) (by
        show di ((m : Int) - (if (!decide ((m : Int) = 0)) = true then 1 else 0)) = _
        by_cases z : (m : Int) = 0
        · rw [decide_eq_true z]; show di ((m : Int) - 0) = _; congr 2; omega
        · rw [decide_eq_false z]; show di ((m : Int) - 1) = _; congr 2; omega) rfl rfl) ⟨_, ⟨m - 1, by omega, rfl⟩, fun H σ e => env_less e rfl fun i hi => ?_⟩)
      match i, hi with
      | 0, _ => exact .inr rfl
      | 1, _ => exact .inr rfl
      | 2, _ => exact .inl rfl
      | 3, _ => exact .inr rfl
      | 4, _ => exact .inr rfl
      | 5, _ => exact .inl rfl
      | 6, _ => exact .inr rfl
      | 7, _ => exact .inl rfl
      | 8, _ => exact .inl rfl
      | 9, _ => exact .inl rfl
    · obtain ⟨m, hm, rfl⟩ := hS
      -- the askings
      have hVS : VS b Vs m := ⟨fun F hF => (v3 F hF).mono (by decide), hm, by omega⟩
      refine runf_seq (runf_run (run_for1 (i := 5) (hi := max 4 (min (ns.length : Int) 10)) (fun _ => lawS ns b x Vs m (some (di (m : Int)))) (evl_cons (evd_cb (evl_cons evd_c (evl_cons (evd_cb (evl_cons (lenS rfl) (evl_cons evd_c evl_nil)) dc_min2) evl_nil)) dc_max2) evl_nil) (fun H σ e => e) (fun k hk => ?_) ?_))
      · have c0 := cellZ_pos ns (7000 + (k : Int))
        have c1 := cellZ_lt ns (7000 + (k : Int))
        refine run_seq (run_ex (d' := di (cellZ ns (7000 + (k : Int)))) (evd_call (evl_cons (evd_var rfl) (evl_cons (evd_op evd_c (evd_var rfl) d2_I0) evl_nil)) (sd_D (ns, 7000 + (k : Int)) hns)) rfl ?_)
        generalize cellZ ns (7000 + (k : Int)) = c at c0 c1
        have m1 := Int.emod_nonneg c (show (4 : Int) ≠ 0 by decide)
        have m2 := Int.emod_lt_of_pos c (show (0 : Int) < 4 by decide)
        refine run_seq (run_asg (evd_op (evd_is (evd_lst (evl_cons (evd_op (evd_op (evd_var rfl) evd_c d2_I0) (evd_op (evd_op (evd_var rfl) evd_c (d2_I ⟨by decide, by decide⟩)) evd_c (d2_I (by decide))) d2_I0) (evl_cons (evd_op (evd_op (evd_op (evd_var rfl) evd_c (d2_I ⟨by decide, by decide⟩)) evd_c (d2_I (by decide))) evd_c d2_I0) (evl_cons (evd_op (evd_var rfl) (evd_op evd_c evd_c (d2_I ⟨by decide, by decide, by decide⟩)) (d2_I (.inl ⟨by omega, by omega⟩))) (evl_cons (evd_op (evd_un (evd_var rfl) d1_neg) (evd_op evd_c evd_c (d2_I ⟨by decide, by decide, by decide⟩)) (d2_I (.inl ⟨by omega, by omega⟩))) evl_nil)))) (Nat.le_of_ble_eq_true rfl)) (show _ = De.lst (([b - 12 + c / 8 % 30, c / 8 % 30 - 15, c * 10 ^ 22, -c * 10 ^ 22] : List Int).map di) from rfl)) (evd_op (evd_var rfl) evd_c (d2_I (by decide))) (d2_ixInts m1 m2)) ?_)
        generalize ([b - 12 + c / 8 % 30, c / 8 % 30 - 15, c * 10 ^ 22, -c * 10 ^ 22] : List Int).getD (c % 4).toNat 0 = z
        refine run_if (b := false) (evb_is (evb_or (evb_nt (evd_call (evl_cons (evd_var rfl) (evl_cons (evd_var rfl) (evl_cons (evd_var rfl) (evl_cons (evd_op (evd_var rfl) evd_c (d2_I ⟨by decide, by decide⟩)) evl_nil)))) (sd_D (x, Vs, m, c / 8, b) ⟨hVS, by show 0 ≤ c / 8; omega⟩))) fun h => (evb_nt (evd_call (evl_cons (evd_var rfl) (evl_cons (evd_var rfl) (evl_cons (evd_var rfl) evl_nil))) (sd_D (x, Vs, m, z) ⟨hm, vOk, by show Vs.length ≤ 1000; omega⟩)))) rfl) (fun h => by cases h) (fun _ => run_next fun H σ e => env_less e rfl fun i hi => ?_)
        match i, hi with
        | 0, _ => exact .inr rfl
        | 1, _ => exact .inr rfl
        | 2, _ => exact .inl rfl
        | 3, _ => exact .inr rfl
        | 4, _ => exact .inr rfl
        | 5, _ => exact .inl rfl
        | 6, _ => exact .inr rfl
        | 7, _ => exact .inl rfl
        | 8, _ => exact .inl rfl
        | 9, _ => exact .inl rfl
      · -- no places
        refine runf_seq (runf_run (run_forT (i := 9) (ds := [.v .non, db true, .v (.str "0"), .tup [di 0], .lst [di 1]]) (fun _ => lawS ns b x Vs m (some (di (m : Int)))) (evd_tup (evl_cons evd_c (evl_cons evd_c (evl_cons evd_c (evl_cons (evd_tup (evl_cons evd_c evl_nil) (Nat.le_of_ble_eq_true rfl)) (evl_cons (evd_lst (evl_cons evd_c evl_nil) (Nat.le_of_ble_eq_true rfl)) evl_nil))))) (Nat.le_of_ble_eq_true rfl)) (fun H σ e => e) (fun k d hd => ?_) ?_))
        · have hd2 : (∃ n, d.tyn = some n) ∧ d.place = false := by
            have hm' := List.mem_of_getElem? hd
            simp only [List.mem_cons, List.not_mem_nil, or_false] at hm'
            rcases hm' with rfl | rfl | rfl | rfl | rfl <;> exact ⟨⟨_, rfl⟩, rfl⟩
          refine run_if (b := false) (evb_test (evd_op (evd_call (evl_cons (evd_var rfl) (evl_cons evd_c (evl_cons (evd_var rfl) (evl_cons evd_c evl_nil)))) (sdPlace hm vOk (by omega) hd2.1 hd2.2)) evd_c (d2_neS (by decide +kernel)))) (fun h => by cases h) (fun _ => run_next fun H σ e => env_less e rfl fun i hi => ?_)
          match i, hi with
          | 0, _ => exact .inr rfl
          | 1, _ => exact .inr rfl
          | 2, _ => exact .inl rfl
          | 3, _ => exact .inr rfl
          | 4, _ => exact .inr rfl
          | 5, _ => exact .inl rfl
          | 6, _ => exact .inr rfl
          | 7, _ => exact .inl rfl
          | 8, _ => exact .inl rfl
          | 9, _ => exact .inl rfl
        · -- put anew
          intro D σ H e nx r
          have e : Env (tx K) H σ (lawS ns b x Vs m (some (di (m : Int)))) := e
          have t1 : EvB (tx K) (tTest (tOp rNe (tMeth (logA K) "how_many" (spHow K) [] E0 (tVar 3) tNil) (tCB (rLenS K) (tCons (tVar 4) tNil)))) (lawS ns b x Vs m (some (di (m : Int)))) false := evb_is (evb_test (evd_op (evd_methL (fun _ _ => rfl) (evd_var rfl) evl_nil (sd_D (x, Vs, m) trivial)) (lenV rfl) d2_neI)) (by rw [decide_eq_true rfl]; rfl)
          refine t1 σ H e _ fun H1 s1 => ?_
          have e1 := e.mono s1
          rw [if_neg Bool.false_ne_true]
          refine raw_call (ds := [.log x Vs m, dVs Vs, di (m : Int), .scr ns, di b]) (evl_cons (evd_var rfl) (evl_cons (evd_var rfl) (evl_cons (evd_var rfl) (evl_cons (evd_var rfl) (evl_cons (evd_var rfl) evl_nil))))) e1 fun vs2 H2 s2 i2 => ?_
          refine ⟨x, Vs, m, ns, b, i2, hns, v3, hm, by omega, fun v H3 s3 i3 => ⟨true, is_v.mp i3, ?_⟩⟩
          obtain ⟨v3', g3, g3'⟩ := (e1.mono s2).2 3 _ rfl
          have e2 : Env (tx K) H2 σ [some (.scr ns), some (di b), none, none, none, none, none, none, none, none] := env_less (e1.mono s2) rfl fun i hi => by
            match i, hi with
            | 0, _ => exact .inr rfl
            | 1, _ => exact .inr rfl
            | 2, _ => exact .inl rfl
            | 3, _ => exact .inl rfl
            | 4, _ => exact .inl rfl
            | 5, _ => exact .inl rfl
            | 6, _ => exact .inl rfl
            | 7, _ => exact .inl rfl
            | 8, _ => exact .inl rfl
            | 9, _ => exact .inl rfl
          have e3 := env_sx0 (is_log.mp g3').2 e2 rfl s3
          exact (run_ret (T := tx K) (Nx := fun _ => False) (Rt := fun e => e = db true) (evd_call (evl_cons (evd_var rfl) (evl_cons (evd_var rfl) evl_nil)) (sd_D (ns, b) hns)) rfl) _ σ H3 e3 (fun _ _ _ z => z.elim) (fun d v H' hd _ iv => r d v H' hd iv)
end
end Fx

/-! FwHead: the top by one kernel run, its facts by a Hook. -/
namespace Fx
open PySem PySem.Spec PyProof.Rows L2
abbrev Rw : PySem.W.OpenRow := PySem.W.OpenLaw.row PySem.Challenge.rw_farrows_k85_whole_logs_told
abbrev hkX : PySem.W.Hook := He.hookX 6 fas dds [] [] exB
def obX (s : PySem.W.SharedT) : He.AlX := He.obsX 6 fas dds [] [] exB (HandSHeadRun.getT s)
theorem obX_eq (s : PySem.W.SharedT) : obX s = hkX.obs s.abs := He.obsX_eq (HandSHeadRun.getT_eq s)
def lo0 : List PySem.Str := ["_wall", "FarError", "NoSpan", "NoValue", "NoPlace", "NoRow", "NoVersion", "TooMany", "is_place", "MOST_VALUES", "is_value", "are_values", "need_place", "least_round", "Row", "cells", "right_begin", "left_end", "plain", "own_ends", "spread", "laid", "common_measure", "Rule", "Unlike", "common_round", "ruled", "all_joined", "joined"]
def lo1 : List PySem.Str := ["unlike", "common_times", "is_round", "woven", "marked_value", "patch_of", "changed_value", "patched", "Log", "_law_cell", "_law_value", "_law_ring", "_law_row", "_law_base", "_law_at", "_law_wider", "_law_near", "_law_like", "_law_made", "_law_rule", "_law_least", "_law_tell", "_law_plain", "_law_once", "_law_measure", "_law_woven", "_law_is", "_law_kind", "_law_far", "_law_sized"]
def lo2 : List PySem.Str := ["_law_tried", "_law_is_patch", "_law_patches", "_law_whens", "_law_great", "_law_put_anew"]
def loose : List PySem.Str := lo0 ++ lo1 ++ lo2
theorem run (w : World) : HandSHeadRun.RunEq Rw (PySem.W.view Rw.prog [77]) hkX obX 10000 loose w := by
  intro os
  kernel_rfl
end Fx

/-! FwEnd: all together. -/
namespace Fx
open PySem PySem.Spec PyProof.Rows L2 Fw
theorem tt_of {w : World} {K : PySem.W.Frag} {h : Heap} {mg : Str → Option Value} (X : K.In h) (G : h.Ns mainGlobals mg) (c : He.SaysX fas dds [] [] exB w h K) : Tt K mg :=
  ⟨c.t.d, c.more, fun x hx => He.glo_ok X G (c.t.d.facts hx), fun x hx => He.free_ok X G (c.t.d.facts hx), He.int_ok X G (c.t.d.fact 74 (f := .int "MOST_VALUES" 4000) rfl)⟩
end Fx
open PySem PySem.W PySem.Calls PyProof.Rows
theorem PySem.Challenge.cw_farrows_k85_whole_logs_told_holds : PySem.Challenge.rw_farrows_k85_whole_logs_told.Holds := by
  w_on; o_law
  refine HandSHeadRun.head_any (r := OpenLaw.row PySem.Challenge.rw_farrows_k85_whole_logs_told) (q := view (OpenLaw.row PySem.Challenge.rw_farrows_k85_whole_logs_told).prog [77]) (H := Fx.hkX) (ob := Fx.obX) (M := 10000) (loose := Fx.loose) (d := HandSHeadRun.topDef (OpenLaw.row PySem.Challenge.rw_farrows_k85_whole_logs_told).prog 77) (kwd := []) Fx.obX_eq
    (by kernel_rfl) (fun s => by kernel_rfl) Fx.run (by kernel_rfl) (by kernel_rfl) (by kernel_rfl) (by rfl) (by first | assumption | decide +kernel) (by decide +kernel) ⟨rfl, rfl, rfl, rfl, rfl, by decide +kernel⟩ ?hw ?hc
  case hw => w_witness2
  case hc =>
    refine L2.walk_ofE (l := PySem.Challenge.rw_farrows_k85_whole_logs_told) (n := 63) (k := 15) (x := "_law_script") (CX := L2.CX0) rfl (by decide) (by kernel_rfl) ⟨rfl, by decide, by decide⟩ ?F (fun _ _ _ _ z => z)
    intro w mg fa h Y G hmg0
    obtain ⟨K, KX, c⟩ := Y
    have hmg : mg ("law" : PySem.Str) = some (.ref fa) := by
      have e : (HandSHeadRun.topDef (OpenLaw.row PySem.Challenge.rw_farrows_k85_whole_logs_told).prog 77).name = ("law" : PySem.Str) := by kernel_rfl
      rw [← e]
      exact hmg0
    have T := Fx.tt_of KX G c
    have e := hmg.symm.trans (Fx.gl_law T)
    cases e
    obtain ⟨fd, hb, hF⟩ := Fx.f_law (P := (PySem.Challenge.rw_farrows_k85_whole_logs_told).prog) (w := w) T
    exact ⟨K, fd, Fx.spLaw K, KX, hb, fun H a ns hl _ hS => ⟨ns, Fx.isA_one (Fx.is_scr.mpr ⟨a, rfl, hS⟩), hl, fun v H' hv => Fx.is_v.mp hv⟩, fun base _ _ => hF base⟩

