import PyProof.Rows.All
import Wide.All
import OpenK.AllK
import Wide.FinOn
import HandS.ForMost
import HandS.IsInst
import HandS.Style
import HandS.Wide
import HandS.Sort
import HandS.Evl
import PySem.Challenge.RW_rootprime_k27_whole_order_papers_are_lea
set_option Elab.async false
set_option linter.all false
set_option maxRecDepth 100000
set_option maxHeartbeats 4000000
namespace K27
/-! # Primes, orders, full numbers: plain Lean, core alone -/

def Prm (p : Nat) : Prop := 2 ≤ p ∧ ∀ d, d ∣ p → d = 1 ∨ d = p

theorem Prm.two {p : Nat} (h : Prm p) : 2 ≤ p := h.1

theorem prm_coprime {p a : Nat} (h : Prm p) (ha : ¬ p ∣ a) : Nat.Coprime p a := by
  rcases h.2 _ (Nat.gcd_dvd_left p a) with e | e
  · exact e
  · exact absurd (e ▸ Nat.gcd_dvd_right p a) ha

theorem prm_mul {p a b : Nat} (h : Prm p) (hd : p ∣ a * b) : p ∣ a ∨ p ∣ b := by
  by_cases ha : p ∣ a
  · exact .inl ha
  · exact .inr ((prm_coprime h ha).dvd_of_dvd_mul_left hd)

theorem prm_pow {p a : Nat} (h : Prm p) : ∀ {k : Nat}, p ∣ a ^ k → p ∣ a
  | 0, hd => by
    rw [Nat.pow_zero] at hd
    have := Nat.le_of_dvd (by decide) hd
    have := h.1
    omega
  | k + 1, hd => by
    rw [Nat.pow_succ] at hd
    rcases prm_mul h hd with e | e
    · exact prm_pow h e
    · exact e

theorem prm_dvd {p q : Nat} (hp : Prm p) (hq : Prm q) (h : p ∣ q) : p = q := by
  rcases hq.2 p h with e | e
  · have := hp.1
    omega
  · exact e

theorem exists_prm : ∀ n : Nat, 2 ≤ n → ∃ p, Prm p ∧ p ∣ n := by
  intro n
  induction n using Nat.strongRecOn with
  | _ n ih =>
    intro h
    by_cases hp : Prm n
    · exact ⟨n, hp, Nat.dvd_refl n⟩
    · have : ∃ d, d ∣ n ∧ d ≠ 1 ∧ d ≠ n := by
        refine Classical.byContradiction fun hn => hp ⟨h, fun d hd => ?_⟩
        by_cases h1 : d = 1
        · exact .inl h1
        · by_cases h2 : d = n
          · exact .inr h2
          · exact absurd ⟨d, hd, h1, h2⟩ hn
      obtain ⟨d, hd, h1, h2⟩ := this
      have hle := Nat.le_of_dvd (by omega) hd
      have h0 : d ≠ 0 := by
        rintro rfl
        have := Nat.eq_zero_of_zero_dvd hd
        omega
      obtain ⟨p, hp1, hp2⟩ := ih d (by omega) (by omega)
      exact ⟨p, hp1, Nat.dvd_trans hp2 hd⟩

/-! ## pigeons -/
theorem nodup_le : ∀ {l m : List Nat}, l.Nodup → (∀ x ∈ l, x ∈ m) → l.length ≤ m.length
  | [], _, _, _ => Nat.zero_le _
  | a :: l, m, hn, hs => by
    rw [List.nodup_cons] at hn
    have ha : a ∈ m := hs a (List.mem_cons_self)
    have h1 := (List.perm_cons_erase ha).length_eq
    have h2 := nodup_le (l := l) (m := m.erase a) hn.2 fun x hx => by
      have hne : x ≠ a := fun e => hn.1 (e ▸ hx)
      exact (List.mem_erase_of_ne hne).mpr (hs x (List.mem_cons_of_mem _ hx))
    rw [List.length_cons] at h1 ⊢
    omega

theorem nodup_perm : ∀ {l m : List Nat}, l.Nodup → (∀ x ∈ l, x ∈ m) → m.length ≤ l.length → l.Perm m
  | [], m, _, _, hl => by
    have : m = [] := List.eq_nil_of_length_eq_zero (by simpa using hl)
    subst this
    exact .refl _
  | a :: l, m, hn, hs, hl => by
    rw [List.nodup_cons] at hn
    have ha : a ∈ m := hs a (List.mem_cons_self)
    have hp := List.perm_cons_erase ha
    have h1 := hp.length_eq
    have h2 := nodup_perm (l := l) (m := m.erase a) hn.2 (fun x hx => by
      have hne : x ≠ a := fun e => hn.1 (e ▸ hx)
      exact (List.mem_erase_of_ne hne).mpr (hs x (List.mem_cons_of_mem _ hx))) (by
      rw [List.length_cons] at h1 hl
      omega)
    exact (List.Perm.cons a h2).trans hp.symm

theorem nodup_map_range {f : Nat → Nat} : ∀ {n : Nat}, (∀ i j, i < j → j < n → f i ≠ f j) → ((List.range n).map f).Nodup := by
  intro n h
  rw [List.Nodup, List.pairwise_map]
  refine List.Pairwise.imp_of_mem ?_ (List.pairwise_lt_range (n := n))
  intro a b ha hb hab
  exact h a b hab (List.mem_range.mp hb)

/-! ## least ones -/
theorem least {P : Nat → Prop} : ∀ n, P n → ∃ m, m ≤ n ∧ P m ∧ ∀ k, k < m → ¬ P k := by
  intro n
  induction n using Nat.strongRecOn with
  | _ n ih =>
    intro h
    by_cases hk : ∃ k, k < n ∧ P k
    · obtain ⟨k, h1, h2⟩ := hk
      obtain ⟨m, h3, h4, h5⟩ := ih k h1 h2
      exact ⟨m, by omega, h4, h5⟩
    · exact ⟨n, Nat.le_refl _, h, fun k h1 h2 => hk ⟨k, h1, h2⟩⟩

/-! ## powers by n; orders. f ^ k % n = 1, n from 2 on -/
theorem one_mod {n : Nat} (hn : 2 ≤ n) : 1 % n = 1 := Nat.mod_eq_of_lt (by omega)

theorem pow_one_mul {n f a b : Nat} (hn : 2 ≤ n) (ha : f ^ a % n = 1) : f ^ (a * b) % n = 1 := by
  rw [Nat.pow_mul, Nat.pow_mod, ha, Nat.one_pow, one_mod hn]

theorem pow_one_dvd {n f a b : Nat} (hn : 2 ≤ n) (ha : f ^ a % n = 1) (h : a ∣ b) : f ^ b % n = 1 := by
  obtain ⟨c, rfl⟩ := h
  exact pow_one_mul hn ha

/-- f ^ a and f ^ (a + b) are 1: so is f ^ b -/
theorem pow_one_sub {n f a b : Nat} (ha : f ^ a % n = 1) (hab : f ^ (a + b) % n = 1) : f ^ b % n = 1 := by
  rw [Nat.pow_add, Nat.mul_mod, ha, Nat.one_mul, Nat.mod_mod] at hab
  exact hab

/-- the least one from 1 on divides each -/
theorem ord_dvd {n f o : Nat} (hn : 2 ≤ n) (ho : f ^ o % n = 1) (h0 : 0 < o) (hl : ∀ k, 0 < k → k < o → f ^ k % n ≠ 1) {k : Nat} (hk : f ^ k % n = 1) : o ∣ k := by
  have e := Nat.div_add_mod k o
  have h1 : f ^ (k % o) % n = 1 := by
    refine pow_one_sub (a := o * (k / o)) (pow_one_mul hn ho) ?_
    rw [e]
    exact hk
  by_cases hz : k % o = 0
  · exact Nat.dvd_of_mod_eq_zero hz
  · exact absurd h1 (hl _ (by omega) (Nat.mod_lt _ h0))

theorem ord_least {n f e : Nat} (h0 : 0 < e) (he : f ^ e % n = 1) : ∃ o, 0 < o ∧ o ≤ e ∧ f ^ o % n = 1 ∧ ∀ k, 0 < k → k < o → f ^ k % n ≠ 1 := by
  obtain ⟨m, h1, h2, h3⟩ := least (P := fun k => 0 < k ∧ f ^ k % n = 1) e ⟨h0, he⟩
  exact ⟨m, h2.1, h1, h2.2, fun k hk hl hh => h3 k hl ⟨hk, hh⟩⟩

/-- e is the order where no e // q does -/
theorem full_of_parts {n f e : Nat} (hn : 2 ≤ n) (h0 : 0 < e) (he : f ^ e % n = 1) (hq : ∀ q, Prm q → q ∣ e → f ^ (e / q) % n ≠ 1) : ∀ k, 0 < k → k < e → f ^ k % n ≠ 1 := by
  intro k hk hl hh
  obtain ⟨o, o0, ole, ho, hlo⟩ := ord_least h0 he
  have ok : o ≤ k := Nat.le_of_not_lt fun h => hlo k hk h hh
  obtain ⟨c, rfl⟩ := ord_dvd hn ho o0 hlo he
  have hc : 2 ≤ c := by
    refine Classical.byContradiction fun h => ?_
    have h1 : c ≤ 1 := by omega
    have h2 : o * c ≤ o * 1 := Nat.mul_le_mul_left o h1
    omega
  obtain ⟨q, hq1, hq2⟩ := exists_prm c hc
  obtain ⟨d, rfl⟩ := hq2
  refine hq q hq1 ⟨o * d, by rw [Nat.mul_left_comm]⟩ ?_
  have e1 : o * (q * d) / q = o * d := by
    rw [Nat.mul_left_comm]
    exact Nat.mul_div_cancel_left _ (by have := hq1.1; omega)
  rw [e1]
  exact pow_one_mul hn ho

/-- powers below the order are unlike -/
theorem ord_inj {n f o : Nat} (_ : 2 ≤ n) (ho : f ^ o % n = 1) (hl : ∀ k, 0 < k → k < o → f ^ k % n ≠ 1) {i j : Nat} (hij : i < j) (hj : j < o) : f ^ i % n ≠ f ^ j % n := by
  intro h
  -- times f ^ (o - j): f ^ (i + o - j) is 1
  have h1 : f ^ (i + (o - j)) % n = f ^ (j + (o - j)) % n := by
    rw [Nat.pow_add, Nat.mul_mod, h, ← Nat.mul_mod, ← Nat.pow_add]
  have h2 : j + (o - j) = o := by omega
  rw [h2, ho] at h1
  exact hl (i + (o - j)) (by omega) (by omega) h1

theorem ord_le {n f o : Nat} (hn : 2 ≤ n) (ho : f ^ o % n = 1) (hl : ∀ k, 0 < k → k < o → f ^ k % n ≠ 1) : o ≤ n := by
  have h := nodup_le (l := (List.range o).map fun i => f ^ i % n) (m := List.range n) (nodup_map_range fun i j hij hj => ord_inj hn ho hl hij hj) fun x hx => by
    obtain ⟨i, _, rfl⟩ := List.mem_map.mp hx
    exact List.mem_range.mpr (Nat.mod_lt _ (by omega))
  simpa using h

theorem not_zero_of_pow {n f a b : Nat} (_ : 2 ≤ n) (h : f ^ (a + b) % n = 1) : f ^ a % n ≠ 0 := by
  intro hz
  rw [Nat.pow_add, Nat.mul_mod, hz, Nat.zero_mul, Nat.zero_mod] at h
  cases h

/-- Lucas: a number with a full number is a prime -/
theorem lucas {p f : Nat} (hp : 2 ≤ p) (h1 : f ^ (p - 1) % p = 1) (hq : ∀ q, Prm q → q ∣ p - 1 → f ^ ((p - 1) / q) % p ≠ 1) : Prm p := by
  refine ⟨hp, fun d hd => ?_⟩
  have hl := full_of_parts hp (by omega) h1 hq
  by_cases hdp : d = p
  · exact .inr hdp
  refine .inl ?_
  have d0 : d ≠ 0 := by
    rintro rfl
    have := Nat.eq_zero_of_zero_dvd hd
    omega
  have dle := Nat.le_of_dvd (by omega) hd
  have hperm := nodup_perm (l := (List.range (p - 1)).map fun i => f ^ i % p) (m := List.range' 1 (p - 1)) (nodup_map_range fun i j hij hj => ord_inj hp h1 hl hij hj) (fun x hx => by
    obtain ⟨i, hi, rfl⟩ := List.mem_map.mp hx
    have hi := List.mem_range.mp hi
    have hlt := Nat.mod_lt (f ^ i) (show 0 < p by omega)
    have hne : f ^ i % p ≠ 0 := not_zero_of_pow (b := p - 1 - i) hp (by
      have : i + (p - 1 - i) = p - 1 := by omega
      rw [this]
      exact h1)
    rw [List.mem_range'_1]
    omega) (by simp)
  have hm : d ∈ List.range' 1 (p - 1) := by
    rw [List.mem_range'_1]
    omega
  obtain ⟨i, hi, hid⟩ := List.mem_map.mp (hperm.mem_iff.mpr hm)
  have hi := List.mem_range.mp hi
  have e : f ^ (i + (p - 1 - i)) % p = 1 := by
    have : i + (p - 1 - i) = p - 1 := by omega
    rw [this]
    exact h1
  rw [Nat.pow_add, Nat.mul_mod, hid] at e
  -- d divides p and d * _, so 1
  have h2 : d ∣ 1 := by
    rw [← e]
    exact (Nat.dvd_mod_iff hd).mpr (Nat.dvd_mul_right _ _)
  exact Nat.dvd_one.mp h2

/-! ## Fermat -/
def prod : List Nat → Nat
  | [] => 1
  | a :: l => a * prod l
theorem prod_perm {l m : List Nat} (h : l.Perm m) : prod l = prod m := by
  induction h with
  | nil => rfl
  | cons x _ ih => simp only [prod, ih]
  | swap x y l => simp only [prod]; rw [Nat.mul_left_comm]
  | trans _ _ h1 h2 => exact h1.trans h2
theorem prod_map_mod (a p : Nat) : ∀ l : List Nat, prod (l.map fun x => a * x % p) % p = a ^ l.length * prod l % p
  | [] => by simp [prod]
  | x :: l => by
    simp only [List.map_cons, prod, List.length_cons]
    rw [Nat.mul_mod, Nat.mod_mod, prod_map_mod a p l, ← Nat.mul_mod]
    congr 1
    rw [Nat.pow_succ]
    ac_rfl
theorem prm_prod {p : Nat} (h : Prm p) : ∀ l : List Nat, (∀ x ∈ l, ¬ p ∣ x) → ¬ p ∣ prod l
  | [], _ => fun hd => by
    have := Nat.le_of_dvd (by decide) (show p ∣ 1 from hd)
    have := h.1
    omega
  | x :: l, hx => fun hd => by
    rcases prm_mul h hd with e | e
    · exact hx x List.mem_cons_self e
    · exact prm_prod h l (fun y hy => hx y (List.mem_cons_of_mem _ hy)) e
/-- a * x and a * y alike, a no multiple of p: x and y alike -/
theorem cancel {p a x y : Nat} (h : Prm p) (ha : ¬ p ∣ a) (e : a * x % p = a * y % p) : x % p = y % p := by
  have key : ∀ {x y : Nat}, x ≤ y → a * x % p = a * y % p → x % p = y % p := by
    intro x y hxy e
    have h1 : p ∣ a * y - a * x := Nat.dvd_of_mod_eq_zero (Nat.sub_mod_eq_zero_of_mod_eq e.symm)
    rw [← Nat.mul_sub] at h1
    rcases prm_mul h h1 with q | q
    · exact absurd q ha
    · obtain ⟨c, hc⟩ := q
      have hy : y = x + p * c := by omega
      rw [hy, Nat.add_mul_mod_self_left]
  rcases Nat.le_total x y with q | q
  · exact key q e
  · exact (key q e.symm).symm
theorem fermat {p a : Nat} (h : Prm p) (ha : ¬ p ∣ a) : a ^ (p - 1) % p = 1 := by
  have hp := h.1
  have nd : ∀ x ∈ List.range' 1 (p - 1), ¬ p ∣ x := fun x hx hd => by
    rw [List.mem_range'_1] at hx
    have := Nat.le_of_dvd (by omega) hd
    omega
  have hnd : ((List.range' 1 (p - 1)).map fun x => a * x % p).Nodup := by
    rw [List.Nodup, List.pairwise_map]
    refine List.Pairwise.imp_of_mem ?_ (List.pairwise_lt_range' (s := 1) (n := p - 1) (step := 1))
    intro x y hx hy hxy e
    have := cancel h ha e
    rw [List.mem_range'_1] at hx hy
    rw [Nat.mod_eq_of_lt (by omega), Nat.mod_eq_of_lt (by omega)] at this
    omega
  have hperm := nodup_perm hnd (m := List.range' 1 (p - 1)) (fun z hz => by
    obtain ⟨x, hx, rfl⟩ := List.mem_map.mp hz
    have hlt := Nat.mod_lt (a * x) (show 0 < p by omega)
    have hne : a * x % p ≠ 0 := fun e => by
      rcases prm_mul h (Nat.dvd_of_mod_eq_zero e) with q | q
      · exact ha q
      · exact nd x hx q
    rw [List.mem_range'_1]
    omega) (by simp)
  have e1 := prod_perm hperm
  have e2 := prod_map_mod a p (List.range' 1 (p - 1))
  rw [e1, List.length_range'] at e2
  have e3 : prod (List.range' 1 (p - 1)) * 1 % p = prod (List.range' 1 (p - 1)) * a ^ (p - 1) % p := by
    rw [Nat.mul_one, e2, Nat.mul_comm]
  have e4 := cancel h (prm_prod h _ nd) e3
  rw [one_mod hp] at e4
  exact e4.symm

/-! ## polynomials over the whole numbers: degree and first coefficient; at most so many roots by p -/
inductive Pol : Nat → Int → (Int → Int) → Prop
  | const (l : Int) : Pol 0 l (fun _ => l)
  | step {n : Nat} {l : Int} {g : Int → Int} (c : Int) (h : Pol n l g) : Pol (n + 1) l (fun x => c + x * g x)

theorem Pol.add {n : Nat} {l : Int} {f : Int → Int} (hf : Pol n l f) : ∀ {m : Nat} {k : Int} {g : Int → Int} (a : Int), Pol m k g → m < n → Pol n l (fun x => f x + a * g x) := by
  induction hf with
  | const => intro m k g a hg hm; omega
  | @step n l f1 c h ih =>
    intro m k g a hg hm
    cases hg with
    | const =>
      have e : (fun x => c + x * f1 x + a * k) = fun x => (c + a * k) + x * f1 x := by
        funext x
        omega
      rw [e]
      exact Pol.step _ h
    | @step m' _ g1 d hg1 =>
      have e : (fun x => c + x * f1 x + a * (d + x * g1 x)) = fun x => (c + a * d) + x * (f1 x + a * g1 x) := by
        funext x
        rw [Int.mul_add, Int.mul_add, Int.mul_left_comm a x]
        omega
      rw [e]
      exact Pol.step _ (ih a hg1 (by omega))

theorem Pol.quot {n : Nat} {l : Int} {f : Int → Int} (hf : Pol n l f) : ∀ {m : Nat}, n = m + 1 → ∀ a : Int, ∃ g, Pol m l g ∧ ∀ x, f x - f a = (x - a) * g x := by
  induction hf with
  | const => intro m hm; omega
  | @step n l f1 c h ih =>
    intro m hm a
    obtain rfl : n = m := by omega
    cases n with
    | zero =>
      cases h
      refine ⟨_, Pol.const l, fun x => ?_⟩
      show c + x * l - (c + a * l) = (x - a) * l
      rw [Int.sub_mul]
      omega
    | succ n' =>
      obtain ⟨g1, hg1, q⟩ := ih rfl a
      refine ⟨_, h.add a hg1 (by omega), fun x => ?_⟩
      show c + x * f1 x - (c + a * f1 a) = (x - a) * (f1 x + a * g1 x)
      have e := q x
      have e1 : a * (f1 x - f1 a) = a * ((x - a) * g1 x) := by rw [e]
      rw [Int.mul_sub] at e1
      rw [Int.mul_add, Int.mul_left_comm (x - a) a, ← e1, Int.sub_mul]
      omega

theorem int_prm {p : Nat} (h : Prm p) {a b : Int} (hd : (p : Int) ∣ a * b) : (p : Int) ∣ a ∨ (p : Int) ∣ b := by
  rw [Int.ofNat_dvd_left, Int.natAbs_mul] at hd
  rw [Int.ofNat_dvd_left, Int.ofNat_dvd_left]
  exact prm_mul h hd

theorem Pol.roots {p : Nat} (h : Prm p) {l : Int} (hl : ¬ (p : Int) ∣ l) : ∀ {n : Nat} {f : Int → Int}, Pol n l f → ∀ xs : List Int, xs.Pairwise (fun x y => ¬ (p : Int) ∣ y - x) → (∀ x ∈ xs, (p : Int) ∣ f x) → xs.length ≤ n := by
  intro n
  induction n with
  | zero =>
    intro f hf xs _ hx
    cases hf
    cases xs with
    | nil => exact Nat.le_refl _
    | cons x r => exact absurd (hx x List.mem_cons_self) hl
  | succ n ih =>
    intro f hf xs hp hx
    cases xs with
    | nil => exact Nat.zero_le _
    | cons a r =>
      rw [List.pairwise_cons] at hp
      obtain ⟨g, hg, q⟩ := hf.quot rfl a
      have := ih hg r hp.2 fun x hr => by
        have e : (p : Int) ∣ (x - a) * g x := by
          rw [← q x]
          exact Int.dvd_sub (hx x (List.mem_cons_of_mem _ hr)) (hx a List.mem_cons_self)
        rcases int_prm h e with z | z
        · exact absurd z (hp.1 x hr)
        · exact z
      rw [List.length_cons]
      omega

theorem pol_pow : ∀ m : Nat, Pol m 1 (fun x => x ^ m)
  | 0 => by
    have e : (fun x : Int => x ^ 0) = fun _ => 1 := by
      funext x
      exact Int.pow_zero x
    rw [e]
    exact .const 1
  | m + 1 => by
    have e : (fun x : Int => x ^ (m + 1)) = fun x => 0 + x * x ^ m := by
      funext x
      rw [Int.pow_succ, Int.mul_comm, Int.zero_add]
    rw [e]
    exact .step 0 (pol_pow m)
theorem pol_pow1 (m : Nat) : Pol (m + 1) 1 (fun x => x ^ (m + 1) - 1) := by
  have e : (fun x : Int => x ^ (m + 1) - 1) = fun x => -1 + x * x ^ m := by
    funext x
    rw [Int.pow_succ, Int.mul_comm]
    omega
  rw [e]
  exact .step _ (pol_pow m)

/-- below p - 1 there is no power that is 1 for all -/
theorem not_all_one {p m : Nat} (h : Prm p) (h0 : 0 < m) (hm : m < p - 1) : ∃ x, ¬ p ∣ x ∧ x ^ m % p ≠ 1 := by
  refine Classical.byContradiction fun hn => ?_
  have hp := h.1
  have all : ∀ x, ¬ p ∣ x → x ^ m % p = 1 := fun x hx => Classical.byContradiction fun hh => hn ⟨x, hx, hh⟩
  obtain ⟨k, rfl⟩ : ∃ k, m = k + 1 := ⟨m - 1, by omega⟩
  have hlen := (pol_pow1 k).roots h (fun hd => by
    have := Int.le_of_dvd (by decide) hd
    omega) ((List.range' 1 (p - 1)).map fun x : Nat => (x : Int)) (by
      rw [List.pairwise_map]
      refine List.Pairwise.imp_of_mem ?_ (List.pairwise_lt_range' (s := 1) (n := p - 1) (step := 1))
      intro x y hx hy hxy hd
      rw [List.mem_range'_1] at hx hy
      have := Int.le_of_dvd (by omega) hd
      omega) (fun z hz => by
      obtain ⟨x, hx, rfl⟩ := List.mem_map.mp hz
      rw [List.mem_range'_1] at hx
      have h1 := all x fun hd => by
        have := Nat.le_of_dvd (by omega) hd
        omega
      have e := Nat.div_add_mod (x ^ (k + 1)) p
      rw [h1] at e
      refine ⟨((x ^ (k + 1) / p : Nat) : Int), ?_⟩
      have e2 : ((x ^ (k + 1) : Nat) : Int) = (p : Int) * ((x ^ (k + 1) / p : Nat) : Int) + 1 := by
        rw [← Int.natCast_mul]
        exact_mod_cast e.symm
      rw [Int.natCast_pow] at e2
      omega)
  simp at hlen
  omega

/-- n is r ^ k times a number that r does not divide -/
theorem split_pow {r : Nat} (hr : 2 ≤ r) : ∀ n : Nat, 0 < n → ∃ k m, n = r ^ k * m ∧ ¬ r ∣ m := by
  intro n
  induction n using Nat.strongRecOn with
  | _ n ih =>
    intro h
    by_cases hd : r ∣ n
    · obtain ⟨c, rfl⟩ := hd
      have c0 : 0 < c := by
        rcases Nat.eq_zero_or_pos c with rfl | q
        · simp at h
        · exact q
      have : c < r * c := by
        have := Nat.mul_le_mul_right c hr
        omega
      obtain ⟨k, m, rfl, hm⟩ := ih c this c0
      exact ⟨k + 1, m, by rw [Nat.pow_succ]; ac_rfl, hm⟩
    · exact ⟨0, n, by simp, hd⟩

theorem mul_pow_mod {p a b k : Nat} : (a * b) ^ k % p = (a ^ k % p) * (b ^ k % p) % p := by
  rw [Nat.mul_pow, Nat.mul_mod]

/-- for some primes that divide p - 1 there is one number that is full by each -/
theorem full_for {p : Nat} (h : Prm p) : ∀ Q : List Nat, (∀ q ∈ Q, Prm q ∧ q ∣ p - 1) → ∃ g, ¬ p ∣ g ∧ ∀ q ∈ Q, g ^ ((p - 1) / q) % p ≠ 1
  | [], _ => ⟨1, fun hd => by
      have := Nat.le_of_dvd (by decide) hd
      have := h.1
      omega, fun q hq => by cases hq⟩
  | r :: Q, hQ => by
    have hp := h.1
    obtain ⟨g, hg, hgq⟩ := full_for h Q fun q hq => hQ q (List.mem_cons_of_mem _ hq)
    by_cases hr : g ^ ((p - 1) / r) % p = 1
    case neg =>
      refine ⟨g, hg, fun q hq => ?_⟩
      rcases List.mem_cons.mp hq with rfl | hq
      · exact hr
      · exact hgq q hq
    obtain ⟨pr, dr⟩ := hQ r List.mem_cons_self
    have r2 := pr.1
    -- N = p - 1 = r * N', N' = r ^ k * M
    have hN : 0 < p - 1 := by omega
    obtain ⟨k, M, eN, hM⟩ := split_pow r2 (p - 1) hN
    have k0 : 0 < k := by
      rcases Nat.eq_zero_or_pos k with rfl | q
      · rw [Nat.pow_zero, Nat.one_mul] at eN
        exact absurd (eN ▸ dr) hM
      · exact q
    have hdiv : (p - 1) / r < p - 1 := Nat.div_lt_self hN r2
    have hdiv0 : 0 < (p - 1) / r := Nat.div_pos (Nat.le_of_dvd hN dr) (by omega)
    obtain ⟨x, hx, hx1⟩ := not_all_one h hdiv0 hdiv
    have fx := fermat h hx
    -- y = x ^ M
    refine ⟨g * x ^ M, fun hd => ?_, fun q hq => ?_⟩
    · rcases prm_mul h hd with z | z
      · exact hg z
      · exact hx (prm_pow h z)
    have hr_case : (x ^ M) ^ ((p - 1) / r) % p ≠ 1 := by
      intro e
      rw [← Nat.pow_mul, Nat.mul_comm, Nat.pow_mul] at e
      -- z = x ^ (N / r): z ^ M = 1, z ^ r = 1
      have e2 : (x ^ ((p - 1) / r)) ^ r % p = 1 := by
        rw [← Nat.pow_mul, Nat.div_mul_cancel dr]
        exact fx
      obtain ⟨o, o0, _, ho, hlo⟩ := ord_least (by omega : 0 < r) e2
      have d1 := ord_dvd hp ho o0 hlo e2
      have d2 : o ∣ M := ord_dvd hp ho o0 hlo e
      rcases pr.2 o d1 with rfl | rfl
      · rw [Nat.pow_one] at ho
        exact hx1 ho
      · exact hM d2
    rcases List.mem_cons.mp hq with e0 | hq
    · rw [e0]
      intro e
      rw [mul_pow_mod, hr, Nat.one_mul, Nat.mod_mod] at e
      exact hr_case e
    · have hqQ := hQ q (List.mem_cons_of_mem _ hq)
      have q2 := hqQ.1.1
      have hne : q ≠ r := fun e0 => hgq q hq (by rw [e0]; exact hr)
      have hy : (x ^ M) ^ ((p - 1) / q) % p = 1 := by
        obtain ⟨c, hc⟩ := hqQ.2
        have ec : (p - 1) / q = c := by
          rw [hc]
          exact Nat.mul_div_cancel_left _ (by omega)
        rw [ec]
        have hcop : Nat.Coprime (r ^ k) q := Nat.Coprime.pow_left k (prm_coprime pr fun hd => hne (prm_dvd pr hqQ.1 hd).symm)
        have hdc : r ^ k ∣ c := hcop.dvd_of_dvd_mul_left (by
          rw [← hc, eN]
          exact Nat.dvd_mul_right _ _)
        obtain ⟨b, rfl⟩ := hdc
        rw [← Nat.pow_mul]
        have e3 : M * (r ^ k * b) = (p - 1) * b := by
          rw [eN]
          ac_rfl
        rw [e3]
        exact pow_one_mul hp fx
      intro e
      rw [mul_pow_mod, hy, Nat.mul_one, Nat.mod_mod] at e
      exact hgq q hq e

/-- THE FULL NUMBER: each prime has one, below it -/
theorem exists_full {p : Nat} (h : Prm p) : ∃ g, 1 ≤ g ∧ g < p ∧ g ^ (p - 1) % p = 1 ∧ ∀ q, Prm q → q ∣ p - 1 → g ^ ((p - 1) / q) % p ≠ 1 := by
  have hp := h.1
  classical
  obtain ⟨g, hg, hq⟩ := full_for h ((List.range p).filter fun q => decide (Prm q ∧ q ∣ p - 1)) fun q hq => by
    have := (List.mem_filter.mp hq).2
    exact of_decide_eq_true this
  have gm : ∀ k, (g % p) ^ k % p = g ^ k % p := fun k => (Nat.pow_mod g k p).symm
  refine ⟨g % p, ?_, Nat.mod_lt _ (by omega), by rw [gm]; exact fermat h hg, fun q pq dq => ?_⟩
  · rcases Nat.eq_zero_or_pos (g % p) with z | z
    · exact absurd (Nat.dvd_of_mod_eq_zero z) hg
    · exact z
  · rw [gm]
    refine hq q (List.mem_filter.mpr ⟨List.mem_range.mpr ?_, decide_eq_true ⟨pq, dq⟩⟩)
    rcases Nat.eq_zero_or_pos (p - 1) with z | z
    · omega
    · have := Nat.le_of_dvd z dq
      omega
end K27
namespace K27
/-! # Papers, partings, order papers: what is let by is so; what is told is let by -/
inductive Paper where
  | mk (p f : Nat) (ps : List (Paper × Nat))
def Paper.p : Paper → Nat
  | .mk p _ _ => p

def prodOf : List (Nat × Nat) → Nat
  | [] => 1
  | x :: r => x.1 ^ x.2 * prodOf r
theorem prodOf_append (l m : List (Nat × Nat)) : prodOf (l ++ m) = prodOf l * prodOf m := by
  induction l with
  | nil => simp [prodOf]
  | cons x r ih => simp only [List.cons_append, prodOf, ih]; ac_rfl

def flat (ps : List (Paper × Nat)) : List (Nat × Nat) := ps.map fun x => (x.1.p, x.2)

/-- rows of papers: each let by, each many from 1 on, the primes rising -/
def Rows (F : Paper → Prop) (ps : List (Paper × Nat)) : Prop := (∀ x ∈ ps, F x.1 ∧ 1 ≤ x.2) ∧ ps.Pairwise (fun x y => x.1.p < y.1.p)

/-- what is_prime_paper lets by -/
def Ok : Nat → Paper → Prop
  | 0, _ => False
  | d + 1, .mk p f ps => (2 ≤ p ∧ 1 ≤ f ∧ f < p) ∧ (Rows (Ok d) ps ∧ prodOf (flat ps) = p - 1) ∧ f ^ (p - 1) % p = 1 ∧ ∀ x ∈ ps, f ^ ((p - 1) / x.1.p) % p ≠ 1

theorem prm_prodOf {q : Nat} (hq : Prm q) : ∀ {l : List (Nat × Nat)}, q ∣ prodOf l → ∃ x ∈ l, q ∣ x.1
  | [], h => by
    have := Nat.le_of_dvd (by decide) (show q ∣ 1 from h)
    have := hq.1
    omega
  | x :: r, h => by
    rcases prm_mul hq h with e | e
    · exact ⟨x, List.mem_cons_self, prm_pow hq e⟩
    · obtain ⟨y, hy, e⟩ := prm_prodOf hq e
      exact ⟨y, List.mem_cons_of_mem _ hy, e⟩

theorem rows_dvd {ps : List (Paper × Nat)} (h : ∀ x ∈ ps, Prm x.1.p) {q : Nat} (hq : Prm q) (hd : q ∣ prodOf (flat ps)) : ∃ x ∈ ps, x.1.p = q := by
  obtain ⟨y, hy, e⟩ := prm_prodOf hq hd
  obtain ⟨x, hx, rfl⟩ := List.mem_map.mp hy
  exact ⟨x, hx, (prm_dvd hq (h x hx) e).symm⟩

/-- ONLY PRIMES HAVE A PAPER -/
theorem ok_prm : ∀ {d : Nat} {t : Paper}, Ok d t → Prm t.p
  | 0, _, h => h.elim
  | d + 1, .mk p f ps, ⟨⟨h2, _, _⟩, ⟨hr, hp⟩, h1, hx⟩ => by
    show Prm p
    refine lucas h2 h1 fun q hq hd => ?_
    rw [← hp] at hd
    obtain ⟨x, hxm, rfl⟩ := rows_dvd (fun x hx => ok_prm (hr.1 x hx).1) hq hd
    exact hx x hxm

/-! ## powers of whole numbers by n -/
def pw (n : Nat) (a : Int) (e : Nat) : Nat := (a % (n : Int)).toNat ^ e % n
theorem pw_nat {n a e : Nat} : pw n (a : Int) e = a ^ e % n := by
  unfold pw
  have : ((a : Int) % (n : Int)).toNat = a % n := by
    rw [← Int.natCast_emod]
    rfl
  rw [this, ← Nat.pow_mod]

def IsOrd (n : Nat) (a : Int) (e : Nat) : Prop := 1 ≤ e ∧ pw n a e = 1 ∧ ∀ k, 0 < k → k < e → pw n a k ≠ 1
theorem IsOrd.uniq {n : Nat} {a : Int} {e e' : Nat} (h : IsOrd n a e) (h' : IsOrd n a e') : e = e' := by
  rcases Nat.lt_trichotomy e e' with q | q | q
  · exact absurd h.2.1 (h'.2.2 e h.1 q)
  · exact q
  · exact absurd h'.2.1 (h.2.2 e' h'.1 q)
theorem IsOrd.le {n : Nat} {a : Int} {e : Nat} (hn : 2 ≤ n) (h : IsOrd n a e) : e ≤ n := ord_le hn h.2.1 h.2.2
/-- where some power is 1 there is an order, n at most -/
theorem ord_of {n : Nat} {a : Int} {e : Nat} (hn : 2 ≤ n) (h0 : 1 ≤ e) (h : pw n a e = 1) : ∃ o, IsOrd n a o ∧ o ≤ n := by
  obtain ⟨o, o0, _, ho, hl⟩ := ord_least h0 h
  exact ⟨o, ⟨o0, ho, hl⟩, ord_le hn ho hl⟩

/-- what is_order_paper lets by: (paper, many, rest) -/
def OrderOk (d n : Nat) (a : Int) (e : Nat) (qs : List (Paper × Nat × Nat)) : Prop :=
  Rows (Ok d) (qs.map fun x => (x.1, x.2.1)) ∧ (prodOf (flat (qs.map fun x => (x.1, x.2.1))) = e ∧ pw n a e = 1) ∧ ∀ x ∈ qs, x.2.2 = pw n a (e / x.1.p) ∧ x.2.2 ≠ 1

/-- WHAT IS LET BY IS THE ORDER -/
theorem order_sound {d n : Nat} {a : Int} {e : Nat} {qs : List (Paper × Nat × Nat)} (hn : 2 ≤ n) (he : 1 ≤ e) (h : OrderOk d n a e qs) : IsOrd n a e := by
  obtain ⟨hr, ⟨hp, h1⟩, hx⟩ := h
  refine ⟨he, h1, full_of_parts hn he h1 fun q hq hd => ?_⟩
  rw [← hp] at hd
  obtain ⟨y, hy, rfl⟩ := rows_dvd (fun x hx => ok_prm (hr.1 x hx).1) hq hd
  obtain ⟨x, hxm, rfl⟩ := List.mem_map.mp hy
  obtain ⟨e1, e2⟩ := hx x hxm
  rw [e1] at e2
  exact e2

theorem dvd_prodOf : ∀ {l : List (Nat × Nat)} {x : Nat × Nat}, x ∈ l → 1 ≤ x.2 → x.1 ∣ prodOf l
  | y :: r, x, h, h1 => by
    rcases List.mem_cons.mp h with rfl | h
    · refine Nat.dvd_trans ?_ (Nat.dvd_mul_right _ _)
      obtain ⟨k, hk⟩ : ∃ k, x.2 = k + 1 := ⟨x.2 - 1, by omega⟩
      rw [hk, Nat.pow_succ]
      exact Nat.dvd_mul_left _ _
    · exact Nat.dvd_trans (dvd_prodOf h h1) (Nat.dvd_mul_left _ _)

theorem pow_dvd_prodOf : ∀ {l : List (Nat × Nat)} {x : Nat × Nat}, x ∈ l → x.1 ^ x.2 ∣ prodOf l
  | y :: r, x, h => by
    rcases List.mem_cons.mp h with rfl | h
    · exact Nat.dvd_mul_right _ _
    · exact Nat.dvd_trans (pow_dvd_prodOf h) (Nat.dvd_mul_left _ _)

/-- THE RIGHT PAPER IS LET BY -/
theorem order_right {d n : Nat} {a : Int} {e : Nat} {ps : List (Paper × Nat)} (h : IsOrd n a e) (hr : Rows (Ok d) ps) (hp : prodOf (flat ps) = e) :
    OrderOk d n a e (ps.map fun x => (x.1, x.2, pw n a (e / x.1.p))) := by
  have em : ((ps.map fun x => (x.1, x.2, pw n a (e / x.1.p))).map fun x => (x.1, x.2.1)) = ps := by
    rw [List.map_map]
    exact List.map_id' ps
  refine ⟨by rw [em]; exact hr, ⟨by rw [em]; exact hp, h.2.1⟩, fun y hy => ?_⟩
  obtain ⟨x, hx, rfl⟩ := List.mem_map.mp hy
  refine ⟨rfl, ?_⟩
  have h2 := (ok_prm (hr.1 x hx).1).1
  have hd : x.1.p ∣ e := by
    rw [← hp]
    exact dvd_prodOf (List.mem_map.mpr ⟨x, hx, rfl⟩) (hr.1 x hx).2
  have h0 := h.1
  exact h.2.2 _ (Nat.div_pos (Nat.le_of_dvd h0 hd) (by omega)) (Nat.div_lt_self h0 h2)

/-! ## partings -/
def IsParting (n : Nat) (l : List (Nat × Nat)) : Prop := (∀ x ∈ l, Prm x.1 ∧ 1 ≤ x.2) ∧ l.Pairwise (fun x y => x.1 < y.1) ∧ prodOf l = n

theorem IsParting.dvd {n : Nat} {l : List (Nat × Nat)} (h : IsParting n l) {x : Nat × Nat} (hx : x ∈ l) : x.1 ∣ n := by
  rw [← h.2.2]
  exact dvd_prodOf hx (h.1 x hx).2
theorem many_lt {q m : Nat} (hq : 2 ≤ q) : m < q ^ m := Nat.lt_pow_self hq
theorem IsParting.many {n : Nat} {l : List (Nat × Nat)} (h : IsParting n l) (hn : 1 ≤ n) {x : Nat × Nat} (hx : x ∈ l) : x.2 < n + 1 := by
  have h1 := Nat.le_of_dvd (by omega) (h.2.2 ▸ pow_dvd_prodOf hx)
  have h2 := many_lt (m := x.2) (h.1 x hx).1.1
  omega

/-- the paper of a prime, with a full number and papers of the parting of p - 1 -/
theorem ok_mk {d p f : Nat} {l : List (Nat × Nat)} {ps : List (Paper × Nat)} (hp : Prm p) (hl : IsParting (p - 1) l) (hf : 1 ≤ f ∧ f < p ∧ ∀ x ∈ l, f ^ ((p - 1) / x.1) % p ≠ 1)
    (hps : flat ps = l) (hok : ∀ x ∈ ps, Ok d x.1) : Ok (d + 1) (.mk p f ps) := by
  obtain ⟨f1, fp, fx⟩ := hf
  have hmem : ∀ x ∈ ps, (x.1.p, x.2) ∈ l := fun x hx => by
    rw [← hps]
    exact List.mem_map.mpr ⟨x, hx, rfl⟩
  refine ⟨⟨hp.1, f1, fp⟩, ⟨⟨fun x hx => ⟨hok x hx, (hl.1 _ (hmem x hx)).2⟩, ?_⟩, by rw [hps]; exact hl.2.2⟩, fermat hp fun hd => ?_, fun x hx => fx _ (hmem x hx)⟩
  · have := hl.2.1
    rw [← hps, flat, List.pairwise_map] at this
    exact this
  · have := Nat.le_of_dvd (by omega) hd
    omega
theorem rows_mk {d n : Nat} {l : List (Nat × Nat)} {ps : List (Paper × Nat)} (hl : IsParting n l) (hps : flat ps = l) (hok : ∀ x ∈ ps, Ok d x.1) : Rows (Ok d) ps ∧ prodOf (flat ps) = n := by
  have hmem : ∀ x ∈ ps, (x.1.p, x.2) ∈ l := fun x hx => by
    rw [← hps]
    exact List.mem_map.mpr ⟨x, hx, rfl⟩
  refine ⟨⟨fun x hx => ⟨hok x hx, (hl.1 _ (hmem x hx)).2⟩, ?_⟩, by rw [hps]; exact hl.2.2⟩
  have := hl.2.1
  rw [← hps, flat, List.pairwise_map] at this
  exact this

/-- there is a full number by each prime of the parting of p - 1 -/
theorem full_parting {p : Nat} {l : List (Nat × Nat)} (hp : Prm p) (hl : IsParting (p - 1) l) : ∃ g, 1 ≤ g ∧ g < p ∧ ∀ x ∈ l, g ^ ((p - 1) / x.1) % p ≠ 1 := by
  obtain ⟨g, g1, gp, _, hq⟩ := exists_full hp
  exact ⟨g, g1, gp, fun x hx => hq _ (hl.1 x hx).1 (hl.dvd hx)⟩

/-! ## depth: a prime that divides p - 1 is at most half of p + 1 -/
def Dep (d p : Nat) : Prop := 2 * p ≤ 2 ^ d + 2
theorem dep_step {d p q : Nat} (hp : Prm p) (hq : Prm q) (hd : q ∣ p - 1) (h : Dep (d + 1) p) : Dep d q := by
  have p2 := hp.1
  have q2 := hq.1
  have half : 2 * q ≤ p + 1 := by
    by_cases hp2 : p = 2
    · subst hp2
      have := Nat.le_of_dvd (by decide) hd
      omega
    have hodd : ¬ 2 ∣ p := fun z => by
      rcases hp.2 2 z with e | e <;> omega
    have h2 : 2 ∣ p - 1 := by omega
    by_cases hq2 : q = 2
    · omega
    have hqo : ¬ q ∣ 2 := fun z => by
      have := Nat.le_of_dvd (by decide) z
      omega
    have hc : Nat.Coprime q 2 := prm_coprime hq hqo
    have := Nat.le_of_dvd (by omega) (hc.mul_dvd_of_dvd_of_dvd hd h2)
    omega
  unfold Dep at h ⊢
  rw [Nat.pow_succ] at h
  omega
theorem not_dep_zero {p : Nat} (hp : Prm p) : ¬ Dep 0 p := fun h => by
  have h' : 2 * p ≤ 2 ^ 0 + 2 := h
  have := hp.1
  omega

/-! ## trial division -/
/-- d may be asked: all below it, from 2 on, divide n not -/
def Below (n d : Nat) : Prop := ∀ k, 2 ≤ k → k < d → ¬ k ∣ n
theorem least_prm {n r : Nat} (h2 : 2 ≤ r) (hd : r ∣ n) (hb : Below n r) : Prm r := by
  refine ⟨h2, fun k hk => ?_⟩
  by_cases h1 : k = 1
  · exact .inl h1
  refine .inr ?_
  have k0 : k ≠ 0 := by
    rintro rfl
    have := Nat.eq_zero_of_zero_dvd hk
    omega
  have hle := Nat.le_of_dvd (by omega) hk
  rcases Nat.lt_or_ge k r with q | q
  · exact absurd (Nat.dvd_trans hk hd) (hb k (by omega) q)
  · omega
/-- beyond the root there is none but n -/
theorem below_end {n d : Nat} (hn : 2 ≤ n) (h : n < d * d) (hb : Below n d) : Below n n := by
  intro k h2 hk hd
  rcases Nat.lt_or_ge k d with q | q
  · exact hb k h2 q hd
  obtain ⟨c, rfl⟩ := hd
  have c1 : c ≠ 0 := by
    rintro rfl
    simp at hn
  have c2 : c ≠ 1 := by
    rintro rfl
    simp at hk
  have hc : c < d := by
    rcases Nat.lt_or_ge c d with z | z
    · exact z
    · have := Nat.mul_le_mul q z
      omega
  exact hb c (by omega) hc ⟨k, Nat.mul_comm _ _⟩
/-- 2, then the odd ones -/
def Nx (d : Nat) : Prop := d = 2 ∨ d % 2 = 1 ∧ 3 ≤ d
theorem nx_prm {p : Nat} (h : Prm p) : Nx p := by
  have := h.1
  by_cases h2 : p = 2
  · exact .inl h2
  refine .inr ⟨?_, by omega⟩
  have : ¬ 2 ∣ p := fun z => by
    rcases h.2 2 z with e | e <;> omega
  omega
theorem below_step {n d : Nat} (hx : Nx d) (hb : Below n d) (hd : ¬ d ∣ n) : Below n (d + 1 + if 2 < d then 1 else 0) ∧ Nx (d + 1 + if 2 < d then 1 else 0) := by
  rcases hx with rfl | ⟨h1, h3⟩
  · refine ⟨fun k h2 hk => ?_, .inr (by decide)⟩
    have : k = 2 := by
      simp at hk
      omega
    rw [this]
    exact hd
  · have e : (if 2 < d then 1 else 0) = 1 := if_pos (by omega)
    rw [e]
    refine ⟨fun k h2 hk => ?_, .inr (by omega)⟩
    rcases Nat.lt_trichotomy k d with q | q | q
    · exact hb k h2 q
    · rw [q]
      exact hd
    · have : k = d + 1 := by omega
      rw [this]
      intro z
      exact hb 2 (by omega) (by omega) (Nat.dvd_trans (by omega) z)
theorem below_two (n : Nat) : Below n 2 := fun k h2 hk => by omega
/-- what divides a divisor's rest -/
theorem Below.of_dvd {n m d : Nat} (hb : Below n d) (h : m ∣ n) : Below m d := fun k h2 hk hd => hb k h2 hk (Nat.dvd_trans hd h)

/-- the parting so far, of n, m being what is left, d the last one that was taken out (2 at first) -/
def Parted (n m d : Nat) (l : List (Nat × Nat)) : Prop :=
  (∀ x ∈ l, Prm x.1 ∧ 1 ≤ x.2 ∧ x.1 ≤ d) ∧ l.Pairwise (fun x y => x.1 < y.1) ∧ prodOf l * m = n ∧ 1 ≤ m ∧ Below m d ∧ Nx d ∧ (∀ x ∈ l, ¬ x.1 ∣ m)
theorem parted_start {n : Nat} (hn : 1 ≤ n) : Parted n n 2 [] :=
  ⟨fun _ h => (nomatch h), .nil, by simp [prodOf], hn, below_two n, .inl rfl, fun _ h => (nomatch h)⟩
theorem parted_end {n d : Nat} {l : List (Nat × Nat)} (h : Parted n 1 d l) : IsParting n l := by
  obtain ⟨h1, h2, h3, _⟩ := h
  rw [Nat.mul_one] at h3
  exact ⟨fun x hx => ⟨(h1 x hx).1, (h1 x hx).2.1⟩, h2, h3⟩
/-- one prime more: r the least divisor of m, m = r ^ k * m', r does not divide m' -/
theorem parted_more {n m d r k m' : Nat} {l : List (Nat × Nat)} (h : Parted n m d l) (hdr : d ≤ r) (hr2 : 2 ≤ r) (hrm : r ∣ m) (hb : Below m r) (hm : m = r ^ k * m') (hm' : ¬ r ∣ m') (hm0 : 1 ≤ m') : Parted n m' r (l ++ [(r, k)]) := by
  obtain ⟨h1, h2, h3, h4, h5, h6, h7⟩ := h
  have pr : Prm r := least_prm hr2 hrm hb
  have k0 : 1 ≤ k := by
    rcases Nat.eq_zero_or_pos k with rfl | q
    · rw [Nat.pow_zero, Nat.one_mul] at hm
      exact absurd (hm ▸ hrm) hm'
    · exact q
  have dv : m' ∣ m := ⟨r ^ k, by rw [hm, Nat.mul_comm]⟩
  refine ⟨fun x hx => ?_, ?_, ?_, hm0, hb.of_dvd dv, nx_prm pr, fun x hx => ?_⟩
  · rcases List.mem_append.mp hx with q | q
    · exact ⟨(h1 x q).1, (h1 x q).2.1, by have := (h1 x q).2.2; omega⟩
    · rw [List.mem_singleton] at q
      subst q
      exact ⟨pr, k0, Nat.le_refl _⟩
  · rw [List.pairwise_append]
    refine ⟨h2, List.pairwise_singleton _ _, fun x hx y hy => ?_⟩
    rw [List.mem_singleton] at hy
    subst hy
    show x.1 < r
    have := (h1 x hx).2.2
    rcases Nat.lt_or_ge x.1 r with q | q
    · exact q
    · have : x.1 = r := by omega
      exact absurd (this ▸ hrm) (h7 x hx)
  · rw [prodOf_append, ← h3, hm]
    simp only [prodOf]
    rw [Nat.mul_one]
    ac_rfl
  · rcases List.mem_append.mp hx with q | q
    · exact fun z => h7 x q (Nat.dvd_trans z dv)
    · rw [List.mem_singleton] at q
      subst q
      exact hm'
end K27
namespace K27
open PySem L2 Evl
/-! # The text by places -/
def top (i : Nat) : Stmt := PySem.Challenge.pw_rootprime_k27_whole_order_papers_are_lea.main.body.getD i (.Pass ⟨0, 0, 0, 0⟩)
abbrev sPower : Stmt := top 10
abbrev sIsWhole : Stmt := top 12
abbrev sIsRowOf : Stmt := top 13
abbrev sArePapers : Stmt := top 14
abbrev sComesTo : Stmt := top 15
abbrev sIsParting : Stmt := top 16
abbrev sIsPrime : Stmt := top 17
abbrev sIsOrder : Stmt := top 18
abbrev sLookAt : Stmt := top 21
abbrev sDivisorFrom : Stmt := top 22
abbrev sLeastDivisor : Stmt := top 23
abbrev sParted : Stmt := top 24
abbrev sHasFull : Stmt := top 26
abbrev sLeastFull : Stmt := top 27
abbrev sPaperOf : Stmt := top 28
abbrev sPapersBy : Stmt := top 29
abbrev sPrimePaper : Stmt := top 30
abbrev sPartingPaper : Stmt := top 31
abbrev sDraws : Stmt := top 33
abbrev sLPower : Stmt := top 34
abbrev sLOrder : Stmt := top 35
abbrev sLTaken : Stmt := top 36
abbrev sLGroups : Stmt := top 37
abbrev sLClaimed : Stmt := top 38
abbrev sLThing : Stmt := top 39
abbrev sLaw : Stmt := top 40

/-! # a def that is known: where it stands, what it promises -/
structure Knows (P : Program) (w : World) (K : PySem.W.Frag) (mg : Str → Option Value) (base : Heap) (x : Str) (ps : List Str) (k : Nat) (sp : Sp) : Prop where
  ex : ∃ (f : Addr) (fd : FuncData), FnOk P w K mg base CX0 k f fd ps sp ∧ Binds K fd ps [] ∧ PySem.W.keepIn K (.ref f) = true ∧ mg x = some (.ref f)
theorem Knows.mono {P : Program} {w : World} {K : PySem.W.Frag} {mg : Str → Option Value} {base : Heap} {x : Str} {ps : List Str} {j k : Nat} {sp : Sp} (D : Knows P w K mg base x ps j sp) (h : j ≤ k) : Knows P w K mg base x ps k sp := by
  obtain ⟨f, fd, G, b, kp, m⟩ := D.ex
  exact ⟨f, fd, G.mono h, b, kp, m⟩
theorem pe_k {X : Cx} {x : Str} {ps : List Str} {k : Nat} {sp : Sp} {e : Expr} {es : List Expr} {t : TA} {p pos : Pos} (D : Knows X.prog X.w X.K X.mg X.base x ps k sp) (hr : Room k X.A) (ha : PA X (e :: es) t) (hg : Gl X x := by rfl)
    (hdb : (x == ("__debug__" : Str)) = false := by decide) (he : starEach (e :: es) X.env = (false, eval e X.env) :: starEach es X.env := by rfl) (hpl : (backTo pos (starEach es X.env)).any (·.1) = false := by rfl) :
    PE X (.Call (.Name x p) (e :: es) [] pos) (tCall sp [] E0 t) := by
  obtain ⟨f, fd, G, b, kp, m⟩ := D.ex
  exact pe_call G hr hg m kp b .nil pass0 ha hdb he hpl
/-- a def of the text that stands at its place -/
structure At (K : PySem.W.Frag) (mg : Str → Option Value) (x : Str) (st : Stmt) (ps : List Str) (f : Addr) (fd : FuncData) : Prop where
  F : Fun K x x st f fd
  b : Binds K fd ps []
  m : mg x = some (.ref f)
theorem At.knows {P : Program} {w : World} {K : PySem.W.Frag} {mg : Str → Option Value} {base : Heap} {x : Str} {st : Stmt} {ps : List Str} {f : Addr} {fd : FuncData} {k : Nat} {sp : Sp} (A : At K mg x st ps f fd) (G : FnOk P w K mg base CX0 k f fd ps sp) : Knows P w K mg base x ps k sp :=
  ⟨f, fd, G, A.b, A.F.kp, A.m⟩

theorem ifT {c : Prop} [Decidable c] {A B : Prop} (h : c) (q : A) : if decide c = true then A else B := by
  rw [decide_eq_true h, if_pos rfl]
  exact q
theorem ifF {c : Prop} [Decidable c] {A B : Prop} (h : ¬ c) (q : B) : if decide c = true then A else B := by
  rw [decide_eq_false h, if_neg Bool.false_ne_true]
  exact q
theorem if2 {c : Prop} [Decidable c] {A B : Prop} (q : c → A) (r : ¬ c → B) : if decide c = true then A else B := by
  by_cases h : c
  · exact ifT h (q h)
  · exact ifF h (r h)

theorem cast_mod (a n : Nat) : ((a : Int) % (n : Int)) = ((a % n : Nat) : Int) := (Int.natCast_emod a n).symm
theorem cast_mul_mod (a b n : Nat) : ((a : Int) * (b : Int)) % (n : Int) = ((a * b % n : Nat) : Int) := by
  rw [← Int.natCast_mul, cast_mod]
theorem cast_div (a n : Nat) : ((a : Int) / (n : Int)) = ((a / n : Nat) : Int) := (Int.natCast_ediv a n).symm

theorem dec_int {i j : Int} {c : Prop} [Decidable c] (h : i = j ↔ c) : decide (V.int i = V.int j) = decide c :=
  decide_eq_decide.mpr ⟨fun q => h.mp (V.int.inj q), fun q => congrArg V.int (h.mpr q)⟩

/-! # power -/
theorem pow_odd {f b m n : Nat} (h : m % 2 = 1) : (f * b % n) * (b * b % n) ^ (m / 2) % n = f * b ^ m % n := by
  have e : b ^ m = b * (b * b) ^ (m / 2) := by
    rw [← Nat.pow_two, ← Nat.pow_mul, ← Nat.pow_succ']
    congr 1
    omega
  rw [e, ← Nat.mul_assoc, Nat.mul_mod, Nat.mod_mod, ← Nat.pow_mod, ← Nat.mul_mod]
theorem pow_even {f b m n : Nat} (h : m % 2 = 0) : f * (b * b % n) ^ (m / 2) % n = f * b ^ m % n := by
  have e : b ^ m = (b * b) ^ (m / 2) := by
    rw [← Nat.pow_two, ← Nat.pow_mul]
    congr 1
    omega
  rw [e, Nat.mul_mod, ← Nat.pow_mod, ← Nat.mul_mod]
def spPower : Sp := fun vs H Q _ => ∃ (n : Nat) (a : Int) (e : Nat), vs = [.int (n : Int), .int a, .int (e : Int)] ∧ 1 ≤ n ∧ n < 2 ^ 30 ∧ RetV (.int (pw n a e : Nat)) H Q
section
variable {P : Program} {w : World} {K : PySem.W.Frag} {mg : Str → Option Value} {base : Heap}
theorem scPower : FnScope ["n", "a", "e", "found", "base"] ["n", "a", "e"] (defScope sPower) := ⟨rfl, rfl, rfl, by decide +kernel, rfl, by decide +kernel, by decide +kernel⟩
theorem ok_power {f : Addr} {fd : FuncData} (F : Fun K "power" "power" sPower f fd) : FnOk P w K mg base CX0 1 f fd ["n", "a", "e"] spPower := by
  refine F.ok scPower (fun vs H Q E h => ?_) (fun cdv A outer s H vs Q E hr h => ?_)
  · obtain ⟨n, a, e, rfl, _⟩ := h
    rfl
  obtain ⟨n, a, e, rfl, hn, hn2, k⟩ := h
  refine ⟨_, pss_cons (ps_if (pt_cmpR op_lt (pv 2) pe_int (nomark _)) (pss_one ps_never) pss_nil)
    (pss_cons (ps_set (i := 3) scPower.nd rfl (Or.inl rfl) (pe_op op_mod pe_int (pv 0)))
    (pss_cons (ps_set (i := 4) scPower.nd rfl (Or.inl rfl) (pe_op op_mod (pv 1) (pv 0)))
    (pss_cons (ps_while PassesOwn.never (pt_cmpR op_gt (pv 2) pe_int (nomark _))
       (pss_cons (ps_if (pt_cmpR op_eq (pe_op op_mod (pv 2) pe_int) pe_int (nomark _)) (pss_one (ps_set (i := 3) scPower.nd rfl (Or.inl rfl) (pe_op op_mod (pe_op op_mul (pv 3) (pv 4)) (pv 0)))) pss_nil)
       (pss_cons (ps_set (i := 4) scPower.nd rfl (Or.inl rfl) (pe_op op_mod (pe_op op_mul (pv 4) (pv 4)) (pv 0)))
       (pss_one (ps_set (i := 2) scPower.nd rfl (Or.inl rfl) (pe_op op_fdiv (pv 2) pe_int))))))
    (pss_one (ps_ret (pv 3)))))), ?_⟩
  have n0 : (0 : Int) < (n : Int) := by omega
  refine ⟨_, rfl, _, _, rfl, rfl, _, rfl, ifF (by omega) ?_⟩
  refine ⟨_, rfl, _, _, rfl, rfl, n0, _, rfl, _, rfl, _, _, rfl, rfl, n0, ?_⟩
  have e1 : (1 : Int) % (n : Int) = ((1 % n : Nat) : Int) := cast_mod 1 n
  have e2 : a % (n : Int) = (((a % (n : Int)).toNat : Nat) : Int) := (Int.toNat_of_nonneg (Int.emod_nonneg a (by omega))).symm
  have b0 : (a % (n : Int)).toNat < n := by
    have := Int.emod_lt_of_pos a n0
    omega
  refine q_while (fun m σ' H' => Evl.Ex H H' ∧ ∃ f b : Nat, σ' = [some (.int (n : Int)), some (.int a), some (.int (m : Int)), some (.int (f : Int)), some (.int (b : Int))] ∧ f < n ∧ b < n ∧ f * b ^ m % n = pw n a e) e ?_ ?_
  · refine ⟨Evl.Ex.refl H, 1 % n, (a % (n : Int)).toNat, ?_, Nat.mod_lt _ (by omega), b0, ?_⟩
    · rw [← e1, ← e2]
      rfl
    · rw [Nat.mul_mod, Nat.mod_mod, ← Nat.mul_mod, Nat.one_mul]
      rfl
  · rintro m σ' H' ⟨x, f, b, rfl, hf, hb, hm⟩
    refine ⟨decide (0 < m), et_is (et_test (ev_op (ev_var rfl) ev_c rv_I0)) (by simp), fun hm0 H1 x1 => ?_, fun hm0 H1 x1 => ?_⟩
    · have hm0 : 0 < m := of_decide_eq_true hm0
      refine ⟨_, fun σ2 H2 q => ⟨m / 2, by omega, q⟩, ?_⟩
      refine q_ifAsg (b := decide (m % 2 = 1)) (i := 3) (v := .int ((if m % 2 = 1 then f * b % n else f : Nat) : Int)) (et_is (et_test (ev_op (ev_op (ev_var rfl) ev_c (rv_I (by decide))) ev_c (rv_eq rfl))) (dec_int (by omega))) (fun hb => ?_) (fun hb => ?_) (fun H2 x2 => ?_)
      · have hb := of_decide_eq_true hb
        rw [if_pos hb, ← cast_mul_mod]
        exact ev_op (ev_op (ev_var rfl) (ev_var rfl) (rv_I (.inl ⟨by omega, by omega⟩))) (ev_var rfl) (rv_I n0)
      · have hb := of_decide_eq_false hb
        rw [if_neg hb]
        rfl
      refine q_asg (v := .int ((b * b % n : Nat) : Int)) ?_ fun H3 x3 => s_asg (v := .int ((m / 2 : Nat) : Int)) ?_ fun H4 x4 => ?_
      · rw [← cast_mul_mod]
        exact ev_op (ev_op (ev_var rfl) (ev_var rfl) (rv_I (.inl ⟨by omega, by omega⟩))) (ev_var rfl) (rv_I n0)
      · exact ev_is (ev_op (ev_var rfl) ev_c (rv_I ⟨by decide, by decide⟩)) (congrArg V.int (cast_div m 2))
      refine ⟨(((x.trans x1).trans x2).trans x3).trans x4, (if m % 2 = 1 then f * b % n else f), b * b % n, rfl, ?_, Nat.mod_lt _ (by omega), ?_⟩
      · split
        · exact Nat.mod_lt _ (by omega)
        · exact hf
      · by_cases hb : m % 2 = 1
        · rw [if_pos hb, pow_odd hb]
          exact hm
        · rw [if_neg hb, pow_even (by omega)]
          exact hm
    · have hm0 : ¬ 0 < m := of_decide_eq_false hm0
      have m0 : m = 0 := by omega
      subst m0
      rw [Nat.pow_zero, Nat.mul_one, Nat.mod_eq_of_lt hf] at hm
      subst hm
      exact s_ret (ev_var rfl) fun H2 x2 => k H2 ((x.trans x1).trans x2)
end
end K27
namespace K27
open PySem L2 Evl
/-! # Papers in the heap -/
/-- a row: a tuple with a thing ahead of which F holds, a many, and what follows, k in all -/
def RowAt (F : V → Paper → Prop) (H : Hp) (k : Nat) (t : V) (x : Paper × Nat) : Prop :=
  1 ≤ x.2 ∧ x.2 < 2 ^ 20 ∧ ∃ (c : Addr) (u : V) (r : List V), t = .ref c ∧ H c = some (.tup (u :: .int (x.2 : Int) :: r)) ∧ r.length + 2 = k ∧ F u x.1
def PaperAt (H : Hp) : Nat → V → Paper → Prop
  | 0, _, _ => False
  | d + 1, v, .mk p f ps => (2 ≤ p ∧ p < 2 ^ 20 ∧ 1 ≤ f ∧ f < p) ∧ ∃ (a b : Addr) (ts : List V), v = .ref a ∧ H a = some (.tup [.int (p : Int), .int (f : Int), .ref b]) ∧ H b = some (.tup ts) ∧
    Paired (RowAt (PaperAt H d) H 2) ts ps
theorem RowAt.mono {F G : V → Paper → Prop} {H H' : Hp} {k : Nat} {t : V} {x : Paper × Nat} (e : Evl.Ex H H') (fg : ∀ v y, F v y → G v y) (h : RowAt F H k t x) : RowAt G H' k t x := by
  obtain ⟨h1, h2, c, u, r, h3, h4, h5, h6⟩ := h
  exact ⟨h1, h2, c, u, r, h3, e _ _ h4, h5, fg _ _ h6⟩
theorem PaperAt.mono {H H' : Hp} (e : Evl.Ex H H') : ∀ {d : Nat} {v : V} {t : Paper}, PaperAt H d v t → PaperAt H' d v t
  | 0, _, _, h => h.elim
  | d + 1, v, .mk p f ps, ⟨h1, a, b, ts, h2, h3, h4, h5⟩ => ⟨h1, a, b, ts, h2, e _ _ h3, e _ _ h4, L2.Paired.mapP h5 fun _ _ q => RowAt.mono e (fun _ _ z => PaperAt.mono e z) q⟩
/-- a paper's prime, as it is read: thing[0] -/
def RootAt (H : Hp) (v : V) (p : Nat) : Prop := 2 ≤ p ∧ p < 2 ^ 20 ∧ ∃ (a : Addr) (r : List V), v = .ref a ∧ H a = some (.tup (.int (p : Int) :: r))
theorem PaperAt.root {H : Hp} : ∀ {d : Nat} {v : V} {t : Paper}, PaperAt H d v t → RootAt H v t.p
  | 0, _, _, h => h.elim
  | d + 1, v, .mk p f ps, ⟨h1, a, b, ts, h2, h3, h4, h5⟩ => ⟨h1.1, h1.2.1, a, _, h2, h3⟩
/-- a row by its numbers alone -/
def QRow (H : Hp) (t : V) (x : Nat × Nat) : Prop := 1 ≤ x.2 ∧ x.2 < 2 ^ 20 ∧ ∃ (c : Addr) (u : V) (r : List V), t = .ref c ∧ H c = some (.tup (u :: .int (x.2 : Int) :: r)) ∧ RootAt H u x.1
theorem RootAt.mono {H H' : Hp} (e : Evl.Ex H H') {v : V} {p : Nat} (h : RootAt H v p) : RootAt H' v p := by
  obtain ⟨h1, h2, a, r, h3, h4⟩ := h
  exact ⟨h1, h2, a, r, h3, e _ _ h4⟩
theorem QRow.mono {H H' : Hp} (e : Evl.Ex H H') {t : V} {x : Nat × Nat} (h : QRow H t x) : QRow H' t x := by
  obtain ⟨h1, h2, c, u, r, h3, h4, h5⟩ := h
  exact ⟨h1, h2, c, u, r, h3, e _ _ h4, h5.mono e⟩
theorem RowAt.q {H : Hp} {d k : Nat} {t : V} {x : Paper × Nat} (h : RowAt (PaperAt H d) H k t x) : QRow H t (x.1.p, x.2) := by
  obtain ⟨h1, h2, c, u, r, h3, h4, h5, h6⟩ := h
  exact ⟨h1, h2, c, u, r, h3, h4, h6.root⟩
theorem paired_map {α β γ : Type} {F : α → β → Prop} {G : α → γ → Prop} {f : β → γ} (fg : ∀ a b, F a b → G a (f b)) : ∀ {l : List α} {m : List β}, Paired F l m → Paired G l (m.map f)
  | _, _, .nil => .nil
  | _, _, .cons r t => .cons (fg _ _ r) (paired_map fg t)
theorem rows_q {H : Hp} {d k : Nat} {ts : List V} {ps : List (Paper × Nat)} (h : Paired (RowAt (PaperAt H d) H k) ts ps) : Paired (QRow H) ts (flat ps) := paired_map (fun _ _ q => q.q) h
theorem paired_get {α β : Type} {F : α → β → Prop} : ∀ {l : List α} {m : List β} {i : Nat} {x : α}, Paired F l m → l[i]? = some x → ∃ y, m[i]? = some y ∧ F x y
  | _, _, _, _, .nil, e => by simp at e
  | _, _, 0, _, .cons r _, e => by
    simp at e
    subst e
    exact ⟨_, rfl, r⟩
  | _, _, i + 1, x, .cons _ t, e => by
    obtain ⟨y, h1, h2⟩ := paired_get (i := i) (x := x) t (by simpa using e)
    exact ⟨y, by simpa using h1, h2⟩
theorem paired_mem {α β : Type} {F : α → β → Prop} {l : List α} {m : List β} (h : Paired F l m) {P : β → Prop} (hp : ∀ a b, F a b → P b) : ∀ y ∈ m, P y := by
  induction h with
  | nil => exact fun _ q => (nomatch q)
  | cons r t ih =>
    intro y hy
    rcases List.mem_cons.mp hy with rfl | hy
    · exact hp _ _ r
    · exact ih y hy

theorem at0 {α : Type} {x : α} {r : List α} : atI (x :: r) 0 = some x := atI_nat (j := 0) rfl
theorem at1 {α : Type} {x y : α} {r : List α} : atI (x :: y :: r) 1 = some y := atI_nat (j := 1) rfl
theorem at2 {α : Type} {x y z : α} {r : List α} : atI (x :: y :: z :: r) 2 = some z := atI_nat (j := 2) rfl

section
variable {K : PySem.W.Frag} {σ : L2.St} {H H' : Hp} {te : TE}
/-- thing[0][0] of a row -/
theorem ev_root {v : V} {x : Nat × Nat} (h : Ev te σ H v) (q : QRow H v x) : Ev (tOp (rIxT K) (tOp (rIxT K) te (tC (.int 0))) (tC (.int 0))) σ H (.int (x.1 : Int)) := by
  obtain ⟨_, _, c, u, r, rfl, h4, _, _, a, r', rfl, h5⟩ := q
  exact ev_op (ev_op h ev_c (rv_ixT (st_of h4) at0)) ev_c (rv_ixT (st_of h5) at0)
theorem ev_many {v : V} {x : Nat × Nat} (h : Ev te σ H v) (q : QRow H v x) : Ev (tOp (rIxT K) te (tC (.int 1))) σ H (.int (x.2 : Int)) := by
  obtain ⟨_, _, c, u, r, rfl, h4, _⟩ := q
  exact ev_op h ev_c (rv_ixT (st_of h4) at1)
theorem rc_isInt {i : Int} {n : String} {b : Bool} (hb : kitB "int" n = some b) : RC (rIsi K) [.int i, .ty n] H (.bl b) := fun H1 _ _ q => ⟨_, _, _, _, b, rfl, .ty n, .base (.int i), kit_ty hb, q H1 (Evl.Ex.refl H1)⟩
theorem rc_isBl {i : Bool} {n : String} {b : Bool} (hb : kitB "bool" n = some b) : RC (rIsi K) [.bl i, .ty n] H (.bl b) := fun H1 _ _ q => ⟨_, _, _, _, b, rfl, .ty n, .base (.bl i), kit_ty hb, q H1 (Evl.Ex.refl H1)⟩
theorem rc_isTup {a : Addr} {xs : List V} {n : String} {b : Bool} (hb : kitB "tuple" n = some b) (ha : H a = some (.tup xs)) : RC (rIsi K) [.ref a, .ty n] H (.bl b) := fun H1 e _ q => ⟨_, _, _, _, b, rfl, .ty n, .base (.tup (e _ _ ha)), kit_ty hb, q H1 (Evl.Ex.refl H1)⟩
theorem ev_lenT {p : Addr} {xs : List V} (ha : Ev te σ H (.ref p)) (h : SqT K H p xs) : Ev (tCB (rLenS K) (tCons te tNil)) σ H (.int (xs.length : Int)) := fun H1 e Q q =>
  ha H1 e _ fun H2 e2 => ⟨p, xs, rfl, Or.inr (ex_t (e.trans e2) h), q H2 e2⟩
end

/-! # is_whole, is_row_of -/
def spIsWhole : Sp := fun vs H Q _ => ∃ i l : Int, vs = [.int i, .int l] ∧ RetV (.bl (decide (l ≤ i))) H Q
def spIsRow : Sp := fun vs H Q _ => ∃ (a : Addr) (xs : List V) (k : Int), vs = [.ref a, .int k] ∧ H a = some (.tup xs) ∧ RetV (.bl (decide ((xs.length : Int) = k))) H Q
section
variable {P : Program} {w : World} {K : PySem.W.Frag} {mg : Str → Option Value} {base : Heap}
theorem scIsWhole : FnScope ["thing", "least"] ["thing", "least"] (defScope sIsWhole) := ⟨rfl, rfl, rfl, by decide +kernel, rfl, by decide +kernel, by decide +kernel⟩
theorem ok_isWhole {f : Addr} {fd : FuncData} (F : Fun K "is_whole" "is_whole" sIsWhole f fd) (mi : mg "isinstance" = none) (mn : mg "int" = none) (mb : mg "bool" = none) : FnOk P w K mg base CX0 1 f fd ["thing", "least"] spIsWhole := by
  refine F.ok scIsWhole (fun vs H Q E h => ?_) (fun cdv A outer s H vs Q E hr h => ?_)
  · obtain ⟨i, l, rfl, _⟩ := h
    rfl
  obtain ⟨i, l, rfl, k⟩ := h
  refine ⟨_, pss_one (ps_ret (pe_and (pe_callB call_isi (by rfl) mi (by decide +kernel) (pa_cons (pv 0) (pa_cons (pe_bltn (v := .ty "int") (by rfl) mn (by decide +kernel) rfl) pa_nil)))
    (pe_and (pe_not (pe_callB call_isi (by rfl) mi (by decide +kernel) (pa_cons (pv 0) (pa_cons (pe_bltn (v := .ty "bool") (by rfl) mb (by decide +kernel) rfl) pa_nil))))
    (pe_one (pe_cmpR op_ge (pv 0) (pv 1) (nomark _)))))), ?_⟩
  refine s_ret (ev_is (ev_andV (ev_cb (ea_cons (ev_var rfl) (ea_cons ev_c ea_nil)) (rc_isInt (b := true) (by decide +kernel))) fun _ =>
    ev_andV (ev_notV (ev_cb (ea_cons (ev_var rfl) (ea_cons ev_c ea_nil)) (rc_isInt (b := false) (by decide +kernel)))) fun _ => ev_op (ev_var rfl) (ev_var rfl) rv_I0) rfl) k
theorem scIsRow : FnScope ["thing", "many"] ["thing", "many"] (defScope sIsRowOf) := ⟨rfl, rfl, rfl, by decide +kernel, rfl, by decide +kernel, by decide +kernel⟩
theorem ok_isRow {f : Addr} {fd : FuncData} (F : Fun K "is_row_of" "is_row_of" sIsRowOf f fd) (mi : mg "isinstance" = none) (mt : mg "tuple" = none) (ml : mg "len" = none) : FnOk P w K mg base CX0 1 f fd ["thing", "many"] spIsRow := by
  refine F.ok scIsRow (fun vs H Q E h => ?_) (fun cdv A outer s H vs Q E hr h => ?_)
  · obtain ⟨a, xs, l, rfl, _⟩ := h
    rfl
  obtain ⟨a, xs, l, rfl, ha, k⟩ := h
  refine ⟨_, pss_one (ps_ret (pe_and (pe_callB call_isi (by rfl) mi (by decide +kernel) (pa_cons (pv 0) (pa_cons (pe_bltn (v := .ty "tuple") (by rfl) mt (by decide +kernel) rfl) pa_nil)))
    (pe_one (pe_cmpR op_eq (pe_callB call_len_seq (by rfl) ml PySem.boot_len (pa_cons (pv 0) pa_nil)) (pv 1) (nomark _))))), ?_⟩
  refine s_ret (ev_is (ev_andV (ev_cb (ea_cons (ev_var rfl) (ea_cons ev_c ea_nil)) (rc_isTup (b := true) (by decide +kernel) ha)) fun _ =>
    ev_op (ev_lenT (ev_var rfl) (st_of ha)) (ev_var rfl) (rv_eq rfl)) ?_) k
  exact congrArg V.bl (by rw [dec_int (c := (xs.length : Int) = l) Iff.rfl, Bool.true_and])

/-! # comes_to -/
/-- things at an address: a tuple of rows -/
def RowsAt (H : Hp) (v : V) (l : List (Nat × Nat)) : Prop := ∃ (b : Addr) (ts : List V), v = .ref b ∧ H b = some (.tup ts) ∧ Paired (QRow H) ts l
def spComesTo : Sp := fun vs H Q _ => ∃ (v : V) (l : List (Nat × Nat)) (n : Nat), vs = [v, .int (n : Int)] ∧ RowsAt H v l ∧ 1 ≤ n ∧ n < 2 ^ 30 ∧ RetV (.bl (decide (prodOf l = n))) H Q
theorem take_more {α : Type} {l : List α} {i : Nat} {x : α} (h : l[i]? = some x) : l.take (i + 1) = l.take i ++ [x] := by
  rw [List.take_succ, h] <;> rfl
theorem drop_here {α : Type} {l : List α} {i : Nat} {x : α} (h : l[i]? = some x) : l.drop i = x :: l.drop (i + 1) := by
  obtain ⟨hi, rfl⟩ := List.getElem?_eq_some_iff.mp h
  exact List.drop_eq_getElem_cons hi
theorem comes_no {l : List (Nat × Nat)} {i j n m : Nat} {x : Nat × Nat} (hx : l[i]? = some x) (h2 : 2 ≤ x.1) (hj : j < x.2) (hn : n = prodOf (l.take i) * (x.1 ^ j * m)) (hn0 : 1 ≤ n) (hd : m % x.1 ≠ 0) : ¬ prodOf l = n := by
  intro e
  have e1 : l = l.take i ++ x :: l.drop (i + 1) := by rw [← drop_here hx, List.take_append_drop]
  have e2 : prodOf l = prodOf (l.take i) * (x.1 ^ x.2 * prodOf (l.drop (i + 1))) := by
    conv => lhs; rw [e1, prodOf_append]
    rfl
  rw [e2, hn] at e
  have p0 : 0 < prodOf (l.take i) := by
    rcases Nat.eq_zero_or_pos (prodOf (l.take i)) with z | z
    · rw [z, Nat.zero_mul] at hn
      omega
    · exact z
  have e3 := Nat.eq_of_mul_eq_mul_left p0 e
  obtain ⟨c, hc⟩ : ∃ c, x.2 = j + (c + 1) := ⟨x.2 - j - 1, by omega⟩
  rw [hc, Nat.pow_add, Nat.mul_assoc] at e3
  have q0 : 0 < x.1 ^ j := Nat.pow_pos (by omega)
  have e4 := Nat.eq_of_mul_eq_mul_left q0 e3
  apply hd
  rw [← e4, Nat.pow_succ, Nat.mul_comm _ x.1, Nat.mul_assoc, Nat.mul_mod_right]
theorem scComes : FnScope ["things", "n", "thing", "k"] ["things", "n"] (defScope sComesTo) := ⟨rfl, rfl, rfl, by decide +kernel, rfl, by decide +kernel, by decide +kernel⟩
theorem ok_comes {f : Addr} {fd : FuncData} (F : Fun K "comes_to" "comes_to" sComesTo f fd) (mr : mg "range" = none) : FnOk P w K mg base CX0 1 f fd ["things", "n"] spComesTo := by
  refine F.ok scComes (fun vs H Q E h => ?_) (fun cdv A outer s H vs Q E hr h => ?_)
  · obtain ⟨v, l, n, rfl, _⟩ := h
    rfl
  obtain ⟨v, l, n, rfl, ⟨b, ts, rfl, hb, hp⟩, hn1, hn2, k⟩ := h
  refine ⟨_, pss_cons (ps_for PassesOwn.never rfl (pi_tup (pv 0)) (pg_name (i := 2) scComes.nd rfl (Or.inl rfl))
    (pss_one (ps_for PassesOwn.never rfl (pi_range1 (by rfl) mr (pa_cons (pe_ix ix_tup (pv 2) pe_int (fun _ _ => rfl)) pa_nil)) (pg_name (i := 3) scComes.nd rfl (Or.inl rfl))
      (pss_cons (ps_if (PW.pt (pw_or (pt_cmpR op_lt (pv 1) pe_int (nomark _)) (pw_or1 (pt_cmpR op_ne (pe_op op_mod (pv 1) (pe_ix ix_tup (pe_ix ix_tup (pv 2) pe_int (fun _ _ => rfl)) pe_int (fun _ _ => rfl))) pe_int (nomark _)))))
        (pss_one (ps_ret pe_bl)) pss_nil)
      (pss_one (ps_set (i := 1) scComes.nd rfl (Or.inl rfl) (pe_op op_fdiv (pv 1) (pe_ix ix_tup (pe_ix ix_tup (pv 2) pe_int (fun _ _ => rfl)) pe_int (fun _ _ => rfl)))))))))
    (pss_one (ps_ret (pe_cmpR op_eq (pv 1) pe_int (nomark _)))), ?_⟩
  refine q_forT (ev_var rfl) (st_of hb) (fun i σ' H' => Evl.Ex H H' ∧ ∃ (m : Nat) (o1 o2 : Option V), σ' = [some (.ref b), some (.int (m : Int)), o1, o2] ∧ 1 ≤ m ∧ n = prodOf (l.take i) * m) ?_ ?_ ?_ ?_
  · exact fun H1 e1 => ⟨e1, n, none, none, rfl, hn1, by simp [prodOf]⟩
  · exact fun i σ' H' _ q => st_of (q.1 _ _ hb)
  · rintro i t σ' H' hi ⟨x, m, o1, o2, rfl, hm1, hm⟩
    obtain ⟨y, hy, hq⟩ := paired_get hp hi
    have hq0 := hq
    obtain ⟨y1, y2, _, _, _, _, _, r2, r3, _⟩ := hq0
    -- the inner loop
    show tFor _ _ _ _ _ _
    refine ev_many (ev_var rfl) (hq.mono x) H' (Evl.Ex.refl H') _ fun H1 e1 => ⟨(y.2 : Int), rfl, by omega, by omega, ?_⟩
    refine for_range (lo := 0) (n := (y.2 : Int).toNat) (fun j σ' H' => Evl.Ex H H' ∧ ∃ (m : Nat) (o2 : Option V), σ' = [some (.ref b), some (.int (m : Int)), some t, o2] ∧ 1 ≤ m ∧ n = prodOf (l.take i) * (y.1 ^ j * m)) ?_ ?_ ?_
    · exact ⟨x.trans e1, m, o2, rfl, hm1, by rw [Nat.pow_zero, Nat.one_mul]; exact hm⟩
    · rintro j σ' H2 hj ⟨x2, m, o2, rfl, hm1, hm⟩
      have y0 : (0 : Int) < (y.1 : Int) := by omega
      have mn : m ≤ n := by
        have p1 : prodOf (l.take i) * (y.1 ^ j * m) ≠ 0 := by omega
        have p2 : 0 < prodOf (l.take i) * y.1 ^ j := by
          rcases Nat.eq_zero_or_pos (prodOf (l.take i) * y.1 ^ j) with z | z
          · rw [← Nat.mul_assoc, z, Nat.zero_mul] at p1
            exact absurd rfl p1
          · exact z
        rw [← Nat.mul_assoc] at hm
        have := Nat.le_mul_of_pos_left m p2
        omega
      refine q_when (b := decide (m % y.1 ≠ 0)) (et_is (et_or (et_test (ev_op (ev_var rfl) ev_c rv_I0)) fun _ => et_test (ev_op (ev_op (ev_var rfl) (ev_root (ev_var rfl) (hq.mono x2)) (rv_I y0)) ev_c (rv_ne rfl))) ?_) (fun hc H3 e3 => ?_) (fun hc H3 e3 => ?_)
      · rw [decide_eq_false (show ¬ (m : Int) < 1 by omega), Bool.false_or, dec_int (c := m % y.1 = 0) (by rw [cast_mod]; omega)]
        exact (decide_not).symm
      · have hc := of_decide_eq_true hc
        refine s_ret ev_c fun H4 e4 => ?_
        have e := k H4 ((x2.trans e3).trans e4)
        rw [decide_eq_false (comes_no hy r2 (by omega) hm hn1 hc)] at e
        exact e
      · have hc : m % y.1 = 0 := by
          have := of_decide_eq_false hc
          omega
        refine s_asg (ev_is (ev_op (ev_var rfl) (ev_root (ev_var rfl) ((hq.mono x2).mono e3)) (rv_I ⟨y0, by omega⟩)) (congrArg V.int (cast_div m y.1))) fun H4 e4 => ?_
        have hdm := Nat.div_add_mod m y.1
        rw [hc, Nat.add_zero] at hdm
        refine ⟨(x2.trans e3).trans e4, m / y.1, _, rfl, ?_, ?_⟩
        · rcases Nat.eq_zero_or_pos (m / y.1) with z | z
          · rw [z, Nat.mul_zero] at hdm
            omega
          · exact z
        · rw [hm, Nat.pow_succ]
          conv => lhs; rw [← hdm]
          ac_rfl
    · rintro σ' H2 ⟨x2, m, o2, rfl, hm1, hm⟩
      refine ⟨x2, m, _, _, rfl, hm1, ?_⟩
      rw [take_more hy, prodOf_append, Nat.mul_assoc]
      simp only [prodOf, Nat.mul_one]
      have : (y.2 : Int).toNat = y.2 := rfl
      rw [this] at hm
      exact hm
  · rintro σ' H' ⟨x, m, o1, o2, rfl, hm1, hm⟩
    refine s_ret (ev_is (ev_op (ev_var rfl) ev_c (rv_eq rfl)) (congrArg V.bl (dec_int (c := prodOf l = n) ?_))) fun H2 e2 => k H2 (x.trans e2)
    rw [List.take_of_length_le (by rw [hp.length]; exact Nat.le_refl _)] at hm
    constructor
    · intro h
      have : m = 1 := by omega
      rw [this, Nat.mul_one] at hm
      exact hm.symm
    · intro h
      rw [← h] at hm
      have p0 : 0 < prodOf l := by omega
      have := Nat.eq_of_mul_eq_mul_left p0 ((Nat.mul_one (prodOf l)).trans hm)
      omega
end
end K27
namespace K27
open PySem L2 Evl
/-! # The small reader -/
/-- a truth told -/
noncomputable def yes (c : Prop) : Bool := @decide c (Classical.propDecidable c)
theorem yes_true {c : Prop} (h : c) : yes c = true := @decide_eq_true c (Classical.propDecidable c) h
theorem yes_false {c : Prop} (h : ¬ c) : yes c = false := @decide_eq_false c (Classical.propDecidable c) h
theorem of_yes {c : Prop} (h : yes c = true) : c := @of_decide_eq_true c (Classical.propDecidable c) h
theorem not_of_yes {c : Prop} (h : yes c = false) : ¬ c := @of_decide_eq_false c (Classical.propDecidable c) h
theorem yes_iff {c : Prop} {b : Bool} (h : b = true ↔ c) : b = yes c := by
  cases b with
  | true => exact (yes_true (h.mp rfl)).symm
  | false => exact (yes_false fun q => Bool.noConfusion (h.mpr q)).symm

theorem rows_snoc {F : Paper → Prop} {l : List (Paper × Nat)} {y : Paper × Nat} : Rows F (l ++ [y]) ↔ Rows F l ∧ (F y.1 ∧ 1 ≤ y.2) ∧ ∀ x ∈ l, x.1.p < y.1.p := by
  unfold Rows
  rw [List.pairwise_append]
  constructor
  · rintro ⟨h1, h2, _, h3⟩
    exact ⟨⟨fun x hx => h1 x (List.mem_append_left _ hx), h2⟩, h1 y (List.mem_append_right _ List.mem_cons_self), fun x hx => h3 x hx y List.mem_cons_self⟩
  · rintro ⟨⟨h1, h2⟩, h3, h4⟩
    refine ⟨fun x hx => ?_, h2, List.pairwise_singleton _ _, fun x hx z hz => ?_⟩
    · rcases List.mem_append.mp hx with q | q
      · exact h1 x q
      · rw [List.mem_singleton] at q
        rw [q]
        exact h3
    · rw [List.mem_singleton] at hz
      rw [hz]
      exact h4 x hx
theorem rows_take {F : Paper → Prop} {l : List (Paper × Nat)} (n : Nat) (h : Rows F l) : Rows F (l.take n) :=
  ⟨fun x hx => h.1 x (List.mem_of_mem_take hx), h.2.sublist (List.take_sublist _ _)⟩

def spIsPrime (d : Nat) : Sp := fun vs H Q _ => ∃ (v : V) (t : Paper), vs = [v] ∧ PaperAt H d v t ∧ RetV (.bl (yes (Ok d t))) H Q
def PapersAt (H : Hp) (d k : Nat) (v : V) (ps : List (Paper × Nat)) : Prop := ∃ (b : Addr) (ts : List V), v = .ref b ∧ H b = some (.tup ts) ∧ Paired (RowAt (PaperAt H d) H k) ts ps
theorem PapersAt.q {H : Hp} {d k : Nat} {v : V} {ps : List (Paper × Nat)} (h : PapersAt H d k v ps) : RowsAt H v (flat ps) := by
  obtain ⟨b, ts, h1, h2, h3⟩ := h
  exact ⟨b, ts, h1, h2, rows_q h3⟩
theorem PapersAt.mono {H H' : Hp} {d k : Nat} {v : V} {ps : List (Paper × Nat)} (e : Evl.Ex H H') (h : PapersAt H d k v ps) : PapersAt H' d k v ps := by
  obtain ⟨b, ts, h1, h2, h3⟩ := h
  exact ⟨b, ts, h1, e _ _ h2, L2.Paired.mapP h3 fun _ _ q => RowAt.mono e (fun _ _ z => PaperAt.mono e z) q⟩
theorem RowsAt.mono {H H' : Hp} {v : V} {l : List (Nat × Nat)} (e : Evl.Ex H H') (h : RowsAt H v l) : RowsAt H' v l := by
  obtain ⟨b, ts, h1, h2, h3⟩ := h
  exact ⟨b, ts, h1, e _ _ h2, L2.Paired.mapP h3 fun _ _ q => q.mono e⟩
def spArePapers (d : Nat) : Sp := fun vs H Q _ => ∃ (v : V) (k : Nat) (ps : List (Paper × Nat)), vs = [v, .int (k : Int)] ∧ PapersAt H d k v ps ∧ RetV (.bl (yes (Rows (Ok d) ps))) H Q
def spIsParting (d : Nat) : Sp := fun vs H Q _ => ∃ (v : V) (n : Nat) (ps : List (Paper × Nat)), vs = [.int (n : Int), v] ∧ PapersAt H d 2 v ps ∧ 1 ≤ n ∧ n < 2 ^ 30 ∧ RetV (.bl (yes (Rows (Ok d) ps ∧ prodOf (flat ps) = n))) H Q

section
variable {P : Program} {w : World} {K : PySem.W.Frag} {mg : Str → Option Value} {base : Heap}
theorem spv_ret {sp : Sp} {vs : List V} {H : Hp} {z : V} (h : ∀ H1, Evl.Ex H H1 → ∀ Q E, RetV z H1 Q → sp vs H1 Q E) : SpV sp vs H z := fun H1 e Q q E => h H1 e Q E q

theorem scAre : FnScope ["things", "many", "last", "thing"] ["things", "many"] (defScope sArePapers) := ⟨rfl, rfl, rfl, by decide +kernel, rfl, by decide +kernel, by decide +kernel⟩
theorem ok_are {d k : Nat} {f : Addr} {fd : FuncData} (F : Fun K "are_papers" "are_papers" sArePapers f fd) (mi : mg "isinstance" = none) (mt : mg "tuple" = none) (hk : 1 ≤ k)
    (DR : Knows P w K mg base "is_row_of" ["thing", "many"] 1 spIsRow) (DW : Knows P w K mg base "is_whole" ["thing", "least"] 1 spIsWhole) (DP : Knows P w K mg base "is_prime_paper" ["thing"] k (spIsPrime d)) :
    FnOk P w K mg base CX0 (k + 1) f fd ["things", "many"] (spArePapers d) := by
  refine F.ok scAre (fun vs H Q E h => ?_) (fun cdv A outer s H vs Q E hr h => ?_)
  · obtain ⟨v, k, ps, rfl, _⟩ := h
    rfl
  obtain ⟨v, m, ps, rfl, ⟨b, ts, rfl, hb, hp⟩, kk⟩ := h
  have hr1 : Room 1 _ := hr.mono hk
  refine ⟨_, pss_cons (ps_if (pt_not (pt_val (pe_callB call_isi (by rfl) mi (by decide +kernel) (pa_cons (pv 0) (pa_cons (pe_bltn (v := .ty "tuple") (by rfl) mt (by decide +kernel) rfl) pa_nil))))) (pss_one (ps_ret pe_bl)) pss_nil)
    (pss_cons (ps_set (i := 2) scAre.nd rfl (Or.inl rfl) pe_int)
    (pss_cons (ps_for PassesOwn.never rfl (pi_tup (pv 0)) (pg_name (i := 3) scAre.nd rfl (Or.inl rfl))
      (pss_cons (ps_if (PW.pt (pw_or (pt_not (pt_val (pe_k DR hr1 (pa_cons (pv 3) (pa_cons (pv 1) pa_nil))))) (pw_or (pt_not (pt_val (pe_k DP hr (pa_cons (pe_ix ix_tup (pv 3) pe_int (fun _ _ => rfl)) pa_nil)))) (pw_or1 (pt_not (pt_val (pe_k DW hr1 (pa_cons (pe_ix ix_tup (pv 3) pe_int (fun _ _ => rfl)) (pa_cons pe_int pa_nil)))))))))
        (pss_one (ps_ret pe_bl)) pss_nil)
      (pss_cons (ps_if (pt_cmpR op_le (pe_ix ix_tup (pe_ix ix_tup (pv 3) pe_int (fun _ _ => rfl)) pe_int (fun _ _ => rfl)) (pv 2) (nomark _)) (pss_one (ps_ret pe_bl)) pss_nil)
      (pss_one (ps_set (i := 2) scAre.nd rfl (Or.inl rfl) (pe_ix ix_tup (pe_ix ix_tup (pv 3) pe_int (fun _ _ => rfl)) pe_int (fun _ _ => rfl)))))))
    (pss_one (ps_ret pe_bl)))), ?_⟩
  refine q_when (b := false) (et_not (et_B (ev_cb (ea_cons (ev_var rfl) (ea_cons ev_c ea_nil)) (rc_isTup (b := true) (by decide +kernel) hb)))) (fun hc => Bool.noConfusion hc) (fun _ H1 e1 => ?_)
  refine q_asg ev_c fun H2 e2 => ?_
  refine q_forT (ev_var rfl) (st_of (e2 _ _ (e1 _ _ hb))) (fun i σ' H' => Evl.Ex H H' ∧ ∃ (l : Nat) (o : Option V), σ' = [some (.ref b), some (.int (m : Int)), some (.int (l : Int)), o] ∧ Rows (Ok d) (ps.take i) ∧ (l = 1 ∨ ∃ x ∈ ps.take i, x.1.p = l) ∧ (∀ x ∈ ps.take i, x.1.p ≤ l)) ?_ ?_ ?_ ?_
  · exact fun H3 e3 => ⟨(e1.trans e2).trans e3, 1, none, rfl, ⟨fun _ q => (nomatch q), .nil⟩, .inl rfl, fun _ q => (nomatch q)⟩
  · exact fun i σ' H' _ q => st_of (q.1 _ _ hb)
  · rintro i t σ' H' hi ⟨x, l, o, rfl, hR, hl, hle⟩
    obtain ⟨y, hy, hq⟩ := paired_get hp hi
    have hq' := RowAt.mono (G := PaperAt H' d) x (fun _ _ z => PaperAt.mono x z) hq
    have hqq := hq'.q
    obtain ⟨y1, y2, c, u, r, rfl, hc, hlen, hu⟩ := hq'
    show tSeq _ _ _ _ _
    refine q_when (b := !(yes (Ok d y.1))) (et_is (et_or (et_not (et_B (ev_call (z := .bl true) (ea_cons (ev_var rfl) (ea_cons (ev_var rfl) ea_nil)) (spv_ret fun H3 e3 Q E q => ⟨c, _, m, rfl, e3 _ _ hc, by
        have : decide ((((u :: V.int (y.2 : Int) :: r).length : Nat) : Int) = (m : Int)) = true := decide_eq_true (by rw [← hlen]; rfl)
        rw [this]
        exact q⟩)))) fun _ => et_or (et_not (et_B (ev_call (z := .bl (yes (Ok d y.1))) (ea_cons (ev_op (ev_var rfl) ev_c (rv_ixT (st_of hc) at0)) ea_nil) (spv_ret fun H3 e3 Q E q => ⟨u, y.1, rfl, PaperAt.mono e3 hu, q⟩)))) fun _ =>
      et_not (et_B (ev_call (z := .bl true) (ea_cons (ev_op (ev_var rfl) ev_c (rv_ixT (st_of hc) at1)) (ea_cons ev_c ea_nil)) (spv_ret fun H3 e3 Q E q => ⟨(y.2 : Int), 1, rfl, by
        have : decide ((1 : Int) ≤ (y.2 : Int)) = true := decide_eq_true (by omega)
        rw [this]
        exact q⟩)))) (by simp)) (fun hc1 H3 e3 => ?_) (fun hc1 H3 e3 => ?_)
    · refine s_ret ev_c fun H4 e4 => ?_
      have e := kk H4 ((x.trans e3).trans e4)
      have no : ¬ Rows (Ok d) ps := fun q => by
        have q2 := rows_take (i + 1) q
        rw [take_more hy, rows_snoc] at q2
        rw [yes_true q2.2.1.1] at hc1
        exact Bool.noConfusion hc1
      rw [yes_false no] at e
      exact e
    · have hok : Ok d y.1 := by
        cases e : yes (Ok d y.1) with
        | true => exact of_yes e
        | false =>
          rw [e] at hc1
          exact Bool.noConfusion hc1
      have hroot := hqq.mono e3
      refine q_when (b := decide (y.1.p ≤ l)) (et_is (et_test (ev_op (ev_root (ev_var rfl) hroot) (ev_var rfl) rv_I0)) (by simp)) (fun hc2 H4 e4 => ?_) (fun hc2 H4 e4 => ?_)
      · have hc2 := of_decide_eq_true hc2
        refine s_ret ev_c fun H5 e5 => ?_
        have e := kk H5 (((x.trans e3).trans e4).trans e5)
        have no : ¬ Rows (Ok d) ps := fun q => by
          have q2 := rows_take (i + 1) q
          rw [take_more hy, rows_snoc] at q2
          have p2 := (ok_prm hok).1
          rcases hl with z | ⟨z, hz, e0⟩
          · omega
          · have := q2.2.2 z hz
            omega
        rw [yes_false no] at e
        exact e
      · have hc2 := of_decide_eq_false hc2
        refine s_asg (ev_root (ev_var rfl) (hroot.mono e4)) fun H5 e5 => ?_
        have hlt : ∀ x ∈ ps.take i, x.1.p < y.1.p := fun z hz => by
          have := hle z hz
          omega
        refine ⟨((x.trans e3).trans e4).trans e5, y.1.p, _, rfl, ?_, .inr ⟨y, ?_, rfl⟩, fun z hz => ?_⟩
        · rw [take_more hy, rows_snoc]
          exact ⟨hR, ⟨hok, y1⟩, hlt⟩
        · rw [take_more hy]
          exact List.mem_append_right _ List.mem_cons_self
        · rw [take_more hy] at hz
          rcases List.mem_append.mp hz with q | q
          · have := hlt z q
            omega
          · rw [List.mem_singleton] at q
            rw [q]
            exact Nat.le_refl _
  · rintro σ' H' ⟨x, l, o, rfl, hR, hl, hle⟩
    rw [List.take_of_length_le (by rw [hp.length]; exact Nat.le_refl _)] at hR
    refine s_ret ev_c fun H3 e3 => ?_
    have e := kk H3 (x.trans e3)
    rw [yes_true hR] at e
    exact e

theorem scIsParting : FnScope ["n", "thing"] ["n", "thing"] (defScope sIsParting) := ⟨rfl, rfl, rfl, by decide +kernel, rfl, by decide +kernel, by decide +kernel⟩
theorem ok_isParting {d k : Nat} {f : Addr} {fd : FuncData} (F : Fun K "is_parting_paper" "is_parting_paper" sIsParting f fd) (hk : 1 ≤ k)
    (DC : Knows P w K mg base "comes_to" ["things", "n"] 1 spComesTo) (DA : Knows P w K mg base "are_papers" ["things", "many"] k (spArePapers d)) :
    FnOk P w K mg base CX0 (k + 1) f fd ["n", "thing"] (spIsParting d) := by
  refine F.ok scIsParting (fun vs H Q E h => ?_) (fun cdv A outer s H vs Q E hr h => ?_)
  · obtain ⟨v, k, ps, rfl, _⟩ := h
    rfl
  obtain ⟨v, n, ps, rfl, hp, hn1, hn2, kk⟩ := h
  have hr1 : Room 1 _ := hr.mono hk
  refine ⟨_, pss_one (ps_ret (pe_and (pe_cmpR op_ge (pv 0) pe_int (nomark _)) (pe_and (pe_k DA hr (pa_cons (pv 1) (pa_cons pe_int pa_nil))) (pe_one (pe_k DC hr1 (pa_cons (pv 1) (pa_cons (pv 0) pa_nil))))))), ?_⟩
  refine s_ret (ev_is (ev_andV (ev_op (ev_var rfl) ev_c rv_I0) fun _ => ev_andV (ev_call (z := .bl (yes (Rows (Ok d) ps))) (ea_cons (ev_var rfl) (ea_cons ev_c ea_nil)) (spv_ret fun H3 e3 Q E q => ⟨v, 2, ps, rfl, hp.mono e3, q⟩)) fun _ =>
    ev_call (z := .bl (decide (prodOf (flat ps) = n))) (ea_cons (ev_var rfl) (ea_cons (ev_var rfl) ea_nil)) (spv_ret fun H3 e3 Q E q => ⟨v, flat ps, n, rfl, hp.q.mono e3, hn1, hn2, q⟩)) (congrArg V.bl (yes_iff ?_))) kk
  rw [decide_eq_true (show (1 : Int) ≤ (n : Int) by omega), Bool.true_and, Bool.and_eq_true]
  exact ⟨fun q => ⟨of_yes q.1, of_decide_eq_true q.2⟩, fun q => ⟨yes_true q.1, decide_eq_true q.2⟩⟩
end
end K27
namespace K27
open PySem L2 Evl
/-! # is_prime_paper, by the depth; is_order_paper -/
section
variable {P : Program} {w : World} {K : PySem.W.Frag} {mg : Str → Option Value} {base : Heap}
theorem fulls_any {p f n : Nat} {ps : List (Paper × Nat)} : (((ps.take n).map fun x => decide (f ^ ((p - 1) / x.1.p) % p = 1)).any id) = false ↔ ∀ x ∈ ps.take n, f ^ ((p - 1) / x.1.p) % p ≠ 1 := by
  rw [List.any_eq_false]
  constructor
  · intro h x hx e
    exact h true (List.mem_map.mpr ⟨x, hx, decide_eq_true e⟩) rfl
  · intro h b hb
    obtain ⟨x, hx, rfl⟩ := List.mem_map.mp hb
    show ¬ decide (f ^ ((p - 1) / x.1.p) % p = 1) = true
    rw [decide_eq_false (h x hx)]
    exact Bool.false_ne_true

theorem small1m {n : Nat} (h : n < 2 ^ 20) : n < sizeLine := Nat.lt_of_lt_of_le h (by decide)
theorem pow_len_le : ∀ {l : List (Nat × Nat)}, (∀ x ∈ l, 2 ≤ x.1 ∧ 1 ≤ x.2) → 2 ^ l.length ≤ prodOf l
  | [], _ => Nat.le_refl _
  | x :: r, h => by
    have h1 := pow_len_le (l := r) fun y hy => h y (List.mem_cons_of_mem _ hy)
    obtain ⟨a, b⟩ := h x List.mem_cons_self
    have h2 : 2 ≤ x.1 ^ x.2 := by
      obtain ⟨k, hk⟩ : ∃ k, x.2 = k + 1 := ⟨x.2 - 1, by omega⟩
      rw [hk, Nat.pow_succ]
      have : 1 ≤ x.1 ^ k := Nat.pow_pos (by omega)
      have := Nat.mul_le_mul this a
      omega
    rw [List.length_cons, Nat.pow_succ]
    have := Nat.mul_le_mul h2 h1
    simp only [prodOf]
    omega
theorem len_lt {l : List (Nat × Nat)} (h : ∀ x ∈ l, 2 ≤ x.1 ∧ 1 ≤ x.2) : l.length < prodOf l := Nat.lt_of_lt_of_le (Nat.lt_two_pow_self) (pow_len_le h)
/-- power(p, full, (p - 1) // part[0][0]) == 1, p in slot 1, full 2, part 4 -/
def tFullBy (K : PySem.W.Frag) : TE := tOp rEq (tCall spPower [] E0 (tCons (tVar 1) (tCons (tVar 2) (tCons (tOp (rI CDiv fun i j => .int (i / j)) (tOp (rI0 fun i j => .int (i - j)) (tVar 1) (tC (.int 1))) (tOp (rIxT K) (tOp (rIxT K) (tVar 4) (tC (.int 0))) (tC (.int 0)))) tNil)))) (tC (.int 1))
theorem scIsPrime : FnScope ["thing", "p", "full", "parts", "part"] ["thing"] (defScope sIsPrime) := ⟨rfl, rfl, rfl, by decide +kernel, rfl, by decide +kernel, by decide +kernel⟩
theorem ok_isPrime {d k : Nat} {f : Addr} {fd : FuncData} (F : Fun K "is_prime_paper" "is_prime_paper" sIsPrime f fd) (ma : mg "any" = none) (hk : 1 ≤ k)
    (DR : Knows P w K mg base "is_row_of" ["thing", "many"] 1 spIsRow) (DW : Knows P w K mg base "is_whole" ["thing", "least"] 1 spIsWhole) (DPw : Knows P w K mg base "power" ["n", "a", "e"] 1 spPower)
    (DP : Knows P w K mg base "is_parting_paper" ["n", "thing"] k (spIsParting d)) :
    FnOk P w K mg base CX0 (k + 1) f fd ["thing"] (spIsPrime (d + 1)) := by
  refine F.ok scIsPrime (fun vs H Q E h => ?_) (fun cdv A outer s H vs Q E hr h => ?_)
  · obtain ⟨v, t, rfl, _⟩ := h
    rfl
  obtain ⟨v, ⟨p, g, ps⟩, rfl, ⟨⟨p2, p20, g1, gp⟩, a, b, ts, rfl, ha, hb, hp⟩, kk⟩ := h
  have hr1 : Room 1 _ := hr.mono hk
  refine ⟨_, pss_cons (ps_if (PW.pt (pw_or (pt_not (pt_val (pe_k DR hr1 (pa_cons (pv 0) (pa_cons pe_int pa_nil))))) (pw_or (pt_not (pt_val (pe_k DW hr1 (pa_cons (pe_ix ix_tup (pv 0) pe_int (fun _ _ => rfl)) (pa_cons pe_int pa_nil)))))
      (pw_or1 (pt_not (pt_val (pe_k DW hr1 (pa_cons (pe_ix ix_tup (pv 0) pe_int (fun _ _ => rfl)) (pa_cons pe_int pa_nil))))))))) (pss_one (ps_ret pe_bl)) pss_nil)
    (pss_cons (ps_asg (pv 0) (pg_tup rfl (pgs_cons (pg_name (i := 1) scIsPrime.nd rfl (Or.inr rfl)) (pgs_cons (pg_name (i := 2) scIsPrime.nd rfl (Or.inr rfl)) (pgs_cons (pg_name (i := 3) scIsPrime.nd rfl (Or.inl rfl)) pgs_nil)))))
    (pss_cons (ps_if (PW.pt (pw_or (pt_cmpR op_ge (pv 2) (pv 1) (nomark _)) (pw_or (pt_not (pt_val (pe_k DP hr (pa_cons (pe_op op_sub (pv 1) pe_int) (pa_cons (pv 3) pa_nil)))))
      (pw_or1 (pt_cmpR op_ne (pe_k DPw hr1 (pa_cons (pv 1) (pa_cons (pv 2) (pa_cons (pe_op op_sub (pv 1) pe_int) pa_nil)))) pe_int (nomark _)))))) (pss_one (ps_ret pe_bl)) pss_nil)
    (pss_one (ps_ret (pe_not (pe_callB (cr_any rfl) (by rfl) ma (by decide +kernel) (pa_cons (pe_lc (own := [("part", 4)]) (g := gName 4) (te := tFullBy K) (by rfl) scIsPrime.nd (pi_tup (pv 3))
      (blkOk_by (own := [("part", 4)]) (N := ["thing", "p", "full", "parts", "part"]) (sc := defScope sIsPrime) (by decide +kernel)) (fun _ _ _ _ _ => pg_name (i := 4) scIsPrime.nd rfl (Or.inl rfl)) (fun _ _ _ _ _ => pts_nil)
      (fun _ _ _ _ _ => pe_cmpR op_eq (pe_k DPw hr1 (pa_cons (pv 1) (pa_cons (pv 2) (pa_cons (pe_op op_fdiv (pe_op op_sub (pv 1) pe_int) (pe_ix ix_tup (pe_ix ix_tup (pv 4) pe_int (fun _ _ => rfl)) pe_int (fun _ _ => rfl))) pa_nil)))) pe_int (nomark _))) pa_nil))))))), ?_⟩
  have c1 : ((p : Int) - 1) = ((p - 1 : Nat) : Int) := by omega
  have hps : PapersAt H d 2 (.ref b) ps := ⟨b, ts, rfl, hb, hp⟩
  refine q_when (b := false) (et_is (et_or (et_not (et_B (ev_call (z := .bl true) (ea_cons (ev_var rfl) (ea_cons ev_c ea_nil)) (spv_ret fun H3 e3 Q E q => ⟨a, _, 3, rfl, e3 _ _ ha, q⟩)))) fun _ =>
    et_or (et_not (et_B (ev_call (z := .bl true) (ea_cons (ev_op (ev_var rfl) ev_c (rv_ixT (st_of ha) at0)) (ea_cons ev_c ea_nil)) (spv_ret fun H3 e3 Q E q => ⟨(p : Int), 2, rfl, by
      rw [decide_eq_true (show (2 : Int) ≤ (p : Int) by omega)]
      exact q⟩)))) fun _ => et_not (et_B (ev_call (z := .bl true) (ea_cons (ev_op (ev_var rfl) ev_c (rv_ixT (st_of ha) at1)) (ea_cons ev_c ea_nil)) (spv_ret fun H3 e3 Q E q => ⟨(g : Int), 1, rfl, by
      rw [decide_eq_true (show (1 : Int) ≤ (g : Int) by omega)]
      exact q⟩)))) rfl) (fun hc => Bool.noConfusion hc) (fun _ H1 e1 => ?_)
  refine ⟨_, rfl, a, _, rfl, st_of (e1 _ _ ha), rfl, _, _, rfl, _, _, rfl, _, _, rfl, rfl, ?_⟩
  have pwN : ∀ (e : Nat) H3, Evl.Ex H H3 → SpV spPower ([V.int (p : Int), .int (g : Int), .int (e : Int)] ++ []) H3 (.int ((g ^ e % p : Nat) : Int)) := fun e H3 e3 => spv_ret fun H4 e4 Q E q => ⟨p, (g : Int), e, rfl, by omega, by omega, by
    rw [pw_nat]
    exact q⟩
  refine q_when (b := !(yes ((Rows (Ok d) ps ∧ prodOf (flat ps) = p - 1) ∧ g ^ (p - 1) % p = 1))) (et_is (et_or (et_test (ev_op (ev_var rfl) (ev_var rfl) rv_I0)) fun _ => et_or (et_not (et_B (ev_call (z := .bl (yes (Rows (Ok d) ps ∧ prodOf (flat ps) = p - 1))) (ea_cons (ev_is (ev_op (ev_var rfl) ev_c rv_I0) (congrArg V.int c1)) (ea_cons (ev_var rfl) ea_nil))
      (spv_ret fun H3 e3 Q E q => ⟨.ref b, p - 1, ps, rfl, hps.mono (e1.trans e3), by omega, by omega, q⟩)))) fun _ => et_test (ev_op (ev_call (ea_cons (ev_var rfl) (ea_cons (ev_var rfl) (ea_cons (ev_is (ev_op (ev_var rfl) ev_c rv_I0) (congrArg V.int c1)) ea_nil))) (pwN (p - 1) _ e1)) ev_c (rv_ne rfl))) ?_) (fun hc H3 e3 => ?_) (fun hc H3 e3 => ?_)
  · rw [decide_eq_false (show ¬ (p : Int) ≤ (g : Int) by omega), Bool.false_or, dec_int (c := g ^ (p - 1) % p = 1) (by omega), ← Bool.not_and]
    refine congrArg not (yes_iff ?_)
    rw [Bool.and_eq_true]
    exact ⟨fun q => ⟨of_yes q.1, of_decide_eq_true q.2⟩, fun q => ⟨yes_true q.1, decide_eq_true q.2⟩⟩
  · refine s_ret ev_c fun H4 e4 => ?_
    have e := kk H4 ((e1.trans e3).trans e4)
    have no : ¬ Ok (d + 1) (.mk p g ps) := fun q => by
      rw [yes_true ⟨q.2.1, q.2.2.1⟩] at hc
      exact Bool.noConfusion hc
    rw [yes_false no] at e
    exact e
  · have hok : (Rows (Ok d) ps ∧ prodOf (flat ps) = p - 1) ∧ g ^ (p - 1) % p = 1 := by
      refine of_yes ?_
      cases e : yes ((Rows (Ok d) ps ∧ prodOf (flat ps) = p - 1) ∧ g ^ (p - 1) % p = 1) with
      | true => rfl
      | false =>
        rw [e] at hc
        exact Bool.noConfusion hc
    have xx : Evl.Ex H H3 := e1.trans e3
    -- any of the list
    refine ⟨_, rfl, b, rfl, ⟨ts, st_of (xx _ _ hb)⟩, fun D hD => ?_⟩
    refine lc_tup (xs := ts) (fun i H' => Evl.Ex H3 H' ∧ H' D = some (.lst (((ps.take i).map fun x => decide (g ^ ((p - 1) / x.1.p) % p = 1)).map V.bl))) ?_ ?_ ?_ ?_
    · exact ⟨Evl.Ex.new hD, upd_same⟩
    · exact fun i H' _ q => st_of (q.1 _ _ (xx _ _ hb))
    · rintro i t H' hi ⟨x, hL⟩
      obtain ⟨y, hy, hq⟩ := paired_get hp hi
      have hqq := hq.q.mono (xx.trans x)
      have y2 := hqq.2.2
      obtain ⟨_, _, _, _, _, _, _, r2, r3, _⟩ := hq.q
      refine ⟨rfl, ?_⟩
      show tFullBy K _ H' _
      refine ev_op (ev_call (ea_cons (ev_var rfl) (ea_cons (ev_var rfl) (ea_cons (ev_is (ev_op (ev_is (ev_op (ev_var rfl) ev_c rv_I0) (congrArg V.int c1)) (ev_root (ev_var rfl) hqq) (rv_I ⟨by omega, by omega⟩)) (congrArg V.int (cast_div (p - 1) y.1.p))) ea_nil))) (pwN ((p - 1) / y.1.p) _ (xx.trans x))) ev_c (rv_eq rfl) H' (Evl.Ex.refl H') _ fun H4 e4 => ?_
      refine ⟨_, e4 _ _ hL, ?_, ?_, ?_⟩
      · rw [List.length_map, List.length_map, List.length_take]
        have := (List.getElem?_eq_some_iff.mp hy).1
        refine Nat.lt_of_le_of_lt (Nat.min_le_right _ _) ?_
        have l1 := len_lt (l := flat ps) fun z hz => by
          obtain ⟨z', hz', rfl⟩ := List.mem_map.mp hz
          exact ⟨(ok_prm (hok.1.1.1 z' hz').1).1, (hok.1.1.1 z' hz').2⟩
        rw [hok.1.2, flat, List.length_map] at l1
        exact small1m (by omega)
      · exact Ex.mut (x.trans e4) hD
      · rw [upd_same, take_more hy, List.map_append, List.map_append, dec_int (c := g ^ ((p - 1) / y.1.p) % p = 1) (by omega)]
        rfl
    · rintro H' ⟨x, hL⟩
      refine ⟨D, _, rfl, sq_of hL, _, rfl, ?_⟩
      have e := kk H' (xx.trans x)
      have fin : yes (Ok (d + 1) (.mk p g ps)) = !(((ps.take ts.length).map fun x => decide (g ^ ((p - 1) / x.1.p) % p = 1)).any id) := by
        refine (yes_iff ?_).symm
        rw [Bool.not_eq_true', fulls_any, List.take_of_length_le (by rw [hp.length]; exact Nat.le_refl _)]
        exact ⟨fun q => ⟨⟨p2, g1, gp⟩, hok.1, hok.2, q⟩, fun q => q.2.2.2⟩
      rw [fin] at e
      exact e
end
end K27
namespace K27
open PySem L2 Evl
section
variable {P : Program} {w : World} {K : PySem.W.Frag} {mg : Str → Option Value} {base : Heap}
/-! # the readers of papers, by the depth -/
theorem prime_none {f : Addr} {fd : FuncData} : FnOk P w K mg base CX0 1 f fd ["thing"] (spIsPrime 0) := by
  have no : ∀ vs H Q E, ¬ spIsPrime 0 vs H Q E := fun vs H Q E ⟨_, _, _, h, _⟩ => h
  exact ⟨fun vs H Q E h => absurd h (no vs H Q E), fun A outer s H args us vs Q E _ _ _ _ h => absurd h (no vs H Q E)⟩
/-- what the readers' proofs lean on -/
structure Readers (P : Program) (w : World) (K : PySem.W.Frag) (mg : Str → Option Value) (base : Heap) : Prop where
  row : Knows P w K mg base "is_row_of" ["thing", "many"] 1 spIsRow
  whole : Knows P w K mg base "is_whole" ["thing", "least"] 1 spIsWhole
  power : Knows P w K mg base "power" ["n", "a", "e"] 1 spPower
  comes : Knows P w K mg base "comes_to" ["things", "n"] 1 spComesTo
  are : ∃ f fd, At K mg "are_papers" sArePapers ["things", "many"] f fd
  parting : ∃ f fd, At K mg "is_parting_paper" sIsParting ["n", "thing"] f fd
  prime : ∃ f fd, At K mg "is_prime_paper" sIsPrime ["thing"] f fd
  mi : mg "isinstance" = none
  mt : mg "tuple" = none
  ma : mg "any" = none
theorem Readers.are_of (R : Readers P w K mg base) {d k : Nat} (hk : 1 ≤ k) (h : Knows P w K mg base "is_prime_paper" ["thing"] k (spIsPrime d)) : Knows P w K mg base "are_papers" ["things", "many"] (k + 1) (spArePapers d) := by
  obtain ⟨f, fd, A⟩ := R.are
  exact A.knows (ok_are A.F R.mi R.mt hk R.row R.whole h)
theorem Readers.parting_of (R : Readers P w K mg base) {d k : Nat} (hk : 1 ≤ k) (h : Knows P w K mg base "are_papers" ["things", "many"] k (spArePapers d)) : Knows P w K mg base "is_parting_paper" ["n", "thing"] (k + 1) (spIsParting d) := by
  obtain ⟨f, fd, A⟩ := R.parting
  exact A.knows (ok_isParting A.F hk R.comes h)
theorem Readers.prime_of (R : Readers P w K mg base) {d k : Nat} (hk : 1 ≤ k) (h : Knows P w K mg base "is_parting_paper" ["n", "thing"] k (spIsParting d)) : Knows P w K mg base "is_prime_paper" ["thing"] (k + 1) (spIsPrime (d + 1)) := by
  obtain ⟨f, fd, A⟩ := R.prime
  exact A.knows (ok_isPrime A.F R.ma hk R.row R.whole R.power h)
theorem Readers.prime_all (R : Readers P w K mg base) : ∀ d : Nat, Knows P w K mg base "is_prime_paper" ["thing"] (3 * d + 1) (spIsPrime d)
  | 0 => by
    obtain ⟨f, fd, A⟩ := R.prime
    exact A.knows prime_none
  | d + 1 => R.prime_of (by omega) (R.parting_of (by omega) (R.are_of (by omega) (R.prime_all d)))
theorem Readers.are_all (R : Readers P w K mg base) (d : Nat) : Knows P w K mg base "are_papers" ["things", "many"] (3 * d + 2) (spArePapers d) := R.are_of (by omega) (R.prime_all d)

/-! # is_order_paper -/
def Row3At (H : Hp) (d : Nat) (t : V) (x : Paper × Nat × Nat) : Prop := 1 ≤ x.2.1 ∧ x.2.1 < 2 ^ 20 ∧ ∃ (c : Addr) (u : V), t = .ref c ∧ H c = some (.tup [u, .int (x.2.1 : Int), .int (x.2.2 : Int)]) ∧ PaperAt H d u x.1
theorem Row3At.mono {H H' : Hp} {d : Nat} {t : V} {x : Paper × Nat × Nat} (e : Evl.Ex H H') (h : Row3At H d t x) : Row3At H' d t x := by
  obtain ⟨h1, h2, c, u, h3, h4, h5⟩ := h
  exact ⟨h1, h2, c, u, h3, e _ _ h4, h5.mono e⟩
theorem Row3At.row {H : Hp} {d : Nat} {t : V} {x : Paper × Nat × Nat} (h : Row3At H d t x) : RowAt (PaperAt H d) H 3 t (x.1, x.2.1) := by
  obtain ⟨h1, h2, c, u, h3, h4, h5⟩ := h
  exact ⟨h1, h2, c, u, _, h3, h4, rfl, h5⟩
def OrderAt (H : Hp) (d : Nat) (v : V) (e : Nat) (qs : List (Paper × Nat × Nat)) : Prop := ∃ (a b : Addr) (ts : List V), v = .ref a ∧ H a = some (.tup [.int (e : Int), .ref b]) ∧ H b = some (.tup ts) ∧ Paired (Row3At H d) ts qs
def spIsOrder (d : Nat) : Sp := fun vs H Q _ => ∃ (v : V) (n : Nat) (a : Int) (e : Nat) (qs : List (Paper × Nat × Nat)), vs = [.int (n : Int), .int a, v] ∧ OrderAt H d v e qs ∧ (2 ≤ n ∧ n < 2 ^ 30) ∧ (1 ≤ e ∧ e < 2 ^ 30) ∧ RetV (.bl (yes (OrderOk d n a e qs))) H Q
theorem scIsOrder : FnScope ["n", "a", "thing", "e", "parts", "part", "rest"] ["n", "a", "thing"] (defScope sIsOrder) := ⟨rfl, rfl, rfl, by decide +kernel, rfl, by decide +kernel, by decide +kernel⟩
theorem ok_isOrder {d k : Nat} {f : Addr} {fd : FuncData} (F : Fun K "is_order_paper" "is_order_paper" sIsOrder f fd) (hk : 1 ≤ k)
    (DR : Knows P w K mg base "is_row_of" ["thing", "many"] 1 spIsRow) (DW : Knows P w K mg base "is_whole" ["thing", "least"] 1 spIsWhole) (DPw : Knows P w K mg base "power" ["n", "a", "e"] 1 spPower)
    (DC : Knows P w K mg base "comes_to" ["things", "n"] 1 spComesTo) (DA : Knows P w K mg base "are_papers" ["things", "many"] k (spArePapers d)) :
    FnOk P w K mg base CX0 (k + 1) f fd ["n", "a", "thing"] (spIsOrder d) := by
  refine F.ok scIsOrder (fun vs H Q E h => ?_) (fun cdv A outer s H vs Q E hr h => ?_)
  · obtain ⟨v, n, a, e, qs, rfl, _⟩ := h
    rfl
  obtain ⟨v, n, a, e, qs, rfl, ⟨b, c, ts, rfl, hb, hc, hp⟩, ⟨n2, n30⟩, ⟨e1, e30⟩, kk⟩ := h
  have hr1 : Room 1 _ := hr.mono hk
  refine ⟨_, pss_cons (ps_if (PW.pt (pw_or (pt_not (pt_val (pe_k DR hr1 (pa_cons (pv 2) (pa_cons pe_int pa_nil))))) (pw_or (pt_not (pt_val (pe_k DW hr1 (pa_cons (pe_ix ix_tup (pv 2) pe_int (fun _ _ => rfl)) (pa_cons pe_int pa_nil)))))
      (pw_or1 (pt_not (pt_val (pe_k DA hr (pa_cons (pe_ix ix_tup (pv 2) pe_int (fun _ _ => rfl)) (pa_cons pe_int pa_nil))))))))) (pss_one (ps_ret pe_bl)) pss_nil)
    (pss_cons (ps_asg (pv 2) (pg_tup rfl (pgs_cons (pg_name (i := 3) scIsOrder.nd rfl (Or.inl rfl)) (pgs_cons (pg_name (i := 4) scIsOrder.nd rfl (Or.inl rfl)) pgs_nil))))
    (pss_cons (ps_if (PW.pt (pw_or (pt_not (pt_val (pe_k DC hr1 (pa_cons (pv 4) (pa_cons (pv 3) pa_nil))))) (pw_or1 (pt_cmpR op_ne (pe_k DPw hr1 (pa_cons (pv 0) (pa_cons (pv 1) (pa_cons (pv 3) pa_nil)))) pe_int (nomark _))))) (pss_one (ps_ret pe_bl)) pss_nil)
    (pss_cons (ps_for PassesOwn.never rfl (pi_tup (pv 4)) (pg_name (i := 5) scIsOrder.nd rfl (Or.inl rfl))
      (pss_cons (ps_set (i := 6) scIsOrder.nd rfl (Or.inl rfl) (pe_k DPw hr1 (pa_cons (pv 0) (pa_cons (pv 1) (pa_cons (pe_op op_fdiv (pv 3) (pe_ix ix_tup (pe_ix ix_tup (pv 5) pe_int (fun _ _ => rfl)) pe_int (fun _ _ => rfl))) pa_nil)))))
      (pss_one (ps_if (PW.pt (pw_or (pt_not (pt_val (pe_k DW hr1 (pa_cons (pe_ix ix_tup (pv 5) pe_int (fun _ _ => rfl)) (pa_cons pe_int pa_nil))))) (pw_or (pt_cmpR op_ne (pe_ix ix_tup (pv 5) pe_int (fun _ _ => rfl)) (pv 6) (nomark _)) (pw_or1 (pt_cmpR op_eq (pv 6) pe_int (nomark _))))))
        (pss_one (ps_ret pe_bl)) pss_nil))))
    (pss_one (ps_ret pe_bl))))), ?_⟩
  have hps : PapersAt H d 3 (.ref c) (qs.map fun x => (x.1, x.2.1)) := ⟨c, ts, rfl, hc, paired_map (fun _ _ q => q.row) hp⟩
  have pwN : ∀ (m : Nat) H3, Evl.Ex H H3 → SpV spPower ([V.int (n : Int), .int a, .int (m : Int)] ++ []) H3 (.int ((pw n a m : Nat) : Int)) := fun m H3 e3 => spv_ret fun H4 e4 Q E q => ⟨n, a, m, rfl, by omega, n30, q⟩
  refine q_when (b := !(yes (Rows (Ok d) (qs.map fun x => (x.1, x.2.1))))) (et_is (et_or (et_not (et_B (ev_call (z := .bl true) (ea_cons (ev_var rfl) (ea_cons ev_c ea_nil)) (spv_ret fun H3 e3 Q E q => ⟨b, _, 2, rfl, e3 _ _ hb, q⟩)))) fun _ =>
    et_or (et_not (et_B (ev_call (z := .bl true) (ea_cons (ev_op (ev_var rfl) ev_c (rv_ixT (st_of hb) at0)) (ea_cons ev_c ea_nil)) (spv_ret fun H3 e3 Q E q => ⟨(e : Int), 1, rfl, by
      rw [decide_eq_true (show (1 : Int) ≤ (e : Int) by omega)]
      exact q⟩)))) fun _ => et_not (et_B (ev_call (z := .bl (yes (Rows (Ok d) (qs.map fun x => (x.1, x.2.1))))) (ea_cons (ev_op (ev_var rfl) ev_c (rv_ixT (st_of hb) at1)) (ea_cons ev_c ea_nil)) (spv_ret fun H3 e3 Q E q => ⟨.ref c, 3, _, rfl, hps.mono e3, q⟩)))) rfl) (fun hc1 H1 x1 => ?_) (fun hc1 H1 x1 => ?_)
  · refine s_ret ev_c fun H4 x4 => ?_
    have z := kk H4 (x1.trans x4)
    have no : ¬ OrderOk d n a e qs := fun q => by
      rw [yes_true q.1] at hc1
      exact Bool.noConfusion hc1
    rw [yes_false no] at z
    exact z
  have hR : Rows (Ok d) (qs.map fun x => (x.1, x.2.1)) := by
    refine of_yes ?_
    cases z : yes (Rows (Ok d) (qs.map fun x => (x.1, x.2.1))) with
    | true => rfl
    | false =>
      rw [z] at hc1
      exact Bool.noConfusion hc1
  refine ⟨_, rfl, b, _, rfl, st_of (x1 _ _ hb), rfl, _, _, rfl, _, _, rfl, rfl, ?_⟩
  refine q_when (b := !(yes (prodOf (flat (qs.map fun x => (x.1, x.2.1))) = e ∧ pw n a e = 1))) (et_is (et_or (et_not (et_B (ev_call (z := .bl (decide (prodOf (flat (qs.map fun x => (x.1, x.2.1))) = e))) (ea_cons (ev_var rfl) (ea_cons (ev_var rfl) ea_nil)) (spv_ret fun H3 x3 Q E q => ⟨.ref c, _, e, rfl, hps.q.mono (x1.trans x3), e1, e30, q⟩)))) fun _ =>
    et_test (ev_op (ev_call (ea_cons (ev_var rfl) (ea_cons (ev_var rfl) (ea_cons (ev_var rfl) ea_nil))) (pwN e _ x1)) ev_c (rv_ne rfl))) ?_) (fun hc2 H2 x2 => ?_) (fun hc2 H2 x2 => ?_)
  · rw [dec_int (c := pw n a e = 1) (by omega), ← Bool.not_and]
    refine congrArg not (yes_iff ?_)
    rw [Bool.and_eq_true]
    exact ⟨fun q => ⟨of_decide_eq_true q.1, of_decide_eq_true q.2⟩, fun q => ⟨decide_eq_true q.1, decide_eq_true q.2⟩⟩
  · refine s_ret ev_c fun H4 x4 => ?_
    have z := kk H4 ((x1.trans x2).trans x4)
    have no : ¬ OrderOk d n a e qs := fun q => by
      rw [yes_true q.2.1] at hc2
      exact Bool.noConfusion hc2
    rw [yes_false no] at z
    exact z
  have hE : prodOf (flat (qs.map fun x => (x.1, x.2.1))) = e ∧ pw n a e = 1 := by
    refine of_yes ?_
    cases z : yes (prodOf (flat (qs.map fun x => (x.1, x.2.1))) = e ∧ pw n a e = 1) with
    | true => rfl
    | false =>
      rw [z] at hc2
      exact Bool.noConfusion hc2
  have xx : Evl.Ex H H2 := x1.trans x2
  refine q_forT (ev_var rfl) (st_of (xx _ _ hc)) (fun i σ' H' => Evl.Ex H H' ∧ ∃ (o1 o2 : Option V), σ' = [some (.int (n : Int)), some (.int a), some (.ref b), some (.int (e : Int)), some (.ref c), o1, o2] ∧ ∀ x ∈ qs.take i, x.2.2 = pw n a (e / x.1.p) ∧ x.2.2 ≠ 1) ?_ ?_ ?_ ?_
  · exact fun H3 x3 => ⟨xx.trans x3, none, none, rfl, fun _ q => (nomatch q)⟩
  · exact fun i σ' H' _ q => st_of (q.1 _ _ hc)
  · rintro i t σ' H' hi ⟨x, o1, o2, rfl, hall⟩
    obtain ⟨y, hy, hq⟩ := paired_get hp hi
    have hq' := hq.mono x
    have hqq := hq'.row.q
    obtain ⟨y1, y2, c', u, rfl, hc', hu⟩ := hq'
    obtain ⟨_, _, _, _, _, _, _, r2, r3, _⟩ := hqq
    show tSeq _ _ _ _ _
    refine q_asg (v := .int ((pw n a (e / y.1.p) : Nat) : Int)) (ev_call (ea_cons (ev_var rfl) (ea_cons (ev_var rfl) (ea_cons (ev_is (ev_op (ev_var rfl) (ev_root (ev_var rfl) (hq.mono x).row.q) (rv_I ⟨by omega, by omega⟩)) (congrArg V.int (cast_div e y.1.p))) ea_nil))) (pwN (e / y.1.p) _ x)) fun H3 x3 => ?_
    refine s_when (b := !(yes (y.2.2 = pw n a (e / y.1.p) ∧ y.2.2 ≠ 1))) (et_is (et_or (et_not (et_B (ev_call (z := .bl true) (ea_cons (ev_op (ev_var rfl) ev_c (rv_ixT (st_of (x3 _ _ hc')) at2)) (ea_cons ev_c ea_nil)) (spv_ret fun H3 e3 Q E q => ⟨(y.2.2 : Int), 0, rfl, by
        rw [decide_eq_true (show (0 : Int) ≤ (y.2.2 : Int) by omega)]
        exact q⟩)))) fun _ => et_or (et_test (ev_op (ev_op (ev_var rfl) ev_c (rv_ixT (st_of (x3 _ _ hc')) at2)) (ev_var rfl) (rv_ne rfl))) fun _ => et_test (ev_op (ev_var rfl) ev_c (rv_eq rfl))) ?_) (fun hc3 H4 x4 => ?_) (fun hc3 H4 x4 => ?_)
    · rw [dec_int (c := y.2.2 = pw n a (e / y.1.p)) (by omega), dec_int (c := pw n a (e / y.1.p) = 1) (by omega)]
      have z : yes (y.2.2 = pw n a (e / y.1.p) ∧ y.2.2 ≠ 1) = (decide (y.2.2 = pw n a (e / y.1.p)) && !decide (pw n a (e / y.1.p) = 1)) := by
        refine (yes_iff ?_).symm
        rw [Bool.and_eq_true, Bool.not_eq_true', decide_eq_true_iff, decide_eq_false_iff_not]
        exact ⟨fun q => ⟨q.1, by rw [q.1]; exact q.2⟩, fun q => ⟨q.1, by rw [← q.1]; exact q.2⟩⟩
      rw [z, Bool.not_and, Bool.not_not]
      rfl
    · refine s_ret ev_c fun H5 x5 => ?_
      have z := kk H5 (((x.trans x3).trans x4).trans x5)
      have no : ¬ OrderOk d n a e qs := fun q => by
        rw [yes_true (q.2.2 y (List.mem_of_getElem? hy))] at hc3
        exact Bool.noConfusion hc3
      rw [yes_false no] at z
      exact z
    · have hy2 : y.2.2 = pw n a (e / y.1.p) ∧ y.2.2 ≠ 1 := by
        refine of_yes ?_
        cases z : yes (y.2.2 = pw n a (e / y.1.p) ∧ y.2.2 ≠ 1) with
        | true => rfl
        | false =>
          rw [z] at hc3
          exact Bool.noConfusion hc3
      refine ⟨(x.trans x3).trans x4, _, _, rfl, fun z hz => ?_⟩
      rw [take_more hy] at hz
      rcases List.mem_append.mp hz with q | q
      · exact hall z q
      · rw [List.mem_singleton] at q
        rw [q]
        exact hy2
  · rintro σ' H' ⟨x, o1, o2, rfl, hall⟩
    rw [List.take_of_length_le (by rw [hp.length]; exact Nat.le_refl _)] at hall
    refine s_ret ev_c fun H3 x3 => ?_
    have z := kk H3 (x.trans x3)
    rw [yes_true ⟨hR, hE, hall⟩] at z
    exact z
end
end K27
namespace K27
open PySem L2 Evl
/-! # Parting -/
/-- tuples stay -/
def Tx (H H' : Hp) : Prop := ∀ a xs, H a = some (.tup xs) → H' a = some (.tup xs)
theorem tx {H H' : Hp} (e : Evl.Ex H H') : Tx H H' := fun a xs h => e a _ h
theorem Tx.trans {H H1 H2 : Hp} (a : Tx H H1) (b : Tx H1 H2) : Tx H H2 := fun x o h => b x o (a x o h)
theorem Tx.lst {H : Hp} {D : Addr} {xs ys : List V} (h : H D = some (.lst xs)) : Tx H (upd H D (.lst ys)) := fun a zs q => by
  rw [upd_ne (ne_of q h (by intro z; cases z))]
  exact q
theorem RowAt.monoT {F G : V → Paper → Prop} {H H' : Hp} {k : Nat} {t : V} {x : Paper × Nat} (e : Tx H H') (fg : ∀ v y, F v y → G v y) (h : RowAt F H k t x) : RowAt G H' k t x := by
  obtain ⟨h1, h2, c, u, r, h3, h4, h5, h6⟩ := h
  exact ⟨h1, h2, c, u, r, h3, e _ _ h4, h5, fg _ _ h6⟩
theorem PaperAt.monoT {H H' : Hp} (e : Tx H H') : ∀ {d : Nat} {v : V} {t : Paper}, PaperAt H d v t → PaperAt H' d v t
  | 0, _, _, h => h.elim
  | d + 1, v, .mk p f ps, ⟨h1, a, b, ts, h2, h3, h4, h5⟩ => ⟨h1, a, b, ts, h2, e _ _ h3, e _ _ h4, L2.Paired.mapP h5 fun _ _ q => RowAt.monoT e (fun _ _ z => PaperAt.monoT e z) q⟩
theorem rows_monoT {H H' : Hp} {d k : Nat} {ts : List V} {ps : List (Paper × Nat)} (e : Tx H H') (h : Paired (RowAt (PaperAt H d) H k) ts ps) : Paired (RowAt (PaperAt H' d) H' k) ts ps :=
  L2.Paired.mapP h fun _ _ q => RowAt.monoT e (fun _ _ z => PaperAt.monoT e z) q

/-- a list of pairs of numbers -/
def PairAt (H : Hp) (t : V) (x : Nat × Nat) : Prop := ∃ c : Addr, t = .ref c ∧ H c = some (.tup [.int (x.1 : Int), .int (x.2 : Int)])
def PairsAt (H : Hp) (p : Addr) (l : List (Nat × Nat)) : Prop := ∃ ts : List V, H p = some (.lst ts) ∧ Paired (PairAt H) ts l
theorem PairAt.monoT {H H' : Hp} (e : Tx H H') {t : V} {x : Nat × Nat} (h : PairAt H t x) : PairAt H' t x := by
  obtain ⟨c, h1, h2⟩ := h
  exact ⟨c, h1, e _ _ h2⟩
theorem PairsAt.mono {H H' : Hp} (e : Evl.Ex H H') {p : Addr} {l : List (Nat × Nat)} (h : PairsAt H p l) : PairsAt H' p l := by
  obtain ⟨ts, h1, h2⟩ := h
  exact ⟨ts, e _ _ h1, L2.Paired.mapP h2 fun _ _ q => q.monoT (tx e)⟩
theorem PairsAt.snoc {H : Hp} {L p : Addr} {ts : List V} {l : List (Nat × Nat)} {x : Nat × Nat} (h : H L = some (.lst ts)) (hp : Paired (PairAt H) ts l) (q : H p = some (.tup [.int (x.1 : Int), .int (x.2 : Int)])) : PairsAt (upd H L (.lst (ts ++ [.ref p]))) L (l ++ [x]) := by
  have e : Tx H (upd H L (.lst (ts ++ [.ref p]))) := Tx.lst h
  exact ⟨_, upd_same, Paired.snoc (L2.Paired.mapP hp fun _ _ z => z.monoT e) ⟨p, rfl, e _ _ q⟩⟩

def spLookAt : Sp := fun vs H Q _ => ∃ n l : Int, vs = [.int n, .int l] ∧ l ≤ n ∧ n ≤ 1000000000 ∧ RetV .non H Q
def spDivisorFrom : Sp := fun vs H Q _ => ∃ n d : Nat, vs = [.int (n : Int), .int (d : Int)] ∧ 2 ≤ n ∧ n ≤ 1000000000 ∧ Nx d ∧ Below n d ∧ ∀ r H2, Evl.Ex H H2 → d ≤ r → 2 ≤ r → r ∣ n → Below n r → Q (.int (r : Nat)) H2
def spLeast : Sp := fun vs H Q _ => ∃ n : Nat, vs = [.int (n : Int)] ∧ 2 ≤ n ∧ n ≤ 1000000000 ∧ ∀ r H2, Evl.Ex H H2 → 2 ≤ r → r ∣ n → Below n r → Q (.int (r : Nat)) H2
def spParted : Sp := fun vs H Q _ => ∃ n : Nat, vs = [.int (n : Int)] ∧ 1 ≤ n ∧ n ≤ 1000000000 ∧ ∀ l p H2, Evl.Ex H H2 → IsParting n l → PairsAt H2 p l → Q (.ref p) H2
section
variable {P : Program} {w : World} {K : PySem.W.Frag} {mg : Str → Option Value} {base : Heap}
theorem scLook : FnScope ["n", "least"] ["n", "least"] (defScope sLookAt) := ⟨rfl, rfl, rfl, by decide +kernel, rfl, by decide +kernel, by decide +kernel⟩
theorem ok_look {f : Addr} {fd : FuncData} (F : Fun K "look_at" "look_at" sLookAt f fd) {tk : Tok} (mm : mg "MOST_PARTED" = some (.int 1000000000 tk)) : FnOk P w K mg base CX0 1 f fd ["n", "least"] spLookAt := by
  refine F.ok scLook (fun vs H Q E h => ?_) (fun cdv A outer s H vs Q E hr h => ?_)
  · obtain ⟨n, l, rfl, _⟩ := h
    rfl
  obtain ⟨n, l, rfl, h1, h2, k⟩ := h
  refine ⟨_, pss_cons (ps_if (pt_cmpR op_lt (pv 0) (pv 1) (nomark _)) (pss_one ps_never) pss_nil)
    (pss_one (ps_if (pt_cmpR op_gt (pv 0) (pe_glob (v := .int 1000000000) (by rfl) mm ⟨_, rfl⟩) (nomark _)) (pss_one ps_never) pss_nil)), ?_⟩
  refine q_when (b := false) (et_is (et_test (ev_op (ev_var rfl) (ev_var rfl) rv_I0)) (decide_eq_false (by omega))) (fun hc => Bool.noConfusion hc) (fun _ H1 e1 => ?_)
  refine s_when (b := false) (et_is (et_test (ev_op (ev_var rfl) ev_c rv_I0)) (decide_eq_false (by omega))) (fun hc => Bool.noConfusion hc) (fun _ H2 e2 => ?_)
  exact k H2 (e1.trans e2)

theorem scDiv : FnScope ["n", "d"] ["n", "d"] (defScope sDivisorFrom) := ⟨rfl, rfl, rfl, by decide +kernel, rfl, by decide +kernel, by decide +kernel⟩
theorem ok_div {f : Addr} {fd : FuncData} (F : Fun K "divisor_from" "divisor_from" sDivisorFrom f fd) (mn : mg "int" = none) : FnOk P w K mg base CX0 1 f fd ["n", "d"] spDivisorFrom := by
  refine F.ok scDiv (fun vs H Q E h => ?_) (fun cdv A outer s H vs Q E hr h => ?_)
  · obtain ⟨n, d, rfl, _⟩ := h
    rfl
  obtain ⟨n, d, rfl, n2, n9, hx, hB, k⟩ := h
  refine ⟨_, pss_cons (ps_while PassesOwn.never (pt_cmpR op_le (pe_op op_mul (pv 1) (pv 1)) (pv 0) (nomark _))
      (pss_cons (ps_if (pt_cmpR op_eq (pe_op op_mod (pv 0) (pv 1)) pe_int (nomark _)) (pss_one (ps_ret (pv 1))) pss_nil)
      (pss_one (ps_set (i := 1) scDiv.nd rfl (Or.inl rfl) (pe_op op_add (pe_op op_add (pv 1) pe_int) (pe_callTy call_int1 (by rfl) mn (by decide +kernel) (pa_cons (pe_cmpR op_gt (pv 1) pe_int (nomark _)) pa_nil)))))))
    (pss_one (ps_ret (pv 0))), ?_⟩
  have lim : ∀ d', Below n d' → d' ≤ n := fun d' hb => Nat.le_of_not_lt fun z => hb n n2 z (Nat.dvd_refl n)
  refine q_while (fun m σ' H' => Evl.Ex H H' ∧ ∃ d' : Nat, σ' = [some (.int (n : Int)), some (.int (d' : Int))] ∧ Nx d' ∧ Below n d' ∧ d ≤ d' ∧ m = n + 1 - d') (n + 1 - d) ⟨Evl.Ex.refl H, d, rfl, hx, hB, Nat.le_refl _, rfl⟩ ?_
  rintro m σ' H' ⟨x, d', rfl, hx', hB', hdd, rfl⟩
  have dn := lim d' hB'
  have d2 : 2 ≤ d' := by
    rcases hx' with z | z
    · omega
    · omega
  refine ⟨decide (d' * d' ≤ n), et_is (et_test (ev_op (ev_op (ev_var rfl) (ev_var rfl) (rv_I (.inl ⟨by omega, by omega⟩))) (ev_var rfl) rv_I0)) (decide_eq_decide.mpr (by rw [← Int.natCast_mul]; omega)), fun hc H1 e1 => ?_, fun hc H1 e1 => ?_⟩
  · have hc := of_decide_eq_true hc
    have hlt : d' < n := by
      have := Nat.mul_le_mul_right d' d2
      omega
    refine ⟨fun σ2 H2 => ∃ m', m' < n + 1 - d' ∧ _, fun σ2 H2 q => q, ?_⟩
    refine q_when (b := decide (n % d' = 0)) (et_is (et_test (ev_op (ev_op (ev_var rfl) (ev_var rfl) (rv_I (by omega))) ev_c (rv_eq rfl))) (dec_int (by rw [cast_mod]; omega))) (fun hz H2 e2 => ?_) (fun hz H2 e2 => ?_)
    · have hz := of_decide_eq_true hz
      exact s_ret (ev_var rfl) fun H3 e3 => k d' H3 (((x.trans e1).trans e2).trans e3) hdd d2 (Nat.dvd_of_mod_eq_zero hz) hB'
    · have hz := of_decide_eq_false hz
      obtain ⟨b1, b2⟩ := below_step hx' hB' fun z => hz (Nat.mod_eq_zero_of_dvd z)
      have rc : ∀ H0 : Hp, RC (fun xs H Q => (∃ i, xs = [V.int i] ∧ Q (.int i) H) ∨ ∃ k, xs = [V.bl k] ∧ Q (.int (if k then 1 else 0)) H) [.bl (decide (2 < (d' : Int)))] H0 (.int (if decide (2 < (d' : Int)) then 1 else 0)) := fun H0 H4 _ Q q => .inr ⟨_, rfl, q H4 (Evl.Ex.refl H4)⟩
      refine s_asg (v := .int ((d' + 1 + if 2 < d' then 1 else 0 : Nat) : Int)) (ev_is (ev_op (ev_op (ev_var rfl) ev_c rv_I0) (ev_cb (ea_cons (ev_op (ev_var rfl) ev_c rv_I0) ea_nil) (rc _)) rv_I0) (congrArg V.int ?_)) fun H3 e3 => ?_
      · by_cases z : 2 < d'
        · rw [if_pos z, decide_eq_true (show (2 : Int) < (d' : Int) by omega)]
          rfl
        · rw [if_neg z, decide_eq_false (show ¬ (2 : Int) < (d' : Int) by omega)]
          rfl
      · exact ⟨n + 1 - (d' + 1 + if 2 < d' then 1 else 0), by omega, ((x.trans e1).trans e2).trans e3, _, rfl, b2, b1, by omega, rfl⟩
  · have hc := of_decide_eq_false hc
    refine s_ret (ev_var rfl) fun H2 e2 => ?_
    exact k n H2 ((x.trans e1).trans e2) (by omega) n2 (Nat.dvd_refl n) (below_end n2 (by omega) hB')

theorem scLeast : FnScope ["n"] ["n"] (defScope sLeastDivisor) := ⟨rfl, rfl, rfl, by decide +kernel, rfl, by decide +kernel, by decide +kernel⟩
theorem ok_least {f : Addr} {fd : FuncData} (F : Fun K "least_divisor" "least_divisor" sLeastDivisor f fd) (DL : Knows P w K mg base "look_at" ["n", "least"] 1 spLookAt) (DD : Knows P w K mg base "divisor_from" ["n", "d"] 1 spDivisorFrom) : FnOk P w K mg base CX0 2 f fd ["n"] spLeast := by
  refine F.ok scLeast (fun vs H Q E h => ?_) (fun cdv A outer s H vs Q E hr h => ?_)
  · obtain ⟨n, rfl, _⟩ := h
    rfl
  obtain ⟨n, rfl, n2, n9, k⟩ := h
  refine ⟨_, pss_cons (ps_expr (pe_k DL hr (pa_cons (pv 0) (pa_cons pe_int pa_nil)))) (pss_one (ps_ret (pe_k DD hr (pa_cons (pv 0) (pa_cons pe_int pa_nil))))), ?_⟩
  refine ⟨_, rfl, (n : Int), 2, rfl, by omega, by omega, fun H1 e1 => ?_⟩
  exact ⟨_, rfl, n, 2, rfl, n2, n9, .inl rfl, below_two n, fun r H2 e2 h1 h2 h3 h4 => k r H2 (e1.trans e2) h2 h3 h4⟩

theorem len30 {l : List (Nat × Nat)} (h : ∀ x ∈ l, 2 ≤ x.1 ∧ 1 ≤ x.2) (hn : prodOf l ≤ 1000000000) : l.length < 30 := by
  have h1 := pow_len_le h
  exact (Nat.pow_lt_pow_iff_right (a := 2) (by decide)).mp (Nat.lt_of_le_of_lt h1 (Nat.lt_of_le_of_lt hn (by decide)))
theorem scParted : FnScope ["n", "found", "d", "many"] ["n"] (defScope sParted) := ⟨rfl, rfl, rfl, by decide +kernel, rfl, by decide +kernel, by decide +kernel⟩
theorem ok_parted {f : Addr} {fd : FuncData} (F : Fun K "parted" "parted" sParted f fd) (DL : Knows P w K mg base "look_at" ["n", "least"] 1 spLookAt) (DD : Knows P w K mg base "divisor_from" ["n", "d"] 1 spDivisorFrom) : FnOk P w K mg base CX0 2 f fd ["n"] spParted := by
  refine F.ok scParted (fun vs H Q E h => ?_) (fun cdv A outer s H vs Q E hr h => ?_)
  · obtain ⟨n, rfl, _⟩ := h
    rfl
  obtain ⟨n, rfl, n1, n9, k⟩ := h
  refine ⟨_, pss_cons (ps_expr (pe_k DL hr (pa_cons (pv 0) (pa_cons pe_int pa_nil))))
    (pss_cons (ps_set (i := 1) scParted.nd rfl (Or.inl rfl) (pe_lst pa_nil))
    (pss_cons (ps_set (i := 2) scParted.nd rfl (Or.inl rfl) pe_int)
    (pss_cons (ps_while PassesOwn.never (pt_cmpR op_gt (pv 0) pe_int (nomark _))
      (pss_cons (ps_set (i := 2) scParted.nd rfl (Or.inl rfl) (pe_k DD hr (pa_cons (pv 0) (pa_cons (pv 2) pa_nil))))
      (pss_cons (ps_set (i := 3) scParted.nd rfl (Or.inl rfl) pe_int)
      (pss_cons (ps_while PassesOwn.never (pt_cmpR op_eq (pe_op op_mod (pv 0) (pv 2)) pe_int (nomark _))
        (pss_cons (ps_set (i := 0) scParted.nd rfl (Or.inl rfl) (pe_op op_fdiv (pv 0) (pv 2)))
        (pss_one (ps_set (i := 3) scParted.nd rfl (Or.inl rfl) (pe_op op_add (pv 3) pe_int)))))
      (pss_one (ps_expr (pe_bm PySem.F.plainAttrs_list PySem.F.slot_list_append PySem.F.type_list_append mt_append (pv 1) (pa_cons (pe_tup (pa_cons (pv 2) (pa_cons (pv 3) pa_nil))) pa_nil))))))))
    (pss_one (ps_ret (pv 1)))))), ?_⟩
  refine ⟨_, rfl, (n : Int), 1, rfl, by omega, by omega, fun H1 e1 => ?_⟩
  refine q_asgL (el_lst ea_nil (by decide)) fun L H2 hL e2 h2 => ?_
  refine q_asg ev_c fun H3 e3 => ?_
  have hL0 : H L = none := fresh_back e1 hL
  refine q_while (fun m σ' H' => Evl.Ex H H' ∧ ∃ (d : Nat) (l : List (Nat × Nat)) (o : Option V), σ' = [some (.int (m : Int)), some (.ref L), some (.int (d : Int)), o] ∧ PairsAt H' L l ∧ Parted n m d l) n ?_ ?_
  · exact ⟨(e1.trans e2).trans e3, 2, [], none, rfl, ⟨[], e3 _ _ h2, .nil⟩, parted_start n1⟩
  rintro m σ' H' ⟨x, d, l, o, rfl, ⟨ts, hts, hp⟩, hq⟩
  have hq0 := hq
  obtain ⟨g1, g2, g3, g4, g5, g6, g7⟩ := hq0
  have mn : m ≤ n := by
    rw [← g3]
    refine Nat.le_mul_of_pos_left m ?_
    rcases Nat.eq_zero_or_pos (prodOf l) with z | z
    · rw [z, Nat.zero_mul] at g3
      omega
    · exact z
  have ln : prodOf l ≤ 1000000000 := by
    have : prodOf l ≤ prodOf l * m := Nat.le_mul_of_pos_right _ g4
    omega
  have hlen := len30 (fun z hz => ⟨(g1 z hz).1.1, (g1 z hz).2.1⟩) ln
  refine ⟨decide (1 < m), et_is (et_test (ev_op (ev_var rfl) ev_c rv_I0)) (decide_eq_decide.mpr (by omega)), fun hc H4 e4 => ?_, fun hc H4 e4 => ?_⟩
  · have hc := of_decide_eq_true hc
    refine ⟨fun σ2 H2 => ∃ m', m' < m ∧ _, fun σ2 H2 q => q, ?_⟩
    refine ⟨_, rfl, _, rfl, m, d, rfl, by omega, by omega, g6, g5, fun r H5 e5 hdr r2 hrm hbr => ?_⟩
    refine q_asg ev_c fun H6 e6 => ?_
    have r0 : (0 : Int) < (r : Int) := by omega
    have rle : r ≤ m := Nat.le_of_dvd (by omega) hrm
    refine q_while (fun m' σ' H' => Evl.Ex H6 H' ∧ ∃ (c : Nat), σ' = [some (.int (m' : Int)), some (.ref L), some (.int (r : Int)), some (.int (c : Int))] ∧ m = r ^ c * m' ∧ 1 ≤ m') m ⟨Evl.Ex.refl _, 0, rfl, by simp, by omega⟩ ?_
    rintro m' σ' H7 ⟨x7, c, rfl, hmc, hm1⟩
    have m'm : m' ≤ m := by
      rw [hmc]
      exact Nat.le_mul_of_pos_left m' (Nat.pow_pos (by omega))
    refine ⟨decide (m' % r = 0), et_is (et_test (ev_op (ev_op (ev_var rfl) (ev_var rfl) (rv_I r0)) ev_c (rv_eq rfl))) (dec_int (by rw [cast_mod]; omega)), fun hz H8 e8 => ?_, fun hz H8 e8 => ?_⟩
    · have hz := of_decide_eq_true hz
      have hdm := Nat.div_add_mod m' r
      rw [hz, Nat.add_zero] at hdm
      have q0 : 1 ≤ m' / r := by
        rcases Nat.eq_zero_or_pos (m' / r) with z | z
        · rw [z, Nat.mul_zero] at hdm
          omega
        · exact z
      refine ⟨fun σ2 H2 => ∃ m'', m'' < m' ∧ _, fun σ2 H2 q => q, ?_⟩
      refine q_asg (ev_is (ev_op (ev_var rfl) (ev_var rfl) (rv_I ⟨r0, by omega⟩)) (congrArg V.int (cast_div m' r))) fun H9 e9 => ?_
      refine s_asg (v := .int ((c + 1 : Nat) : Int)) (ev_op (ev_var rfl) ev_c rv_I0) fun H10 e10 => ?_
      refine ⟨m' / r, Nat.div_lt_self (by omega) (by omega), ((x7.trans e8).trans e9).trans e10, c + 1, rfl, ?_, q0⟩
      rw [hmc, Nat.pow_succ]
      conv => lhs; rw [← hdm]
      ac_rfl
    · have hz := of_decide_eq_false hz
      have hnd : ¬ r ∣ m' := fun z => hz (Nat.mod_eq_zero_of_dvd z)
      have xx : Evl.Ex H' H8 := (((e4.trans e5).trans e6).trans x7).trans e8
      refine s_appU (e8 _ _ (x7 _ _ (e6 _ _ (e5 _ _ (e4 _ _ hts))))) (ev_var rfl) (eu_tup (ea_cons (ev_var rfl) (ea_cons (ev_var rfl) ea_nil)) (by show 2 ≤ 100000; decide)) (by rw [hp.length]; omega) fun p H9 hp9 e9 h9 => ?_
      have hmore := parted_more hq hdr r2 hrm hbr hmc hnd hm1
      refine ⟨m', ?_, Ex.mut ((x.trans xx).trans e9) hL0, r, l ++ [(r, c)], _, rfl, ?_, hmore⟩
      · rcases Nat.lt_or_ge m' m with z | z
        · exact z
        · have : m' = m := by omega
          rw [this] at hnd
          exact absurd hrm hnd
      · exact PairsAt.snoc (x := (r, c)) (e9 _ _ (xx _ _ hts)) (L2.Paired.mapP hp fun _ _ z => z.monoT (tx (xx.trans e9))) h9
  · have hc := of_decide_eq_false hc
    have m1 : m = 1 := by omega
    subst m1
    refine s_ret (ev_var rfl) fun H5 e5 => ?_
    exact k l L H5 ((x.trans e4).trans e5) (parted_end hq) (PairsAt.mono (e4.trans e5) ⟨ts, hts, hp⟩)
end
end K27
namespace K27
open PySem L2 Evl
/-! # Papers told -/
theorem lc_yes {σ : L2.St} {H : Hp} {A B : Hp → Prop} (h : A H) : tYes σ H (fun b H3 => if b = true then A H3 else B H3) := by
  show (if true = true then A H else B H)
  rw [if_pos rfl]
  exact h
def FullBy (p g : Nat) (l : List (Nat × Nat)) : Prop := ∀ x ∈ l, g ^ ((p - 1) / x.1) % p ≠ 1
def spHasFull : Sp := fun vs H Q _ => ∃ (p a : Nat) (L : Addr) (l : List (Nat × Nat)), vs = [.int (p : Int), .int (a : Int), .ref L] ∧ 2 ≤ p ∧ p < 2 ^ 30 ∧ PairsAt H L l ∧ (∀ x ∈ l, 1 ≤ x.1 ∧ x.1 < 2 ^ 30) ∧ RetV (.bl (yes (FullBy p a l))) H Q
def spLeastFull : Sp := fun vs H Q _ => ∃ (p : Nat) (L : Addr) (l : List (Nat × Nat)), vs = [.int (p : Int), .ref L] ∧ 2 ≤ p ∧ p < 2 ^ 30 ∧ PairsAt H L l ∧ (∀ x ∈ l, 1 ≤ x.1 ∧ x.1 < 2 ^ 30) ∧ (∃ g, 1 ≤ g ∧ g < p ∧ FullBy p g l) ∧
  ∀ g H2, Evl.Ex H H2 → 1 ≤ g → g < p → FullBy p g l → Q (.int (g : Nat)) H2
def spPaperOf (d : Nat) : Sp := fun vs H Q _ => ∃ p : Nat, vs = [.int (p : Int)] ∧ Prm p ∧ Dep d p ∧ p < 2 ^ 20 ∧ ∀ v t H2, Evl.Ex H H2 → Ok d t → t.p = p → PaperAt H2 d v t → Q v H2
def spPapersBy (d : Nat) : Sp := fun vs H Q _ => ∃ (L : Addr) (l : List (Nat × Nat)), vs = [.ref L] ∧ PairsAt H L l ∧ (∀ x ∈ l, Prm x.1 ∧ Dep d x.1 ∧ x.1 < 2 ^ 20 ∧ 1 ≤ x.2 ∧ x.2 < 2 ^ 20) ∧ l.length < 1000 ∧
  ∀ b ts ps H2, Evl.Ex H H2 → flat ps = l → (∀ x ∈ ps, Ok d x.1) → H2 b = some (.tup ts) → Paired (RowAt (PaperAt H2 d) H2 2) ts ps → Q (.ref b) H2
def spPrimePaper (d : Nat) : Sp := spPaperOf d
def spPartingPaper (d : Nat) : Sp := fun vs H Q _ => ∃ n : Nat, vs = [.int (n : Int)] ∧ 1 ≤ n ∧ n < 2 ^ 20 ∧ Dep d n ∧ ∀ b ts ps H2, Evl.Ex H H2 → Rows (Ok d) ps → prodOf (flat ps) = n → H2 b = some (.tup ts) → Paired (RowAt (PaperAt H2 d) H2 2) ts ps → Q (.ref b) H2
section
variable {P : Program} {w : World} {K : PySem.W.Frag} {mg : Str → Option Value} {base : Heap}
theorem scHas : FnScope ["p", "a", "parting", "q", "many"] ["p", "a", "parting"] (defScope sHasFull) := ⟨rfl, rfl, rfl, by decide +kernel, rfl, by decide +kernel, by decide +kernel⟩
theorem ok_has {f : Addr} {fd : FuncData} (F : Fun K "has_full_order" "has_full_order" sHasFull f fd) (DP : Knows P w K mg base "power" ["n", "a", "e"] 1 spPower) : FnOk P w K mg base CX0 2 f fd ["p", "a", "parting"] spHasFull := by
  refine F.ok scHas (fun vs H Q E h => ?_) (fun cdv A outer s H vs Q E hr h => ?_)
  · obtain ⟨p, a, L, l, rfl, _⟩ := h
    rfl
  obtain ⟨p, a, L, l, rfl, p2, p30, ⟨ts, hts, hp⟩, hl, kk⟩ := h
  refine ⟨_, pss_cons (ps_for PassesOwn.never rfl (pi_list (pv 2)) (pg_tup rfl (pgs_cons (pg_name (i := 3) scHas.nd rfl (Or.inl rfl)) (pgs_cons (pg_name (i := 4) scHas.nd rfl (Or.inl rfl)) pgs_nil)))
      (pss_one (ps_if (pt_cmpR op_eq (pe_k DP hr (pa_cons (pv 0) (pa_cons (pv 1) (pa_cons (pe_op op_fdiv (pe_op op_sub (pv 0) pe_int) (pv 3)) pa_nil)))) pe_int (nomark _)) (pss_one (ps_ret pe_bl)) pss_nil)))
    (pss_one (ps_ret pe_bl)), ?_⟩
  have c1 : ((p : Int) - 1) = ((p - 1 : Nat) : Int) := by omega
  refine q_forL (ev_var rfl) (sq_of hts) (fun i σ' H' => Evl.Ex H H' ∧ ∃ o1 o2 : Option V, σ' = [some (.int (p : Int)), some (.int (a : Int)), some (.ref L), o1, o2] ∧ FullBy p a (l.take i)) ?_ ?_ ?_ ?_
  · exact fun H1 e1 => ⟨e1, none, none, rfl, fun _ q => (nomatch q)⟩
  · exact fun i σ' H' _ q => sq_of (q.1 _ _ hts)
  · rintro i t σ' H' hi ⟨x, o1, o2, rfl, hF⟩
    obtain ⟨y, hy, c, rfl, hc⟩ := paired_get hp hi
    obtain ⟨y1, y30⟩ := hl y (List.mem_of_getElem? hy)
    refine ⟨c, _, rfl, st_of (x _ _ hc), rfl, _, _, rfl, _, _, rfl, rfl, ?_⟩
    show tIfS _ _ _ _ _ _
    refine s_when (b := decide (a ^ ((p - 1) / y.1) % p = 1)) (et_is (et_test (ev_op (ev_call (z := .int ((a ^ ((p - 1) / y.1) % p : Nat) : Int)) (ea_cons (ev_var rfl) (ea_cons (ev_var rfl) (ea_cons (ev_is (ev_op (ev_is (ev_op (ev_var rfl) ev_c rv_I0) (congrArg V.int c1)) (ev_var rfl) (rv_I ⟨by omega, by omega⟩)) (congrArg V.int (cast_div (p - 1) y.1))) ea_nil)))
      (spv_ret fun H4 e4 Q E q => ⟨p, (a : Int), (p - 1) / y.1, rfl, by omega, p30, by
        rw [pw_nat]
        exact q⟩)) ev_c (rv_eq rfl))) (dec_int (by omega))) (fun hc2 H1 e1 => ?_) (fun hc2 H1 e1 => ?_)
    · have hc2 := of_decide_eq_true hc2
      refine s_ret ev_c fun H2 e2 => ?_
      have z := kk H2 ((x.trans e1).trans e2)
      rw [yes_false (fun q : FullBy p a l => q y (List.mem_of_getElem? hy) hc2)] at z
      exact z
    · have hc2 := of_decide_eq_false hc2
      refine ⟨x.trans e1, _, _, rfl, fun z hz => ?_⟩
      rw [take_more hy] at hz
      rcases List.mem_append.mp hz with q | q
      · exact hF z q
      · rw [List.mem_singleton] at q
        rw [q]
        exact hc2
  · rintro σ' H' ⟨x, o1, o2, rfl, hF⟩
    rw [List.take_of_length_le (by rw [hp.length]; exact Nat.le_refl _)] at hF
    refine s_ret ev_c fun H2 e2 => ?_
    have z := kk H2 (x.trans e2)
    rw [yes_true hF] at z
    exact z

theorem scLF : FnScope ["p", "parting", "a"] ["p", "parting"] (defScope sLeastFull) := ⟨rfl, rfl, rfl, by decide +kernel, rfl, by decide +kernel, by decide +kernel⟩
theorem ok_leastFull {f : Addr} {fd : FuncData} (F : Fun K "least_full" "least_full" sLeastFull f fd) (DH : Knows P w K mg base "has_full_order" ["p", "a", "parting"] 2 spHasFull) : FnOk P w K mg base CX0 3 f fd ["p", "parting"] spLeastFull := by
  refine F.ok scLF (fun vs H Q E h => ?_) (fun cdv A outer s H vs Q E hr h => ?_)
  · obtain ⟨p, L, l, rfl, _⟩ := h
    rfl
  obtain ⟨p, L, l, rfl, p2, p30, hp, hl, ⟨g, g1, gp, hg⟩, kk⟩ := h
  refine ⟨_, pss_cons (ps_set (i := 2) scLF.nd rfl (Or.inl rfl) pe_int)
    (pss_cons (ps_while PassesOwn.never (pt_not (pt_val (pe_k DH hr (pa_cons (pv 0) (pa_cons (pv 2) (pa_cons (pv 1) pa_nil))))))
      (pss_one (ps_set (i := 2) scLF.nd rfl (Or.inl rfl) (pe_op op_add (pv 2) pe_int))))
    (pss_one (ps_ret (pv 2)))), ?_⟩
  refine q_asg ev_c fun H1 e1 => ?_
  refine q_while (fun m σ' H' => Evl.Ex H H' ∧ ∃ a : Nat, σ' = [some (.int (p : Int)), some (.ref L), some (.int (a : Int))] ∧ 1 ≤ a ∧ a ≤ g ∧ m = g - a) (g - 1) ⟨e1, 1, rfl, by omega, g1, rfl⟩ ?_
  rintro m σ' H' ⟨x, a, rfl, a1, ag, rfl⟩
  refine ⟨!(yes (FullBy p a l)), et_not (et_B (ev_call (ea_cons (ev_var rfl) (ea_cons (ev_var rfl) (ea_cons (ev_var rfl) ea_nil))) (spv_ret fun H3 e3 Q E q => ⟨p, a, L, l, rfl, p2, p30, hp.mono (x.trans e3), hl, q⟩))), fun hc H2 e2 => ?_, fun hc H2 e2 => ?_⟩
  · have hn : ¬ FullBy p a l := fun q => by
      rw [yes_true q] at hc
      exact Bool.noConfusion hc
    have hne : a ≠ g := fun q => hn (q ▸ hg)
    refine ⟨fun σ2 H2 => ∃ m', m' < g - a ∧ _, fun σ2 H2 q => q, ?_⟩
    refine s_asg (v := .int ((a + 1 : Nat) : Int)) (ev_op (ev_var rfl) ev_c rv_I0) fun H3 e3 => ?_
    exact ⟨g - (a + 1), by omega, (x.trans e2).trans e3, a + 1, rfl, by omega, by omega, rfl⟩
  · have hy : FullBy p a l := by
      refine of_yes ?_
      cases z : yes (FullBy p a l) with
      | true => rfl
      | false =>
        rw [z] at hc
        exact Bool.noConfusion hc
    exact s_ret (ev_var rfl) fun H3 e3 => kk a H3 ((x.trans e2).trans e3) a1 (by omega) hy

theorem scPO : FnScope ["p", "parting"] ["p"] (defScope sPaperOf) := ⟨rfl, rfl, rfl, by decide +kernel, rfl, by decide +kernel, by decide +kernel⟩
theorem ok_paperOf {d k : Nat} {f : Addr} {fd : FuncData} (F : Fun K "paper_of" "paper_of" sPaperOf f fd) (hk : 3 ≤ k) (DP : Knows P w K mg base "parted" ["n"] 2 spParted) (DF : Knows P w K mg base "least_full" ["p", "parting"] 3 spLeastFull)
    (DB : Knows P w K mg base "papers_by" ["parting"] k (spPapersBy d)) : FnOk P w K mg base CX0 (k + 1) f fd ["p"] (spPaperOf (d + 1)) := by
  refine F.ok scPO (fun vs H Q E h => ?_) (fun cdv A outer s H vs Q E hr h => ?_)
  · obtain ⟨p, rfl, _⟩ := h
    rfl
  obtain ⟨p, rfl, hp, hd, p20, kk⟩ := h
  have p2 := hp.1
  have hr2 : Room 2 _ := hr.mono (by omega)
  have hr3 : Room 3 _ := hr.mono hk
  refine ⟨_, pss_cons (ps_set (i := 1) scPO.nd rfl (Or.inl rfl) (pe_k DP hr2 (pa_cons (pe_op op_sub (pv 0) pe_int) pa_nil)))
    (pss_one (ps_ret (pe_tup (pa_cons (pv 0) (pa_cons (pe_k DF hr3 (pa_cons (pv 0) (pa_cons (pv 1) pa_nil))) (pa_cons (pe_k DB hr (pa_cons (pv 1) pa_nil)) pa_nil)))))), ?_⟩
  have c1 : ((p : Int) - 1) = ((p - 1 : Nat) : Int) := by omega
  refine ⟨_, rfl, _, _, rfl, rfl, p - 1, by show [V.int ((p : Int) - 1)] = _; rw [c1], by omega, by omega, fun l L H1 e1 hl hL => ?_⟩
  have hml : ∀ x ∈ l, Prm x.1 ∧ Dep d x.1 ∧ x.1 < 2 ^ 20 ∧ 1 ≤ x.2 ∧ x.2 < 2 ^ 20 := fun x hx => by
    have px := (hl.1 x hx).1
    have dx := hl.dvd hx
    have := Nat.le_of_dvd (by omega) dx
    have := hl.many (by omega) hx
    exact ⟨px, dep_step hp px dx hd, by omega, (hl.1 x hx).2, by omega⟩
  have hlen := len30 (fun z hz => ⟨(hl.1 z hz).1.1, (hl.1 z hz).2⟩) (by rw [hl.2.2]; omega)
  refine ⟨_, rfl, _, rfl, _, rfl, p, L, l, rfl, p2, by omega, hL, fun x hx => ⟨by have := (hml x hx).1.1; omega, by have := (hml x hx).2.2.1; omega⟩, full_parting hp hl, fun g H2 e2 g1 gp hg => ?_⟩
  refine ⟨_, rfl, L, l, rfl, hL.mono e2, hml, by omega, fun b ts ps H3 e3 hfl hok hb hps => ?_⟩
  refine ⟨by show 3 ≤ sizeLine; decide, fun q hq => ?_⟩
  have e4 : Evl.Ex H3 (upd H3 q (.tup [.int (p : Int), .int (g : Int), .ref b])) := Evl.Ex.new hq
  refine kk (.ref q) (.mk p g ps) _ (((e1.trans e2).trans e3).trans e4) (ok_mk hp hl ⟨g1, gp, hg⟩ hfl hok) rfl ?_
  exact ⟨⟨p2, p20, g1, gp⟩, q, b, ts, rfl, upd_same, e4 _ _ hb, rows_monoT (tx e4) hps⟩

/-- (paper_of(q), many), q in slot 1, many 2 -/
def tPaperRow (d : Nat) : TE := tTup (tCons (tCall (spPaperOf d) [] E0 (tCons (tVar 1) tNil)) (tCons (tVar 2) tNil))
theorem scPB : FnScope ["parting", "q", "many"] ["parting"] (defScope sPapersBy) := ⟨rfl, rfl, rfl, by decide +kernel, rfl, by decide +kernel, by decide +kernel⟩
theorem ok_papersBy {d k : Nat} {f : Addr} {fd : FuncData} (F : Fun K "papers_by" "papers_by" sPapersBy f fd) (mt : mg "tuple" = none) (DO : Knows P w K mg base "paper_of" ["p"] k (spPaperOf d)) : FnOk P w K mg base CX0 (k + 1) f fd ["parting"] (spPapersBy d) := by
  refine F.ok scPB (fun vs H Q E h => ?_) (fun cdv A outer s H vs Q E hr h => ?_)
  · obtain ⟨L, l, rfl, _⟩ := h
    rfl
  obtain ⟨L, l, rfl, ⟨ts, hts, hp⟩, hml, hlen, kk⟩ := h
  refine ⟨_, pss_one (ps_ret (pe_callTy call_tuple_of (by rfl) mt (by decide +kernel) (pa_cons (pe_lc (own := [("q", 1), ("many", 2)]) (g := gTup K 2 (gCons (gName 1) (gCons (gName 2) gNil))) (te := tPaperRow d) (by rfl) scPB.nd (pi_list (pv 0))
      (blkOk_by (own := [("q", 1), ("many", 2)]) (N := ["parting", "q", "many"]) (sc := defScope sPapersBy) (by decide +kernel))
      (fun _ _ _ _ _ => pg_tup rfl (pgs_cons (pg_name (i := 1) scPB.nd rfl (Or.inl rfl)) (pgs_cons (pg_name (i := 2) scPB.nd rfl (Or.inl rfl)) pgs_nil))) (fun _ _ _ _ _ => pts_nil)
      (fun _ _ _ _ _ => pe_tup (pa_cons (pe_k DO hr (pa_cons (pv 1) pa_nil)) (pa_cons (pv 2) pa_nil)))) pa_nil))), ?_⟩
  refine ⟨_, rfl, L, rfl, ⟨ts, sq_of hts⟩, fun D hD => ?_⟩
  refine lc_list (xs := ts) (fun i H' => Evl.Ex H H' ∧ ∃ (us : List V) (ps : List (Paper × Nat)), H' D = some (.lst us) ∧ Paired (RowAt (PaperAt H' d) H' 2) us ps ∧ flat ps = l.take i ∧ ∀ x ∈ ps, Ok d x.1) ?_ ?_ ?_ ?_
  · exact ⟨Evl.Ex.new hD, [], [], upd_same, .nil, rfl, fun _ q => (nomatch q)⟩
  · exact fun i H' _ q => sq_of (q.1 _ _ hts)
  · rintro i t H' hi ⟨x, us, ps, hus, hps, hfl, hok⟩
    obtain ⟨y, hy, c, rfl, hc⟩ := paired_get hp hi
    obtain ⟨y1, y2, y3, y4, y5⟩ := hml y (List.mem_of_getElem? hy)
    refine ⟨c, _, rfl, st_of (x _ _ hc), rfl, _, _, rfl, _, _, rfl, rfl, rfl, ?_⟩
    refine lc_yes ?_
    refine ⟨_, rfl, y.1, rfl, y1, y2, y3, fun v t H1 e1 ht hv hPt => ?_⟩
    refine ⟨_, rfl, by show 2 ≤ sizeLine; decide, fun q hq => ?_⟩
    have e2 : Evl.Ex H1 (upd H1 q (.tup [v, .int (y.2 : Int)])) := Evl.Ex.new hq
    have hus2 := e2 _ _ (e1 _ _ hus)
    have lus : us.length = i := by
      rw [hps.length]
      have : (flat ps).length = (l.take i).length := by rw [hfl]
      rw [flat, List.length_map, List.length_take] at this
      have := (List.getElem?_eq_some_iff.mp hy).1
      omega
    have il := (List.getElem?_eq_some_iff.mp hy).1
    refine ⟨us, hus2, small1m (by omega), Ex.mut ((x.trans e1).trans e2) hD, us ++ [.ref q], ps ++ [(t, y.2)], upd_same, ?_, ?_, ?_⟩
    · have tl : Tx (upd H1 q (.tup [v, .int (y.2 : Int)])) (upd (upd H1 q (.tup [v, .int (y.2 : Int)])) D (.lst (us ++ [.ref q]))) := Tx.lst hus2
      refine Paired.snoc (rows_monoT ((tx (e1.trans e2)).trans tl) hps) ⟨y4, y5, q, v, [], rfl, tl _ _ upd_same, rfl, PaperAt.monoT ((tx e2).trans tl) hPt⟩
    · rw [take_more hy, flat, List.map_append]
      show flat ps ++ [(t.p, y.2)] = _
      rw [hfl, hv]
    · intro z hz
      rcases List.mem_append.mp hz with q | q
      · exact hok z q
      · rw [List.mem_singleton] at q
        rw [q]
        exact ht
  · rintro H' ⟨x, us, ps, hus, hps, hfl, hok⟩
    rw [List.take_of_length_le (by rw [hp.length]; exact Nat.le_refl _)] at hfl
    refine ⟨D, us, rfl, .inl ⟨sq_of hus, fun b hb => ?_⟩⟩
    have e2 : Evl.Ex H' (upd H' b (.tup us)) := Evl.Ex.new hb
    exact kk b us ps _ (x.trans e2) hfl hok upd_same (rows_monoT (tx e2) hps)

theorem paper_none {f : Addr} {fd : FuncData} {k : Nat} : FnOk P w K mg base CX0 k f fd ["p"] (spPaperOf 0) := by
  have no : ∀ vs H Q E, ¬ spPaperOf 0 vs H Q E := fun vs H Q E ⟨_, _, h, h2, _⟩ => not_dep_zero h h2
  exact ⟨fun vs H Q E h => absurd h (no vs H Q E), fun A outer s H args us vs Q E _ _ _ _ h => absurd h (no vs H Q E)⟩
structure Tellers (P : Program) (w : World) (K : PySem.W.Frag) (mg : Str → Option Value) (base : Heap) : Prop where
  parted : Knows P w K mg base "parted" ["n"] 2 spParted
  full : Knows P w K mg base "least_full" ["p", "parting"] 3 spLeastFull
  least : Knows P w K mg base "least_divisor" ["n"] 2 spLeast
  paper : ∃ f fd, At K mg "paper_of" sPaperOf ["p"] f fd
  papers : ∃ f fd, At K mg "papers_by" sPapersBy ["parting"] f fd
  mt : mg "tuple" = none
theorem Tellers.papers_of (T : Tellers P w K mg base) {d k : Nat} (h : Knows P w K mg base "paper_of" ["p"] k (spPaperOf d)) : Knows P w K mg base "papers_by" ["parting"] (k + 1) (spPapersBy d) := by
  obtain ⟨f, fd, A⟩ := T.papers
  exact A.knows (ok_papersBy A.F T.mt h)
theorem Tellers.paper_all (T : Tellers P w K mg base) : ∀ d : Nat, Knows P w K mg base "paper_of" ["p"] (2 * d + 3) (spPaperOf d)
  | 0 => by
    obtain ⟨f, fd, A⟩ := T.paper
    exact A.knows paper_none
  | d + 1 => by
    have h := T.papers_of (T.paper_all d)
    obtain ⟨f, fd, A⟩ := T.paper
    exact A.knows (ok_paperOf A.F (by omega) T.parted T.full h)
theorem Tellers.papers_all (T : Tellers P w K mg base) (d : Nat) : Knows P w K mg base "papers_by" ["parting"] (2 * d + 4) (spPapersBy d) := T.papers_of (T.paper_all d)

theorem scPP : FnScope ["n", "d"] ["n"] (defScope sPrimePaper) := ⟨rfl, rfl, rfl, by decide +kernel, rfl, by decide +kernel, by decide +kernel⟩
theorem ok_primePaper {d k : Nat} {f : Addr} {fd : FuncData} (F : Fun K "prime_paper" "prime_paper" sPrimePaper f fd) (hk : 2 ≤ k) (DL : Knows P w K mg base "least_divisor" ["n"] 2 spLeast) (DO : Knows P w K mg base "paper_of" ["p"] k (spPaperOf d)) : FnOk P w K mg base CX0 (k + 1) f fd ["n"] (spPrimePaper d) := by
  refine F.ok scPP (fun vs H Q E h => ?_) (fun cdv A outer s H vs Q E hr h => ?_)
  · obtain ⟨p, rfl, _⟩ := h
    rfl
  obtain ⟨p, rfl, hp, hd, p20, kk⟩ := h
  have p2 := hp.1
  have hr2 : Room 2 _ := hr.mono hk
  refine ⟨_, pss_cons (ps_set (i := 1) scPP.nd rfl (Or.inl rfl) (pe_k DL hr2 (pa_cons (pv 0) pa_nil)))
    (pss_cons (ps_if (pt_cmpR op_lt (pv 1) (pv 0) (nomark _)) (pss_one ps_never) pss_nil)
    (pss_one (ps_ret (pe_k DO hr (pa_cons (pv 0) pa_nil))))), ?_⟩
  refine ⟨_, rfl, p, rfl, p2, by omega, fun r H1 e1 r2 hrp _ => ?_⟩
  have er : r = p := by
    rcases hp.2 r hrp with z | z
    · omega
    · exact z
  subst er
  refine q_when (b := false) (et_is (et_test (ev_op (ev_var rfl) (ev_var rfl) rv_I0)) (decide_eq_false (by omega))) (fun hc => Bool.noConfusion hc) (fun _ H2 e2 => ?_)
  exact ⟨_, rfl, r, rfl, hp, hd, p20, fun v t H3 e3 h1 h2 h3 => kk v t H3 ((e1.trans e2).trans e3) h1 h2 h3⟩
theorem scPt : FnScope ["n"] ["n"] (defScope sPartingPaper) := ⟨rfl, rfl, rfl, by decide +kernel, rfl, by decide +kernel, by decide +kernel⟩
theorem ok_partingPaper {d k : Nat} {f : Addr} {fd : FuncData} (F : Fun K "parting_paper" "parting_paper" sPartingPaper f fd) (hk : 2 ≤ k) (DP : Knows P w K mg base "parted" ["n"] 2 spParted) (DB : Knows P w K mg base "papers_by" ["parting"] k (spPapersBy d)) : FnOk P w K mg base CX0 (k + 1) f fd ["n"] (spPartingPaper d) := by
  refine F.ok scPt (fun vs H Q E h => ?_) (fun cdv A outer s H vs Q E hr h => ?_)
  · obtain ⟨p, rfl, _⟩ := h
    rfl
  obtain ⟨n, rfl, n1, n20, hd, kk⟩ := h
  have hr2 : Room 2 _ := hr.mono hk
  refine ⟨_, pss_one (ps_ret (pe_k DB hr (pa_cons (pe_k DP hr2 (pa_cons (pv 0) pa_nil)) pa_nil))), ?_⟩
  refine ⟨_, rfl, n, rfl, n1, by omega, fun l L H1 e1 hl hL => ?_⟩
  have hml : ∀ x ∈ l, Prm x.1 ∧ Dep d x.1 ∧ x.1 < 2 ^ 20 ∧ 1 ≤ x.2 ∧ x.2 < 2 ^ 20 := fun x hx => by
    have px := (hl.1 x hx).1
    have dx := hl.dvd hx
    have h1 := Nat.le_of_dvd (by omega) dx
    have h2 := hl.many (by omega) hx
    unfold Dep at hd
    exact ⟨px, by unfold Dep; omega, by omega, (hl.1 x hx).2, by omega⟩
  have hlen := len30 (fun z hz => ⟨(hl.1 z hz).1.1, (hl.1 z hz).2⟩) (by rw [hl.2.2]; omega)
  refine ⟨L, l, rfl, hL, hml, by omega, fun b ts ps H2 e2 hfl hok hb hps => ?_⟩
  obtain ⟨h1, h2⟩ := rows_mk hl hfl hok
  exact kk b ts ps H2 (e1.trans e2) h1 h2 hb hps
end
end K27
namespace K27
open PySem L2 Evl
/-! # The law's own helpers -/
def spDraws : Sp := fun vs H Q _ => ∃ c : Int, vs = [.int c, .int 4] ∧ ∀ L x0 x1 x2 x3 H2, Evl.Ex H H2 → H2 L = some (.lst [.int x0, .int x1, .int x2, .int x3]) → Q (.ref L) H2
def spLPower : Sp := fun vs H Q _ => ∃ (n : Nat) (a : Int) (e : Nat), vs = [.int (n : Int), .int a, .int (e : Int)] ∧ 1 ≤ n ∧ n < 2 ^ 30 ∧ a.natAbs < 2 ^ 200 ∧ RetV (.int (pw n a e : Nat)) H Q
def spLOrder : Sp := fun vs H Q _ => ∃ (n : Nat) (a : Int), vs = [.int (n : Int), .int a] ∧ 2 ≤ n ∧ n < 2 ^ 30 ∧ a.natAbs < 2 ^ 200 ∧ ∀ (o : Nat) H2, Evl.Ex H H2 → (o = 0 ∧ (∀ k, 1 ≤ k → k ≤ n → pw n a k ≠ 1) ∨ IsOrd n a o ∧ o ≤ n) → Q (.int (o : Nat)) H2
def spLTaken : Sp := fun vs H Q _ => ∃ (q m : Nat), vs = [.int (q : Int), .int (m : Int)] ∧ q < 2 ^ 20 ∧ m < 2 ^ 20 ∧ RetV (.int (q ^ m : Nat)) H Q
section
variable {P : Program} {w : World} {K : PySem.W.Frag} {mg : Str → Option Value} {base : Heap}
theorem four {xs : List Int} (h : xs.length = 4) : ∃ a b c d, xs = [a, b, c, d] := by
  match xs, h with
  | [a, b, c, d], _ => exact ⟨a, b, c, d, rfl⟩
theorem scDraws : FnScope ["_law_cell", "_law_many", "_law_found", "_law_k", "_law_number"] ["_law_cell", "_law_many"] (defScope sDraws) := ⟨rfl, rfl, rfl, by decide +kernel, rfl, by decide +kernel, by decide +kernel⟩
theorem two_of (x : Int) : x % 2 = 0 ∨ x % 2 = 1 := by omega
theorem ev_abs {σ : L2.St} {H : Hp} {te : TE} {i : Int} (h : Ev te σ H (.int i)) : Ev (tCB (fun xs H Q => ∃ i, xs = [.int i] ∧ Q (.int (if i < 0 then -i else i)) H) (tCons te tNil)) σ H (.int (if i < 0 then -i else i)) :=
  ev_cb (ea_cons h ea_nil) fun H1 _ _ q => ⟨i, rfl, q H1 (Evl.Ex.refl H1)⟩
theorem ok_draws {f : Addr} {fd : FuncData} (F : Fun K "_law_draws" "_law_draws" sDraws f fd) (mr : mg "range" = none) (ma : mg "abs" = none) : FnOk P w K mg base CX0 1 f fd ["_law_cell", "_law_many"] spDraws := by
  refine F.ok scDraws (fun vs H Q E h => ?_) (fun cdv A outer s H vs Q E hr h => ?_)
  · obtain ⟨c, rfl, _⟩ := h
    rfl
  obtain ⟨c, rfl, kk⟩ := h
  refine ⟨_, pss_cons (ps_set (i := 2) scDraws.nd rfl (Or.inl rfl) (pe_lst pa_nil))
    (pss_cons (ps_for PassesOwn.never rfl (pi_range1 (by rfl) mr (pa_cons (pv 1) pa_nil)) (pg_name (i := 3) scDraws.nd rfl (Or.inl rfl))
      (pss_one (ps_if (pt_cmpR op_ge (pe_callB call_abs (by rfl) ma (by decide +kernel) (pa_cons (pv 0) pa_nil)) (pe_op op_pow pe_int pe_int) (nomark _))
        (pss_cons (ps_expr (pe_bm PySem.F.plainAttrs_list PySem.F.slot_list_append PySem.F.type_list_append mt_append (pv 2) (pa_cons (pe_op op_mod (pv 0) (pe_op op_pow pe_int pe_int)) pa_nil)))
        (pss_one (ps_set (i := 0) scDraws.nd rfl (Or.inl rfl) (pe_op op_fdivW (pv 0) (pe_op op_pow pe_int pe_int)))))
        (pss_cons (ps_set (i := 4) scDraws.nd rfl (Or.inl rfl) (pe_op op_mod (pe_op op_mul (pe_op op_mod (pe_op op_add (pe_op op_add (pv 0) (pe_op op_mul (pe_op op_mul pe_int (pv 3)) (pv 3))) (pv 3)) pe_int) pe_int) pe_int))
        (pss_cons (ps_set (i := 4) scDraws.nd rfl (Or.inl rfl) (pe_op op_fdiv (pe_op op_mod (pe_op op_mul (pv 4) (pe_op op_add (pe_op op_add (pv 4) (pe_op op_mul pe_int (pv 3))) pe_int)) pe_int) pe_int))
        (pss_one (ps_expr (pe_bm PySem.F.plainAttrs_list PySem.F.slot_list_append PySem.F.type_list_append mt_append (pv 2) (pa_cons (pe_ix ix_list
          (pe_lst (pa_cons (pv 4) (pa_cons (pe_op op_mod (pe_op op_fdiv (pe_op op_pow (pv 4) pe_int) pe_int) (pe_op op_pow pe_int pe_int)) pa_nil))) (pe_op op_mod (pe_op op_fdiv (pv 4) pe_int) pe_int) (fun _ _ => rfl)) pa_nil)))))))))
    (pss_one (ps_ret (pv 2)))), ?_⟩
  refine q_asgL (el_lst ea_nil (by decide)) fun L H1 hL e1 h1 => ?_
  have p60 : (0 : Int) < 10 ^ (60 : Int).toNat := by decide
  have c18 : CPow 10 18 := ⟨by decide, by decide, by decide⟩
  have c60 : CPow 10 60 := ⟨by decide, by decide, by decide⟩
  refine q_forR1 (n := 4) (ea_cons (ev_var rfl) ea_nil) ⟨by decide, by decide⟩ (fun i σ' H' => Evl.Ex H H' ∧ ∃ (c : Int) (xs : List Int) (o1 o2 : Option V), σ' = [some (.int c), some (.int 4), some (.ref L), o1, o2] ∧ H' L = some (.lst (xs.map V.int)) ∧ xs.length = i) ?_ ?_ ?_
  · exact fun H2 e2 => ⟨e1.trans e2, c, [], none, none, rfl, e2 _ _ h1, rfl⟩
  · rintro i σ' H' hi ⟨x, c, xs, o1, o2, rfl, hxs, hlen⟩
    have app : ∀ (z : Int) H2 H3, Evl.Ex H' H2 → H3 = upd H2 L (.lst (xs.map V.int ++ [.int z])) → Evl.Ex H H3 ∧ H3 L = some (.lst ((xs ++ [z]).map V.int)) ∧ (xs ++ [z]).length = i + 1 := fun z H2 H3 e2 h3 => by
      subst h3
      refine ⟨Ex.mut (x.trans e2) hL, ?_, ?_⟩
      · rw [upd_same, List.map_append]
        rfl
      · rw [List.length_append, hlen]
        rfl
    refine s_if (b := decide ((10 : Int) ^ (18 : Int).toNat ≤ if c < 0 then -c else c)) (et_test (ev_op (ev_abs (ev_var rfl)) (ev_op ev_c ev_c (rv_I c18)) rv_I0)) (fun _ H2 e2 => ?_) (fun _ H2 e2 => ?_)
    · refine q_app (xs := xs.map V.int) (e2 _ _ hxs) (ev_var rfl) (ev_op (ev_var rfl) (ev_op ev_c ev_c (rv_I c60)) (rv_I p60)) (by rw [List.length_map]; omega) fun H3 e3 => ?_
      refine s_asg (ev_op (ev_var rfl) (ev_op ev_c ev_c (rv_I c60)) (rv_I ⟨p60, by decide +kernel⟩)) fun H4 e4 => ?_
      obtain ⟨a1, a2, a3⟩ := app _ H3 _ (e2.trans e3) rfl
      exact ⟨a1.trans e4, _, _, _, _, rfl, e4 _ _ a2, a3⟩
    · refine q_asg (ev_op (ev_op (ev_op (ev_op (ev_op (ev_var rfl) (ev_op (ev_op ev_c (ev_var rfl) (rv_I (.inl ⟨by decide, by decide⟩))) (ev_var rfl) (rv_I (.inr ⟨by omega, by omega⟩))) rv_I0) (ev_var rfl) rv_I0) ev_c (rv_I (by decide))) ev_c (rv_I (.inr ⟨by decide, by decide⟩))) ev_c (rv_I (by decide))) fun H3 e3 => ?_
      generalize hm : (c + 7919 * (i : Int) * (i : Int) + (i : Int)) % 2147483647 * 48271 % 2147483647 = m
      have m0 : 0 ≤ m ∧ m < 2147483647 := by omega
      refine q_asg (ev_op (ev_op (ev_op (ev_var rfl) (ev_op (ev_op (ev_var rfl) (ev_op ev_c (ev_var rfl) (rv_I (.inl ⟨by decide, by decide⟩))) rv_I0) ev_c rv_I0) (rv_I (.inl ⟨by omega, by omega⟩))) ev_c (rv_I (by decide))) ev_c (rv_I ⟨by decide, by decide⟩)) fun H4 e4 => ?_
      generalize hm2 : m * (m + 12345 * (i : Int) + 7) % 2147483629 / 11 = m2
      have m20 : 0 ≤ m2 ∧ m2 < 2147483647 := by omega
      have c7 : CPow m2 7 := ⟨by decide, by decide, by omega⟩
      have ht := (e2.trans e3).trans e4
      have hel : EvL (tLst (tCons (tVar 4) (tCons (tOp (rI (fun _ j => 0 < j) fun i j => .int (i % j)) (tOp (rI CDiv fun i j => .int (i / j)) (tOp (rI CPow fun i j => .int (i ^ j.toNat)) (tVar 4) (tC (.int 7))) (tC (.int 13))) (tOp (rI CPow fun i j => .int (i ^ j.toNat)) (tC (.int 10)) (tC (.int 60)))) tNil))) [some (.int c), some (.int 4), some (.ref L), some (.int (i : Int)), some (.int m2)] H4 [.int m2, .int (m2 ^ (7 : Int).toNat / 13 % 10 ^ (60 : Int).toNat)] :=
        el_lst (ea_cons (ev_var rfl) (ea_cons (ev_op (ev_op (ev_op (ev_var rfl) ev_c (rv_I c7)) ev_c (rv_I ⟨by decide, by decide⟩)) (ev_op ev_c ev_c (rv_I c60)) (rv_I p60)) ea_nil)) (by show 2 ≤ 100000; decide)
      obtain ⟨z, hz⟩ : ∃ z : Int, atI [V.int m2, V.int (m2 ^ (7 : Int).toNat / 13 % 10 ^ (60 : Int).toNat)] (m2 / 4 % 2) = some (.int z) := by
        rcases two_of (m2 / 4) with z | z
        · exact ⟨m2, by rw [z]; exact at0⟩
        · exact ⟨_, by rw [z]; exact at1⟩
      refine s_app (K := K) (xs := xs.map V.int) (ht _ _ hxs) (ev_var rfl) (ev_opL1 hel (fun _ _ => ev_op (ev_op (ev_var rfl) ev_c (rv_I ⟨by decide, by decide⟩)) ev_c (rv_I (by decide))) (fun p H1 hp _ => rv_ixL (K := K) (sq_of hp) hz)) (by rw [List.length_map]; omega) fun H5 e5 => ?_
      exact ⟨(app z H5 _ (ht.trans e5) rfl).1, c, xs ++ [z], _, _, rfl, (app z H5 _ (ht.trans e5) rfl).2.1, (app z H5 _ (ht.trans e5) rfl).2.2⟩
  · rintro σ' H' ⟨x, c, xs, o1, o2, rfl, hxs, hlen⟩
    obtain ⟨a, b, c', d, rfl⟩ := four hlen
    exact s_ret (ev_var rfl) fun H2 e2 => kk L a b c' d H2 (x.trans e2) (e2 _ _ hxs)

/-! ## powers -/
theorem mul_emod_cast {f n : Nat} {a : Int} (hn : 1 ≤ n) : ((f : Int) * a) % (n : Int) = ((f * (a % (n : Int)).toNat % n : Nat) : Int) := by
  have h0 := Int.emod_nonneg a (show (n : Int) ≠ 0 by omega)
  rw [Int.mul_emod, ← cast_mul_mod, Int.toNat_of_nonneg h0, Int.mul_emod (f : Int) (a % (n : Int)), Int.emod_emod_of_dvd _ (Int.dvd_refl _)]
theorem sq_emod_cast {n : Nat} {a : Int} (hn : 1 ≤ n) : (a * a) % (n : Int) = (((a % (n : Int)).toNat * (a % (n : Int)).toNat % n : Nat) : Int) := by
  have h0 := Int.emod_nonneg a (show (n : Int) ≠ 0 by omega)
  rw [Int.mul_emod, ← cast_mul_mod, Int.toNat_of_nonneg h0]
theorem toNat_emod_cast {m n : Nat} : (((m : Nat) : Int) % (n : Int)).toNat = m % n := by
  rw [cast_mod]
  rfl
theorem pw_zero {n : Nat} {a : Int} : pw n a 0 = 1 % n := by
  unfold pw
  rw [Nat.pow_zero]
theorem pw_one {n : Nat} {a : Int} (hn : 1 ≤ n) : ((pw n a 1 : Nat) : Int) = a % (n : Int) := by
  unfold pw
  have h0 := Int.emod_nonneg a (show (n : Int) ≠ 0 by omega)
  have h1 := Int.emod_lt_of_pos a (show (0 : Int) < n by omega)
  rw [Nat.pow_one, Nat.mod_eq_of_lt (by omega)]
  omega
theorem pw_succ {n e : Nat} {a : Int} (hn : 1 ≤ n) : ((pw n a (e + 1) : Nat) : Int) = (pw n a e : Int) * a % (n : Int) := by
  rw [mul_emod_cast hn]
  unfold pw
  congr 1
  rw [Nat.pow_succ, Nat.mod_mul_mod]
theorem pw_lt {n e : Nat} {a : Int} (hn : 1 ≤ n) : pw n a e < n := Nat.mod_lt _ (by omega)

theorem scLPower : FnScope ["_law_n", "_law_a", "_law_e", "_law_found"] ["_law_n", "_law_a", "_law_e"] (defScope sLPower) := ⟨rfl, rfl, rfl, by decide +kernel, rfl, by decide +kernel, by decide +kernel⟩
theorem ok_lpower {f : Addr} {fd : FuncData} (F : Fun K "_law_power" "_law_power" sLPower f fd) : FnOk P w K mg base CX0 1 f fd ["_law_n", "_law_a", "_law_e"] spLPower := by
  refine F.ok scLPower (fun vs H Q E h => ?_) (fun cdv A outer s H vs Q E hr h => ?_)
  · obtain ⟨n, a, e, rfl, _⟩ := h
    rfl
  obtain ⟨n, a, e, rfl, hn, hn2, ha, k⟩ := h
  refine ⟨_, pss_cons (ps_set (i := 3) scLPower.nd rfl (Or.inl rfl) (pe_op op_mod pe_int (pv 0)))
    (pss_cons (ps_while PassesOwn.never (pt_cmpR op_gt (pv 2) pe_int (nomark _))
       (pss_cons (ps_if (pt_cmpR op_eq (pe_op op_mod (pv 2) pe_int) pe_int (nomark _)) (pss_one (ps_set (i := 3) scLPower.nd rfl (Or.inl rfl) (pe_op op_mod (pe_op op_mulW (pv 3) (pv 1)) (pv 0)))) pss_nil)
       (pss_cons (ps_set (i := 1) scLPower.nd rfl (Or.inl rfl) (pe_op op_mod (pe_op op_mulW (pv 1) (pv 1)) (pv 0)))
       (pss_one (ps_set (i := 2) scLPower.nd rfl (Or.inl rfl) (pe_op op_fdiv (pv 2) pe_int))))))
    (pss_one (ps_ret (pv 3)))), ?_⟩
  have n0 : (0 : Int) < (n : Int) := by omega
  refine q_asg (v := .int ((1 % n : Nat) : Int)) (ev_is (ev_op ev_c (ev_var rfl) (rv_I n0)) (congrArg V.int (cast_mod 1 n))) fun H1 e1 => ?_
  refine q_while (fun m σ' H' => Evl.Ex H H' ∧ ∃ (f : Nat) (b : Int), σ' = [some (.int (n : Int)), some (.int b), some (.int (m : Int)), some (.int (f : Int))] ∧ f < n ∧ b.natAbs < 2 ^ 200 ∧ f * (b % (n : Int)).toNat ^ m % n = pw n a e) e ?_ ?_
  · refine ⟨e1, 1 % n, a, rfl, Nat.mod_lt _ (by omega), ha, ?_⟩
    rw [Nat.mul_mod, Nat.mod_mod, ← Nat.mul_mod, Nat.one_mul]
    rfl
  · rintro m σ' H' ⟨x, f, b, rfl, hf, hb, hm⟩
    refine ⟨decide (0 < m), et_is (et_test (ev_op (ev_var rfl) ev_c rv_I0)) (by simp), fun hm0 H1 x1 => ?_, fun hm0 H1 x1 => ?_⟩
    · have hm0 : 0 < m := of_decide_eq_true hm0
      have wf : CMulW (f : Int) b := wide_mul (a := 30) (b := 200) (by omega) hb (by decide) (by decide) (by decide)
      have wb : CMulW b b := wide_mul (a := 200) (b := 200) hb hb (by decide) (by decide) (by decide)
      refine ⟨_, fun σ2 H2 q => ⟨m / 2, by omega, q⟩, ?_⟩
      refine q_ifAsg (b := decide (m % 2 = 1)) (i := 3) (v := .int ((if m % 2 = 1 then f * (b % (n : Int)).toNat % n else f : Nat) : Int)) (et_is (et_test (ev_op (ev_op (ev_var rfl) ev_c (rv_I (by decide))) ev_c (rv_eq rfl))) (dec_int (by omega))) (fun hb => ?_) (fun hb => ?_) (fun H2 x2 => ?_)
      · have hb := of_decide_eq_true hb
        rw [if_pos hb, ← mul_emod_cast hn]
        exact ev_op (ev_op (ev_var rfl) (ev_var rfl) (rv_I wf)) (ev_var rfl) (rv_I n0)
      · have hb := of_decide_eq_false hb
        rw [if_neg hb]
        rfl
      refine q_asg (v := .int (((b % (n : Int)).toNat * (b % (n : Int)).toNat % n : Nat) : Int)) ?_ fun H3 x3 => s_asg (v := .int ((m / 2 : Nat) : Int)) ?_ fun H4 x4 => ?_
      · rw [← sq_emod_cast hn]
        exact ev_op (ev_op (ev_var rfl) (ev_var rfl) (rv_I wb)) (ev_var rfl) (rv_I n0)
      · exact ev_is (ev_op (ev_var rfl) ev_c (rv_I ⟨by decide, by decide⟩)) (congrArg V.int (cast_div m 2))
      have lt2 : (b % (n : Int)).toNat * (b % (n : Int)).toNat % n < n := Nat.mod_lt _ (by omega)
      refine ⟨(((x.trans x1).trans x2).trans x3).trans x4, (if m % 2 = 1 then f * (b % (n : Int)).toNat % n else f), _, rfl, ?_, ?_, ?_⟩
      · split
        · exact Nat.mod_lt _ (by omega)
        · exact hf
      · exact Nat.lt_of_lt_of_le (by omega : _ < 2 ^ 30) (by decide)
      · rw [toNat_emod_cast, Nat.mod_mod]
        by_cases hb : m % 2 = 1
        · rw [if_pos hb, pow_odd hb]
          exact hm
        · rw [if_neg hb, pow_even (by omega)]
          exact hm
    · have hm0 : ¬ 0 < m := of_decide_eq_false hm0
      have m0 : m = 0 := by omega
      subst m0
      rw [Nat.pow_zero, Nat.mul_one, Nat.mod_eq_of_lt hf] at hm
      subst hm
      exact s_ret (ev_var rfl) fun H2 x2 => k H2 ((x.trans x1).trans x2)

theorem scLOrder : FnScope ["_law_n", "_law_a", "_law_here", "_law_many"] ["_law_n", "_law_a"] (defScope sLOrder) := ⟨rfl, rfl, rfl, by decide +kernel, rfl, by decide +kernel, by decide +kernel⟩
theorem ok_lorder {f : Addr} {fd : FuncData} (F : Fun K "_law_order" "_law_order" sLOrder f fd) (mr : mg "range" = none) : FnOk P w K mg base CX0 1 f fd ["_law_n", "_law_a"] spLOrder := by
  refine F.ok scLOrder (fun vs H Q E h => ?_) (fun cdv A outer s H vs Q E hr h => ?_)
  · obtain ⟨n, a, rfl, _⟩ := h
    rfl
  obtain ⟨n, a, rfl, n2, n30, ha, kk⟩ := h
  refine ⟨_, pss_cons (ps_set (i := 2) scLOrder.nd rfl (Or.inl rfl) (pe_op op_mod (pv 1) (pv 0)))
    (pss_cons (ps_for PassesOwn.never rfl (pi_range2 (by rfl) mr (pa_cons pe_int (pa_cons (pe_op op_add (pv 0) pe_int) pa_nil))) (pg_name (i := 3) scLOrder.nd rfl (Or.inl rfl))
      (pss_cons (ps_if (pt_cmpR op_eq (pv 2) (pe_op op_mod pe_int (pv 0)) (nomark _)) (pss_one (ps_ret (pv 3))) pss_nil)
      (pss_one (ps_set (i := 2) scLOrder.nd rfl (Or.inl rfl) (pe_op op_mod (pe_op op_mulW (pv 2) (pv 1)) (pv 0))))))
    (pss_one (ps_ret pe_int))), ?_⟩
  have n0 : (0 : Int) < (n : Int) := by omega
  have n1 : 1 ≤ n := by omega
  refine q_asg (v := .int ((pw n a 1 : Nat) : Int)) (ev_is (ev_op (ev_var rfl) (ev_var rfl) (rv_I n0)) (congrArg V.int (pw_one n1).symm)) fun H1 e1 => ?_
  have hlen : ((n : Int) + 1 - 1).toNat = n := by omega
  refine ⟨_, rfl, _, _, rfl, rfl, 1, (n : Int) + 1, rfl, ⟨by omega, by omega, by omega, by omega⟩, ?_⟩
  rw [hlen]
  refine for_range (lo := 1) (n := n) (fun i σ' H' => Evl.Ex H H' ∧ ∃ o : Option V, σ' = [some (.int (n : Int)), some (.int a), some (.int ((pw n a (i + 1) : Nat) : Int)), o] ∧ ∀ k, 1 ≤ k → k ≤ i → pw n a k ≠ 1) ⟨e1, none, rfl, fun k h1 h2 => by omega⟩ ?_ ?_
  · rintro i σ' H' hi ⟨x, o, rfl, hk⟩
    have hlt := pw_lt (e := i + 1) (a := a) n1
    have wf : CMulW ((pw n a (i + 1) : Nat) : Int) a := wide_mul (a := 30) (b := 200) (by omega) ha (by decide) (by decide) (by decide)
    refine q_when (b := decide (pw n a (i + 1) = 1)) (et_is (et_test (ev_op (ev_var rfl) (ev_is (ev_op ev_c (ev_var rfl) (rv_I n0)) (congrArg V.int (show (1 : Int) % (n : Int) = 1 from Int.emod_eq_of_lt (by omega) (by omega)))) (rv_eq rfl))) (dec_int (by omega))) (fun hc H2 e2 => ?_) (fun hc H2 e2 => ?_)
    · have hc := of_decide_eq_true hc
      refine s_ret (ev_is (ev_var rfl) (congrArg V.int (show (1 : Int) + (i : Int) = ((i + 1 : Nat) : Int) by omega))) fun H3 e3 => ?_
      exact kk (i + 1) H3 ((x.trans e2).trans e3) (.inr ⟨⟨by omega, hc, fun k h1 h2 => hk k h1 (by omega)⟩, by omega⟩)
    · have hc := of_decide_eq_false hc
      refine s_asg (v := .int ((pw n a (i + 1 + 1) : Nat) : Int)) (ev_is (ev_op (ev_op (ev_var rfl) (ev_var rfl) (rv_I wf)) (ev_var rfl) (rv_I n0)) (congrArg V.int (pw_succ n1).symm)) fun H3 e3 => ?_
      refine ⟨(x.trans e2).trans e3, _, rfl, fun k h1 h2 => ?_⟩
      rcases Nat.lt_or_ge i k with z | z
      · have : k = i + 1 := by omega
        rw [this]
        exact hc
      · exact hk k h1 z
  · rintro σ' H' ⟨x, o, rfl, hk⟩
    exact kk 0 H' x (.inl ⟨rfl, hk⟩)

theorem scLTaken : FnScope ["_law_q", "_law_many", "_law_found", "_law_turn"] ["_law_q", "_law_many"] (defScope sLTaken) := ⟨rfl, rfl, rfl, by decide +kernel, rfl, by decide +kernel, by decide +kernel⟩
theorem ok_ltaken {f : Addr} {fd : FuncData} (F : Fun K "_law_taken" "_law_taken" sLTaken f fd) (mr : mg "range" = none) : FnOk P w K mg base CX0 1 f fd ["_law_q", "_law_many"] spLTaken := by
  refine F.ok scLTaken (fun vs H Q E h => ?_) (fun cdv A outer s H vs Q E hr h => ?_)
  · obtain ⟨q, m, rfl, _⟩ := h
    rfl
  obtain ⟨q, m, rfl, q20, m20, kk⟩ := h
  refine ⟨_, pss_cons (ps_set (i := 2) scLTaken.nd rfl (Or.inl rfl) pe_int)
    (pss_cons (ps_for PassesOwn.never rfl (pi_range1 (by rfl) mr (pa_cons (pv 1) pa_nil)) (pg_name (i := 3) scLTaken.nd rfl (Or.inl rfl))
      (pss_one (ps_set (i := 2) scLTaken.nd rfl (Or.inl rfl) (pe_op op_mul (pv 2) (pv 0)))))
    (pss_one (ps_ret (pv 2)))), ?_⟩
  refine q_asg ev_c fun H1 e1 => ?_
  refine ⟨_, rfl, (m : Int), rfl, by omega, by omega, ?_⟩
  refine for_range (lo := 0) (n := (m : Int).toNat) (fun i σ' H' => Evl.Ex H H' ∧ ∃ o : Option V, σ' = [some (.int (q : Int)), some (.int (m : Int)), some (.int ((q ^ i : Nat) : Int)), o]) ⟨e1, none, rfl⟩ ?_ ?_
  · rintro i σ' H' hi ⟨x, o, rfl⟩
    refine s_asg (v := .int ((q ^ (i + 1) : Nat) : Int)) (ev_is (ev_op (ev_var rfl) (ev_var rfl) (rv_I (.inr ⟨by omega, by omega⟩))) (congrArg V.int ?_)) fun H3 e3 => ⟨x.trans e3, _, rfl⟩
    rw [Nat.pow_succ, Int.natCast_mul]
  · rintro σ' H' ⟨x, o, rfl⟩
    exact s_ret (ev_var rfl) fun H2 e2 => kk H2 (x.trans e2)
end
end K27
namespace K27
open PySem L2 Evl
/-! # groups, claimed papers, the thing -/
theorem paired_last {α β : Type} {F : α → β → Prop} : ∀ {ts : List α} {l : List β}, Paired F ts l → 0 < ts.length → ∃ ts0 t l0 x, ts = ts0 ++ [t] ∧ l = l0 ++ [x] ∧ Paired F ts0 l0 ∧ F t x
  | _, _, .nil, h => by simp at h
  | _, _, .cons (a := a) (b := b) r .nil, _ => ⟨[], a, [], b, rfl, rfl, .nil, r⟩
  | _, _, .cons (a := a) (b := b) r (.cons r2 t2), _ => by
    obtain ⟨ts0, t, l0, x, h1, h2, h3, h4⟩ := paired_last (.cons r2 t2) (by simp)
    exact ⟨a :: ts0, t, b :: l0, x, by rw [h1]; rfl, by rw [h2]; rfl, .cons r h3, h4⟩
theorem paired_perm {α β : Type} {F : α → β → Prop} {ts us : List α} (h : ts.Perm us) : ∀ {l : List β}, Paired F ts l → ∃ l', l'.Perm l ∧ Paired F us l' := by
  induction h with
  | nil => exact fun h => ⟨_, .refl _, h⟩
  | cons x _ ih =>
    intro l h
    cases h with
    | cons r t =>
      obtain ⟨l', h1, h2⟩ := ih t
      exact ⟨_, h1.cons _, .cons r h2⟩
  | swap x y l0 =>
    intro l h
    cases h with
    | cons r t =>
      cases t with
      | cons r2 t2 => exact ⟨_, .swap _ _ _, .cons r2 (.cons r t2)⟩
  | trans _ _ ih1 ih2 =>
    intro l h
    obtain ⟨l1, h1, h2⟩ := ih1 h
    obtain ⟨l2, h3, h4⟩ := ih2 h2
    exact ⟨l2, h3.trans h1, h4⟩
theorem prodOf_take_dvd (l : List (Nat × Nat)) (i : Nat) : prodOf (l.take i) ∣ prodOf l := by
  conv => rhs; rw [← List.take_append_drop i l, prodOf_append]
  exact Nat.dvd_mul_right _ _

section
variable {σ : L2.St} {H : Hp} {D : Ends} {t : TT} {tu tw tz : TS} {ta : TA} {te : TE} {vs : List V}
/-- a test of which not the answer is known but what follows from it -/
theorem q_whenP {P : Bool → Prop} (h : ∀ Q : Bool → Hp → Prop, (∀ b H1, Evl.Ex H H1 → P b → Q b H1) → t σ H Q) (h1 : ∀ H1, Evl.Ex H H1 → P true → tu { D with nx := tz D } σ H1) (h2 : ∀ H1, Evl.Ex H H1 → P false → tz D σ H1) : tSeq (tIfS t tu tNext) tz D σ H :=
  h _ fun b H1 e p => by
    cases b with
    | true => exact iteT (h1 H1 e p)
    | false => exact iteF (h2 H1 e p)
theorem s_retC {sp : Sp} (h : EvA ta σ H vs) (k : ∀ H1, Evl.Ex H H1 → sp (vs ++ []) H1 D.rt E0) : tRet (tCall sp [] E0 ta) D σ H := h H (Evl.Ex.refl H) _ fun H1 e => k H1 e
end

def spLGroups : Sp := fun vs H Q _ => ∃ (e : Nat) (num : Int), vs = [.int (e : Int), .int num] ∧ 1 ≤ e ∧ e < 2 ^ 20 ∧ ∀ l L H2, Evl.Ex H H2 → (∀ x ∈ l, 2 ≤ x.1 ∧ 1 ≤ x.2 ∧ x.1 ^ x.2 ≤ e) → l.length < 1000 → PairsAt H2 L l → Q (.ref L) H2
def spLClaimed : Sp := fun vs H Q _ => ∃ (q : Nat) (num : Int), vs = [.int (q : Int), .int num] ∧ 2 ≤ q ∧ q ≤ 120100 ∧ ∀ v t H2, Evl.Ex H H2 → PaperAt H2 19 v t → Q v H2
def spLThing : Sp := fun vs H Q _ => ∃ (n : Nat) (a : Int) (e : Nat) (num : Int), vs = [.int (n : Int), .int a, .int (e : Int), .int num] ∧ 2 ≤ n ∧ n < 2 ^ 30 ∧ a.natAbs < 2 ^ 200 ∧ 1 ≤ e ∧ e ≤ 120100 ∧ ∀ v qs H2, Evl.Ex H H2 → OrderAt H2 19 v e qs → Q v H2
section
variable {P : Program} {w : World} {K : PySem.W.Frag} {mg : Str → Option Value} {base : Heap}
theorem scLGroups : FnScope ["_law_e", "_law_number", "_law_groups_here", "_law_q", "_law_many", "_law_before"] ["_law_e", "_law_number"] (defScope sLGroups) := ⟨rfl, rfl, rfl, by decide +kernel, rfl, by decide +kernel, by decide +kernel⟩
theorem ok_lgroups {f : Addr} {fd : FuncData} (F : Fun K "_law_groups" "_law_groups" sLGroups f fd) (ml : mg "len" = none) (ms : mg "sorted" = none) (DP : Knows P w K mg base "parted" ["n"] 2 spParted) (DT : Knows P w K mg base "_law_taken" ["_law_q", "_law_many"] 1 spLTaken) :
    FnOk P w K mg base CX0 3 f fd ["_law_e", "_law_number"] spLGroups := by
  refine F.ok scLGroups (fun vs H Q E h => ?_) (fun cdv A outer s H vs Q E hr h => ?_)
  · obtain ⟨e, num, rfl, _⟩ := h
    rfl
  obtain ⟨e, num, rfl, e1, e20, kk⟩ := h
  have hr1 : Room 1 _ := hr.mono (by decide)
  refine ⟨_, pss_cons (ps_set (i := 2) scLGroups.nd rfl (Or.inl rfl) (pe_lst pa_nil))
    (pss_cons (ps_for PassesOwn.never rfl (pi_list (pe_k DP hr (pa_cons (pv 0) pa_nil))) (pg_tup rfl (pgs_cons (pg_name (i := 3) scLGroups.nd rfl (Or.inl rfl)) (pgs_cons (pg_name (i := 4) scLGroups.nd rfl (Or.inl rfl)) pgs_nil)))
      (pss_cons (ps_set (i := 1) scLGroups.nd rfl (Or.inl rfl) (pe_op op_fdiv (pv 1) pe_int))
      (pss_one (ps_if (PW.pt (pw_and (pt_cmpR op_gt (pe_callB call_len_seq (by rfl) ml PySem.boot_len (pa_cons (pv 2) pa_nil)) pe_int (nomark _)) (pw_and1 (pt_cmpR op_eq (pe_op op_mod (pv 1) pe_int) pe_int (nomark _)))))
        (pss_cons (ps_set (i := 5) scLGroups.nd rfl (Or.inl rfl) (pe_bm0 PySem.F.plainAttrs_list PySem.F.slot_list_pop PySem.F.type_list_pop mt_pop (pv 2)))
        (pss_one (ps_expr (pe_bm PySem.F.plainAttrs_list PySem.F.slot_list_append PySem.F.type_list_append mt_append (pv 2) (pa_cons (pe_tup (pa_cons (pe_op op_mul (pe_k DT hr1 (pa_cons (pe_ix ix_tup (pv 5) pe_int (fun _ _ => rfl)) (pa_cons (pe_ix ix_tup (pv 5) pe_int (fun _ _ => rfl)) pa_nil))) (pe_k DT hr1 (pa_cons (pv 3) (pa_cons (pv 4) pa_nil)))) (pa_cons pe_int pa_nil))) pa_nil)))))
        (pss_one (ps_expr (pe_bm PySem.F.plainAttrs_list PySem.F.slot_list_append PySem.F.type_list_append mt_append (pv 2) (pa_cons (pe_tup (pa_cons (pv 3) (pa_cons (pv 4) pa_nil))) pa_nil))))))))
    (pss_one (ps_ret (pe_callB cr_sortedP (by rfl) ms (by decide +kernel) (pa_cons (pv 2) pa_nil))))), ?_⟩
  refine q_asgL (el_lst ea_nil (by decide)) fun G H1 hG x1 hG1 => ?_
  refine ⟨_, rfl, e, rfl, e1, by omega, fun lp Lp H2 x2 hlp hLp => ?_⟩
  obtain ⟨tsp, htsp, hpp⟩ := hLp
  have hG2 := x2 _ _ hG1
  have lp30 := len30 (fun z hz => ⟨(hlp.1 z hz).1.1, (hlp.1 z hz).2⟩) (by rw [hlp.2.2]; omega)
  refine ⟨Lp, rfl, ⟨tsp, sq_of htsp⟩, ?_⟩
  refine for_list (xs := tsp) (fun i σ' H' => Evl.Ex H H' ∧ Tx H2 H' ∧ H' Lp = some (.lst tsp) ∧ ∃ (num : Int) (l : List (Nat × Nat)) (o3 o4 o5 : Option V), σ' = [some (.int (e : Int)), some (.int num), some (.ref G), o3, o4, o5] ∧ PairsAt H' G l ∧ (∀ x ∈ l, 2 ≤ x.1 ∧ 1 ≤ x.2) ∧ prodOf l = prodOf (lp.take i) ∧ l.length ≤ i) ?_ ?_ ?_ ?_
  · exact ⟨x1.trans x2, fun _ _ q => q, htsp, num, [], none, none, none, rfl, ⟨[], hG2, .nil⟩, fun _ q => (nomatch q), rfl, Nat.le_refl _⟩
  · exact fun i σ' H' _ q => sq_of q.2.2.1
  · rintro i t σ' H' hi ⟨x, tx2, hLp', num, l, o3, o4, o5, rfl, ⟨ts, hts, hp⟩, hl, hprod, hlen⟩
    obtain ⟨y, hy, c, rfl, hc⟩ := paired_get hpp hi
    have hyl := List.mem_of_getElem? hy
    obtain ⟨py, y1⟩ := hlp.1 y hyl
    have y2 := py.1
    have hne : Lp ≠ G := ne_of htsp hG2 (by
      intro z
      cases z
      simp at hi)
    have il : i < lp.length := (List.getElem?_eq_some_iff.mp hy).1
    have hprod' : prodOf (lp.take (i + 1)) = prodOf l * y.1 ^ y.2 := by
      rw [take_more hy, prodOf_append, hprod]
      simp only [prodOf, Nat.mul_one]
    have hle : prodOf l * y.1 ^ y.2 ≤ e := by
      rw [← hprod']
      refine Nat.le_of_dvd (by omega) ?_
      rw [← hlp.2.2]
      exact prodOf_take_dvd lp (i + 1)
    have hym : y.2 < 2 ^ 20 := by
      have := hlp.many (by omega) hyl
      omega
    have hyq : y.1 < 2 ^ 20 := by
      have := Nat.le_of_dvd (by omega) (hlp.dvd hyl)
      omega
    have ypow : 1 ≤ y.1 ^ y.2 := Nat.pow_pos (by omega)
    refine ⟨c, _, rfl, st_of (tx2 _ _ hc), rfl, _, _, rfl, _, _, rfl, rfl, ?_⟩
    show tSeq _ _ _ _ _
    refine q_asg (ev_op (ev_var rfl) ev_c (rv_I ⟨by decide, by decide⟩)) fun H3 x3 => ?_
    refine s_if (et_and (et_test (ev_op (ev_len (ev_var rfl) (sq_of (x3 _ _ hts))) ev_c rv_I0)) fun _ => et_test (ev_op (ev_op (ev_var rfl) ev_c (rv_I (by decide))) ev_c (rv_eq rfl))) (fun hcc H4 x4 => ?_) (fun hcc H4 x4 => ?_)
    · have h0 : 0 < ts.length := by
        have := of_decide_eq_true ((Bool.and_eq_true _ _).mp hcc).1
        omega
      obtain ⟨ts0, t0, l0, b, rfl, rfl, hp0, c0, rfl, hc0⟩ := paired_last hp h0
      obtain ⟨b2, b1⟩ := hl b (List.mem_append_right _ List.mem_cons_self)
      have x34 := x3.trans x4
      have hG4 := x34 _ _ hts
      have pl : prodOf (l0 ++ [b]) = prodOf l0 * b.1 ^ b.2 := by
        rw [prodOf_append]
        simp only [prodOf, Nat.mul_one]
      have p0 : 1 ≤ prodOf l0 := by
        rcases Nat.eq_zero_or_pos (prodOf l0) with z | z
        · have := pow_len_le (l := l0) fun z hz => hl z (List.mem_append_left _ hz)
          have : 1 ≤ 2 ^ l0.length := Nat.pow_pos (by decide)
          omega
        · exact z
      have ple : prodOf (l0 ++ [b]) ≤ e := Nat.le_trans (Nat.le_mul_of_pos_right _ ypow) hle
      have bpow : b.1 ^ b.2 ≤ e := by
        rw [pl] at ple
        exact Nat.le_trans (Nat.le_mul_of_pos_left _ p0) ple
      have bm : b.2 < b.1 ^ b.2 := many_lt b2
      have bq : b.1 ≤ b.1 ^ b.2 := by
        obtain ⟨k, hk⟩ : ∃ k, b.2 = k + 1 := ⟨b.2 - 1, by omega⟩
        rw [hk, Nat.pow_succ]
        exact Nat.le_mul_of_pos_left _ (Nat.pow_pos (by omega))
      refine ⟨_, rfl, .inl ⟨rfl, _, sq_of hG4⟩, G, _, V.ref c0, rfl, rfl, hG4, by simp, ?_⟩
      rw [List.dropLast_concat]
      have t4 : Tx H4 (upd H4 G (.lst ts0)) := Tx.lst hG4
      have hc0' : (upd H4 G (.lst ts0)) c0 = _ := t4 _ _ (x34 _ _ hc0)
      have tk : ∀ (q m : Nat) Hx, q < 2 ^ 20 → m < 2 ^ 20 → SpV spLTaken ([V.int (q : Int), .int (m : Int)] ++ []) Hx (.int ((q ^ m : Nat) : Int)) := fun q m Hx h1 h2 => spv_ret fun H5 x5 Q E z => ⟨q, m, rfl, h1, h2, z⟩
      refine s_appU (K := K) (xs := ts0) upd_same (ev_var rfl) (eu_tup (ea_cons (ev_is (ev_op (ev_call (ea_cons (ev_op (ev_var rfl) ev_c (rv_ixT (K := K) (st_of hc0') at0)) (ea_cons (ev_op (ev_var rfl) ev_c (rv_ixT (K := K) (st_of hc0') at1)) ea_nil)) (tk b.1 b.2 _ (by omega) (by omega)))
        (ev_call (ea_cons (ev_var rfl) (ea_cons (ev_var rfl) ea_nil)) (tk y.1 y.2 _ hyq hym)) (rv_I (.inl ⟨by omega, by omega⟩))) (congrArg V.int (Int.natCast_mul _ _).symm)) (ea_cons ev_c ea_nil)) (by show 2 ≤ 100000; decide)) (by have := hp0.length; rw [List.length_append] at hlen; omega) fun p H5 hp5 x5 h5 => ?_
      have hG5 := x5 _ _ (show (upd H4 G (.lst ts0)) G = _ from upd_same)
      have hLp5 : H5 Lp = some (.lst tsp) := x5 _ _ (by rw [upd_ne hne]; exact x34 _ _ hLp')
      refine ⟨Ex.mut ((Ex.mut (x.trans x34) hG).trans x5) hG, ((tx2.trans (tx x34)).trans (t4.trans (tx x5))).trans (Tx.lst hG5), by rw [upd_ne hne]; exact hLp5, _, l0 ++ [(b.1 ^ b.2 * y.1 ^ y.2, 1)], _, _, _, rfl, PairsAt.snoc (x := (b.1 ^ b.2 * y.1 ^ y.2, 1)) hG5 (L2.Paired.mapP hp0 fun _ _ z => z.monoT ((tx x34).trans (t4.trans (tx x5)))) h5, ?_, ?_, ?_⟩
      · intro z hz
        rcases List.mem_append.mp hz with q | q
        · exact hl z (List.mem_append_left _ q)
        · rw [List.mem_singleton] at q
          rw [q]
          have : b.1 ^ b.2 * 1 ≤ b.1 ^ b.2 * y.1 ^ y.2 := Nat.mul_le_mul_left _ ypow
          exact ⟨by show 2 ≤ b.1 ^ b.2 * y.1 ^ y.2; omega, Nat.le_refl _⟩
      · rw [hprod', pl, prodOf_append]
        simp only [prodOf, Nat.mul_one, Nat.pow_one]
        ac_rfl
      · rw [List.length_append] at hlen ⊢
        show l0.length + 1 ≤ i + 1
        simp at hlen
        omega
    · have x34 := x3.trans x4
      refine s_appU (K := K) (x34 _ _ hts) (ev_var rfl) (eu_tup (ea_cons (ev_var rfl) (ea_cons (ev_var rfl) ea_nil)) (by show 2 ≤ 100000; decide)) (by have := hp.length; omega) fun p H5 hp5 x5 h5 => ?_
      have hG5 := (x34.trans x5) _ _ hts
      refine ⟨Ex.mut ((x.trans x34).trans x5) hG, (tx2.trans (tx (x34.trans x5))).trans (Tx.lst hG5), by rw [upd_ne hne]; exact (x34.trans x5) _ _ hLp', _, l ++ [y], _, _, _, rfl, PairsAt.snoc (x := y) hG5 (L2.Paired.mapP hp fun _ _ z => z.monoT (tx (x34.trans x5))) h5, ?_, ?_, ?_⟩
      · intro z hz
        rcases List.mem_append.mp hz with q | q
        · exact hl z q
        · rw [List.mem_singleton] at q
          rw [q]
          exact ⟨y2, y1⟩
      · rw [hprod', prodOf_append]
        simp only [prodOf, Nat.mul_one]
      · rw [List.length_append]
        show l.length + 1 ≤ i + 1
        omega
  · rintro σ' H' ⟨x, tx2, hLp', num, l, o3, o4, o5, rfl, ⟨ts, hts, hp⟩, hl, hprod, hlen⟩
    rw [List.take_of_length_le (by rw [hpp.length]; exact Nat.le_refl _), hlp.2.2] at hprod
    refine ⟨_, rfl, G, ts, rfl, sq_of hts, fun z hz => ?_, fun ys p hperm hpn => ?_⟩
    · obtain ⟨i, hi⟩ := List.getElem?_of_mem hz
      obtain ⟨y, _, c, rfl, hc⟩ := paired_get hp hi
      exact ⟨c, _, _, rfl, hc⟩
    · obtain ⟨l', hl', hp'⟩ := paired_perm hperm.symm hp
      have e2 : Evl.Ex H' (upd H' p (.lst ys)) := Evl.Ex.new hpn
      refine kk l' p _ (x.trans e2) (fun z hz => ?_) ?_ ⟨ys, upd_same, L2.Paired.mapP hp' fun _ _ q => q.monoT (tx e2)⟩
      · have hm := hl'.mem_iff.mp hz
        obtain ⟨z1, z2⟩ := hl z hm
        exact ⟨z1, z2, Nat.le_of_dvd (by omega) (hprod ▸ pow_dvd_prodOf hm)⟩
      · rw [hl'.length_eq]
        have := hpp.length
        omega
end
end K27
namespace K27
open PySem L2 Evl
/-! # claimed papers, the thing -/
theorem prm_by {p : Nat} (h2 : 2 ≤ p) (h : ∀ d, d ≤ p → d ∣ p → d = 1 ∨ d = p) : Prm p := ⟨h2, fun d hd => h d (Nat.le_of_dvd (by omega) hd) hd⟩
theorem prm2 : Prm 2 := prm_by (by decide) (by decide)
theorem prm3 : Prm 3 := prm_by (by decide) (by decide)
theorem prm5 : Prm 5 := prm_by (by decide) (by decide)
theorem prm7 : Prm 7 := prm_by (by decide) (by decide)
theorem prm11 : Prm 11 := prm_by (by decide) (by decide)
theorem five_of (z : Int) (h : 0 ≤ z) (h5 : z < 5) : ∃ p : Nat, Prm p ∧ p ≤ 11 ∧ atI [V.int 2, .int 3, .int 5, .int 7, .int 11] z = some (.int (p : Int)) := by
  have : z = 0 ∨ z = 1 ∨ z = 2 ∨ z = 3 ∨ z = 4 := by omega
  rcases this with rfl | rfl | rfl | rfl | rfl
  · exact ⟨2, prm2, by decide, at0⟩
  · exact ⟨3, prm3, by decide, at1⟩
  · exact ⟨5, prm5, by decide, at2⟩
  · exact ⟨7, prm7, by decide, atI_nat (j := 3) rfl⟩
  · exact ⟨11, prm11, by decide, atI_nat (j := 4) rfl⟩
/-- one prime, once: the number is it -/
theorem parting_one {q p m p2 : Nat} {r : List (Nat × Nat)} (h1 : IsParting q [(p, m)]) (h2 : IsParting q ((p2, 1) :: r)) : Prm q := by
  have pp := (h1.1 (p, m) List.mem_cons_self).1
  have all : ∀ x ∈ (p2, 1) :: r, x.1 = p := fun x hx => by
    have px := (h2.1 x hx).1
    have dx := h2.dvd hx
    rw [← h1.2.2] at dx
    obtain ⟨y, hy, e⟩ := prm_prodOf px dx
    rw [List.mem_singleton] at hy
    rw [hy] at e
    exact prm_dvd px pp e
  have e2 : p2 = p := all (p2, 1) List.mem_cons_self
  cases r with
  | nil =>
    have := h2.2.2
    simp only [prodOf, Nat.pow_one, Nat.mul_one] at this
    rw [← this, e2]
    exact pp
  | cons y r =>
    have e3 : y.1 = p := all y (by simp)
    have h3 := h2.2.1
    rw [List.pairwise_cons] at h3
    have := h3.1 y List.mem_cons_self
    simp only at this
    omega
section
variable {P : Program} {w : World} {K : PySem.W.Frag} {mg : Str → Option Value} {base : Heap}
theorem scLClaimed : FnScope ["_law_q", "_law_number"] ["_law_q", "_law_number"] (defScope sLClaimed) := ⟨rfl, rfl, rfl, by decide +kernel, rfl, by decide +kernel, by decide +kernel⟩
theorem ok_lclaimed {k : Nat} {f : Addr} {fd : FuncData} (F : Fun K "_law_claimed" "_law_claimed" sLClaimed f fd) (hk : 2 ≤ k) (ml : mg "len" = none) (DP : Knows P w K mg base "parted" ["n"] 2 spParted) (DPr : Knows P w K mg base "prime_paper" ["n"] k (spPrimePaper 19)) (DPt : Knows P w K mg base "parting_paper" ["n"] k (spPartingPaper 18)) :
    FnOk P w K mg base CX0 (k + 1) f fd ["_law_q", "_law_number"] spLClaimed := by
  refine F.ok scLClaimed (fun vs H Q E h => ?_) (fun cdv A outer s H vs Q E hr h => ?_)
  · obtain ⟨q, num, rfl, _⟩ := h
    rfl
  obtain ⟨q, num, rfl, q2, q20, kk⟩ := h
  have hr2 : Room 2 _ := hr.mono hk
  refine ⟨_, pss_cons (ps_if (PW.pt (pw_and (pt_cmpR op_eq (pe_callB call_len_seq (by rfl) ml PySem.boot_len (pa_cons (pe_k DP hr2 (pa_cons (pv 0) pa_nil)) pa_nil)) pe_int (nomark _))
        (pw_and1 (pt_cmpR op_eq (pe_ix ix_tup (pe_ix ix_list (pe_k DP hr2 (pa_cons (pv 0) pa_nil)) pe_int (fun _ _ => rfl)) pe_int (fun _ _ => rfl)) pe_int (nomark _)))))
      (pss_cons (ps_if (pt_cmpR op_eq (pe_op op_mod (pv 1) pe_int) pe_int (nomark _)) (pss_one (ps_ret (pe_k DPr hr (pa_cons (pe_ix ix_list (pe_lst (pa_cons pe_int (pa_cons pe_int (pa_cons pe_int (pa_cons pe_int (pa_cons pe_int pa_nil)))))) (pe_op op_mod (pe_op op_fdiv (pv 1) pe_int) pe_int) (fun _ _ => rfl)) pa_nil)))) pss_nil)
      (pss_one (ps_ret (pe_k DPr hr (pa_cons (pv 0) pa_nil))))) pss_nil)
    (pss_one (ps_ret (pe_tup (pa_cons (pv 0) (pa_cons (pe_op op_add pe_int (pe_op op_mod (pv 1) (pe_op op_sub (pv 0) pe_int))) (pa_cons (pe_k DPt hr (pa_cons (pe_op op_sub (pv 0) pe_int) pa_nil)) pa_nil)))))), ?_⟩
  refine q_whenP (P := fun b => b = true → Prm q) (fun Q' k' => ?_) (fun H1 e1 hq => ?_) (fun H1 e1 _ => ?_)
  · refine ⟨_, rfl, q, rfl, by omega, by omega, fun l1 L1 H1 e1 hl1 hL1 => ?_⟩
    obtain ⟨ts1, hts1, hp1⟩ := hL1
    refine ⟨L1, ts1, rfl, .inl (sq_of hts1), rfl, _, rfl, if2 (fun c1 => ?_) (fun c1 => ?_)⟩
    · have c1 := V.int.inj c1
      have len1 : l1.length = 1 := by
        have := hp1.length
        omega
      obtain ⟨⟨p, m⟩, rfl⟩ := List.length_eq_one_iff.mp len1
      refine ⟨_, rfl, q, rfl, by omega, by omega, fun l2 L2' H2 e2 hl2 hL2 => ?_⟩
      obtain ⟨ts2, hts2, hp2⟩ := hL2
      cases hp2 with
      | nil =>
        have := hl2.2.2
        simp only [prodOf] at this
        omega
      | @cons t y ts2 r hty hp2 =>
        obtain ⟨c, rfl, hc⟩ := hty
        refine ⟨L2', _, _, _, rfl, rfl, sq_of hts2, at0, c, _, _, _, rfl, rfl, st_of hc, at1, rfl, _, rfl, ?_⟩
        refine k' _ H2 (e1.trans e2) fun hd => ?_
        have hd := V.int.inj (of_decide_eq_true hd)
        have y1 : y.2 = 1 := by omega
        obtain ⟨y0, y2⟩ := y
        simp only at y1
        subst y1
        exact parting_one hl1 hl2
    · exact k' false H1 e1 fun hd => Bool.noConfusion hd
  · have hp := hq rfl
    have dq : Dep 19 q := by
      unfold Dep
      omega
    show tSeq _ _ _ _ _
    refine q_when (b := decide (V.int (num % 5) = V.int 0)) (et_test (ev_op (ev_op (ev_var rfl) ev_c (rv_I (by decide))) ev_c (rv_eq rfl))) (fun hc H2 e2 => ?_) (fun hc H2 e2 => ?_)
    · obtain ⟨p, pp, p11, hat⟩ := five_of (num / 5 % 5) (by omega) (by omega)
      refine s_retC (ea_cons (ev_opL1 (el_lst (ea_cons ev_c (ea_cons ev_c (ea_cons ev_c (ea_cons ev_c (ea_cons ev_c ea_nil))))) (by show 5 ≤ 100000; decide)) (fun _ _ => ev_op (ev_op (ev_var rfl) ev_c (rv_I ⟨by decide, by decide⟩)) ev_c (rv_I (by decide))) (fun _ _ hp _ => rv_ixL (K := K) (sq_of hp) hat)) ea_nil) fun H3 e3 => ?_
      exact ⟨p, rfl, pp, by unfold Dep; omega, by omega, fun v t H4 e4 _ _ h4 => kk v t H4 (((e1.trans e2).trans e3).trans e4) h4⟩
    · refine s_retC (ea_cons (ev_var rfl) ea_nil) fun H3 e3 => ?_
      exact ⟨q, rfl, hp, dq, by omega, fun v t H4 e4 _ _ h4 => kk v t H4 (((e1.trans e2).trans e3).trans e4) h4⟩
  · have m0 : (0 : Int) < (q : Int) - 1 := by omega
    have f0 := Int.emod_nonneg num (show (q : Int) - 1 ≠ 0 by omega)
    have f1 := Int.emod_lt_of_pos num m0
    have c1 : ((q : Int) - 1) = ((q - 1 : Nat) : Int) := by omega
    refine ⟨_, rfl, _, rfl, _, rfl, _, _, rfl, rfl, _, _, rfl, rfl, m0, _, _, rfl, rfl, _, rfl, _, _, rfl, rfl, q - 1, by show [V.int ((q : Int) - 1)] = _; rw [c1], by omega, by omega, by unfold Dep; omega, fun b ts ps H2 e2 _ _ hb hps => ?_⟩
    refine ⟨by show 3 ≤ sizeLine; decide, fun p hp => ?_⟩
    have ef : (1 : Int) + num % ((q : Int) - 1) = (((1 + num % ((q : Int) - 1)).toNat : Nat) : Int) := (Int.toNat_of_nonneg (by omega)).symm
    have e3 : Evl.Ex H2 (upd H2 p (.tup [.int (q : Int), .int (1 + num % ((q : Int) - 1)), .ref b])) := Evl.Ex.new hp
    refine kk (.ref p) (.mk q (1 + num % ((q : Int) - 1)).toNat ps) _ ((e1.trans e2).trans e3) ?_
    refine ⟨⟨q2, by omega, by omega, by omega⟩, p, b, ts, rfl, ?_, e3 _ _ hb, rows_monoT (tx e3) hps⟩
    rw [upd_same, ← ef]

theorem scLThing : FnScope ["_law_n", "_law_a", "_law_e", "_law_number", "_law_parts", "_law_q", "_law_many"] ["_law_n", "_law_a", "_law_e", "_law_number"] (defScope sLThing) := ⟨rfl, rfl, rfl, by decide +kernel, rfl, by decide +kernel, by decide +kernel⟩
theorem ok_lthing {k : Nat} {f : Addr} {fd : FuncData} (F : Fun K "_law_thing" "_law_thing" sLThing f fd) (hk : 3 ≤ k) (mt : mg "tuple" = none) (DG : Knows P w K mg base "_law_groups" ["_law_e", "_law_number"] 3 spLGroups) (DC : Knows P w K mg base "_law_claimed" ["_law_q", "_law_number"] k spLClaimed) (DPw : Knows P w K mg base "_law_power" ["_law_n", "_law_a", "_law_e"] 1 spLPower) :
    FnOk P w K mg base CX0 (k + 1) f fd ["_law_n", "_law_a", "_law_e", "_law_number"] spLThing := by
  refine F.ok scLThing (fun vs H Q E h => ?_) (fun cdv A outer s H vs Q E hr h => ?_)
  · obtain ⟨n, a, e, num, rfl, _⟩ := h
    rfl
  obtain ⟨n, a, e, num, rfl, n2, n30, ha, e1, e20, kk⟩ := h
  have hr3 : Room 3 _ := hr.mono hk
  have hr1 : Room 1 _ := hr.mono (by omega)
  refine ⟨_, pss_cons (ps_set (i := 4) scLThing.nd rfl (Or.inl rfl) (pe_lst pa_nil))
    (pss_cons (ps_for PassesOwn.never rfl (pi_list (pe_k DG hr3 (pa_cons (pv 2) (pa_cons (pv 3) pa_nil)))) (pg_tup rfl (pgs_cons (pg_name (i := 5) scLThing.nd rfl (Or.inl rfl)) (pgs_cons (pg_name (i := 6) scLThing.nd rfl (Or.inl rfl)) pgs_nil)))
      (pss_one (ps_expr (pe_bm PySem.F.plainAttrs_list PySem.F.slot_list_append PySem.F.type_list_append mt_append (pv 4) (pa_cons (pe_tup (pa_cons (pe_k DC hr (pa_cons (pv 5) (pa_cons (pe_op op_fdiv (pv 3) pe_int) pa_nil))) (pa_cons (pv 6) (pa_cons (pe_k DPw hr1 (pa_cons (pv 0) (pa_cons (pv 1) (pa_cons (pe_op op_fdiv (pv 2) (pv 5)) pa_nil)))) pa_nil)))) pa_nil)))))
    (pss_one (ps_ret (pe_tup (pa_cons (pv 2) (pa_cons (pe_callTy call_tuple_of (by rfl) mt (by decide +kernel) (pa_cons (pv 4) pa_nil)) pa_nil)))))), ?_⟩
  refine q_asgL (el_lst ea_nil (by decide)) fun L H1 hL x1 hL1 => ?_
  refine ⟨_, rfl, _, rfl, e, num, rfl, e1, by omega, fun l G H2 x2 hl hlen hG => ?_⟩
  obtain ⟨ts, hts, hp⟩ := hG
  have hL2 := x2 _ _ hL1
  refine ⟨G, rfl, ⟨ts, sq_of hts⟩, ?_⟩
  refine for_list (xs := ts) (fun i σ' H' => Evl.Ex H H' ∧ Tx H2 H' ∧ H' G = some (.lst ts) ∧ ∃ (us : List V) (qs : List (Paper × Nat × Nat)) (o5 o6 : Option V), σ' = [some (.int (n : Int)), some (.int a), some (.int (e : Int)), some (.int num), some (.ref L), o5, o6] ∧ H' L = some (.lst us) ∧ Paired (Row3At H' 19) us qs ∧ us.length = i) ?_ ?_ ?_ ?_
  · exact ⟨x1.trans x2, fun _ _ q => q, hts, [], [], none, none, rfl, hL2, .nil, rfl⟩
  · exact fun i σ' H' _ q => sq_of q.2.2.1
  · rintro i t σ' H' hi ⟨x, tx2, hG', us, qs, o5, o6, rfl, hus, hqs, hul⟩
    obtain ⟨y, hy, c, rfl, hc⟩ := paired_get hp hi
    obtain ⟨y2, y1, ye⟩ := hl y (List.mem_of_getElem? hy)
    have hne : G ≠ L := ne_of hts hL2 (by
      intro z
      cases z
      simp at hi)
    have il := (List.getElem?_eq_some_iff.mp hy).1
    have ym : y.2 < y.1 ^ y.2 := many_lt y2
    have yq : y.1 ≤ y.1 ^ y.2 := by
      obtain ⟨k, hk⟩ : ∃ k, y.2 = k + 1 := ⟨y.2 - 1, by omega⟩
      rw [hk, Nat.pow_succ]
      exact Nat.le_mul_of_pos_left _ (Nat.pow_pos (by omega))
    refine ⟨c, _, rfl, st_of (tx2 _ _ hc), rfl, _, _, rfl, _, _, rfl, rfl, ?_⟩
    refine ⟨_, rfl, .inl ⟨rfl, _, sq_of hus⟩, _, rfl, _, rfl, _, _, rfl, rfl, ⟨by decide, by decide⟩, y.1, num / 9, rfl, y2, by omega, fun v t H3 x3 hv => ?_⟩
    refine ⟨_, rfl, _, rfl, _, rfl, _, rfl, _, rfl, _, _, rfl, rfl, ⟨by omega, by omega⟩, n, a, e / y.1, by show [V.int (n : Int), .int a, .int ((e : Int) / (y.1 : Int))] = _; rw [cast_div], by omega, n30, ha, fun H4 x4 => ?_⟩
    refine ⟨by show 3 ≤ sizeLine; decide, fun p hpn => ?_⟩
    have x5 : Evl.Ex H4 (upd H4 p (.tup [v, .int (y.2 : Int), .int ((pw n a (e / y.1) : Nat) : Int)])) := Evl.Ex.new hpn
    have xx := (x3.trans x4).trans x5
    have hL5 := xx _ _ hus
    refine ⟨L, us, .ref p, rfl, rfl, hL5, small1m (by omega), ?_⟩
    have tl := Tx.lst (ys := us ++ [.ref p]) hL5
    refine ⟨Ex.mut (x.trans xx) hL, (tx2.trans (tx xx)).trans tl, by rw [upd_ne hne]; exact xx _ _ hG', us ++ [.ref p], qs ++ [(t, y.2, pw n a (e / y.1))], _, _, rfl, upd_same, ?_, ?_⟩
    · have mono3 : ∀ {Ha Hb : Hp}, Tx Ha Hb → ∀ t z, Row3At Ha 19 t z → Row3At Hb 19 t z := fun e t z h => by
        obtain ⟨h1, h2, c, u, h3, h4, h5⟩ := h
        exact ⟨h1, h2, c, u, h3, e _ _ h4, PaperAt.monoT e h5⟩
      refine Paired.snoc (L2.Paired.mapP hqs fun t z q => mono3 ((tx xx).trans tl) t z q) ⟨y1, by show y.2 < 2 ^ 20; omega, p, v, rfl, tl _ _ upd_same, PaperAt.monoT ((tx (x4.trans x5)).trans tl) hv⟩
    · rw [List.length_append, hul]
      rfl
  · rintro σ' H' ⟨x, tx2, hG', us, qs, o5, o6, rfl, hus, hqs, hul⟩
    refine ⟨_, rfl, _, rfl, L, us, rfl, .inl ⟨sq_of hus, fun b hb => ?_⟩⟩
    have x3 : Evl.Ex H' (upd H' b (.tup us)) := Evl.Ex.new hb
    refine ⟨by show 2 ≤ sizeLine; decide, fun p hpn => ?_⟩
    have x4 : Evl.Ex (upd H' b (.tup us)) (upd (upd H' b (.tup us)) p (.tup [.int (e : Int), .ref b])) := Evl.Ex.new hpn
    refine kk (.ref p) qs _ ((x.trans x3).trans x4) ⟨p, b, us, rfl, upd_same, x4 _ _ upd_same, L2.Paired.mapP hqs fun _ _ q => q.mono (x3.trans x4)⟩
end
end K27
namespace K27
open PySem L2 Evl
/-! # law -/
def spLaw (K : PySem.W.Frag) : Sp := fun vs H Q _ => ∃ (a : Addr) (ns : List Int), vs = [.ref a] ∧ SqL K H a (ns.map V.int) ∧ ns.length ≤ 63 ∧ ∀ H', Q (.bl true) H'
theorem menu4 (z : Int) (h : 0 ≤ z) (h5 : z < 4) : ∃ m : Nat, 1 ≤ m ∧ m ≤ 20000 ∧ atI [V.int 399, .int 399, .int 399, .int 20000] z = some (.int (m : Int)) := by
  have : z = 0 ∨ z = 1 ∨ z = 2 ∨ z = 3 := by omega
  rcases this with rfl | rfl | rfl | rfl
  · exact ⟨399, by decide, by decide, at0⟩
  · exact ⟨399, by decide, by decide, at1⟩
  · exact ⟨399, by decide, by decide, at2⟩
  · exact ⟨20000, by decide, by decide, atI_nat (j := 3) rfl⟩
theorem menu2 (n : Nat) (hn : 1 ≤ n) (hn2 : n < 2 ^ 30) (z : Int) (h : 0 ≤ z) (h5 : z < 2) : ∃ d : Int, 0 < d ∧ d ≤ 10 ^ 50 ∧ atI [V.int (n : Int), .int (10 ^ (50 : Int).toNat)] z = some (.int d) := by
  have : z = 0 ∨ z = 1 := by omega
  rcases this with rfl | rfl
  · exact ⟨n, by omega, by omega, at0⟩
  · exact ⟨10 ^ 50, by decide, by decide, at1⟩
/-- the product of a rest and a sign is small -/
theorem small_a {x d s : Int} (h0 : 0 < d) (h1 : d ≤ 10 ^ 50) (hs : s = 1 ∨ s = -1) : (x % d * s).natAbs < 2 ^ 200 := by
  have e0 := Int.emod_nonneg x (show d ≠ 0 by omega)
  have e1 := Int.emod_lt_of_pos x h0
  have h2 : x % d < 10 ^ 50 := by omega
  have h3 : (x % d).natAbs < 10 ^ 50 := by omega
  have h4 : (10 : Nat) ^ 50 < 2 ^ 200 := by decide
  rcases hs with rfl | rfl
  · rw [Int.mul_one]
    exact Nat.lt_trans h3 h4
  · rw [Int.mul_neg, Int.mul_one, Int.natAbs_neg]
    exact Nat.lt_trans h3 h4
/-- what is let by is the order that was told -/
theorem let_by {d n : Nat} {a : Int} {e o : Nat} {qs : List (Paper × Nat × Nat)} (hn : 2 ≤ n) (he : 1 ≤ e) (ho : o = 0 ∧ (∀ k, 1 ≤ k → k ≤ n → pw n a k ≠ 1) ∨ IsOrd n a o ∧ o ≤ n) (h : OrderOk d n a e qs) : e = o := by
  have h1 := order_sound hn he h
  rcases ho with ⟨rfl, z⟩ | ⟨z, _⟩
  · exact absurd h1.2.1 (z e he (h1.le hn))
  · exact h1.uniq z
/-- the made paper at the law's end -/
def six : Paper := .mk 6 5 [(.mk 5 2 [(.mk 2 1 [], 2)], 1)]
theorem not_six {d n : Nat} {a : Int} {e m r : Nat} : ¬ OrderOk d n a e [(six, m, r)] := fun h => by
  have h1 : Prm 6 := ok_prm (t := six) (h.1.1 (six, m) List.mem_cons_self).1
  rcases h1.2 2 (by decide) with z | z <;> omega

/-- what stood stands behind a new object -/
theorem nx {H : Hp} {p a : Addr} {o u : HO} (hp : H p = none) (h : H a = some u) : upd H p o a = some u := (upd_ne (ne_of_none h hp)).trans h
theorem six_at {H : Hp} {a0 a1 a2 a3 a4 a5 a6 a7 : Addr} (g0 : H a0 = some (.tup [])) (g1 : H a1 = some (.tup [.int 2, .int 1, .ref a0])) (g2 : H a2 = some (.tup [.ref a1, .int 2])) (g3 : H a3 = some (.tup [.ref a2]))
    (g4 : H a4 = some (.tup [.int 5, .int 2, .ref a3])) (g5 : H a5 = some (.tup [.ref a4, .int 1])) (g6 : H a6 = some (.tup [.ref a5])) (g7 : H a7 = some (.tup [.int 6, .int 5, .ref a6])) : PaperAt H 19 (.ref a7) six := by
  have t2 : PaperAt H 17 (.ref a1) (.mk 2 1 []) := ⟨by decide, a1, a0, [], rfl, g1, g0, .nil⟩
  have t5 : PaperAt H 18 (.ref a4) (.mk 5 2 [(.mk 2 1 [], 2)]) := ⟨by decide, a4, a3, [.ref a2], rfl, g4, g3, .cons ⟨by decide, by decide, a2, .ref a1, [], rfl, g2, rfl, t2⟩ .nil⟩
  exact ⟨by decide, a7, a6, [.ref a5], rfl, g7, g6, .cons ⟨by decide, by decide, a5, .ref a4, [], rfl, g5, rfl, t5⟩ .nil⟩
section
variable {σ : L2.St} {H : Hp} {D : Ends} {tz : TS} {ta : TA} {vs : List V}
theorem q_asgC {sp : Sp} {i : Nat} (h : EvA ta σ H vs) (k : ∀ H1, Evl.Ex H H1 → sp (vs ++ []) H1 (fun v H2 => tz D (σ.set i (some v)) H2) E0) : tSeq (tAsg (tCall sp [] E0 ta) (gName i)) tz D σ H := h H (Evl.Ex.refl H) _ fun H1 e => k H1 e
end
/-- (paper, many, power(n, a, least // paper[0])): n in slot 3, a 4, least 5, paper 10, many 11 -/
def tLawRow (K : PySem.W.Frag) : TE := tTup (tCons (tVar 10) (tCons (tVar 11) (tCons (tCall spLPower [] E0 (tCons (tVar 3) (tCons (tVar 4) (tCons (tOp (rI CDiv fun i j => .int (i / j)) (tVar 5) (tOp (rIxT K) (tVar 10) (tC (.int 0)))) tNil)))) tNil)))
section
variable {P : Program} {w : World} {K : PySem.W.Frag} {mg : Str → Option Value} {base : Heap}
theorem scLaw : FnScope ["_law_script", "_law_cell", "_law_row", "_law_n", "_law_a", "_law_least", "_law_e", "_law_thing_here", "_law_found", "_law_parts", "_law_paper", "_law_many"] ["_law_script"] (defScope sLaw) := ⟨rfl, rfl, rfl, by decide +kernel, rfl, by decide +kernel, by decide +kernel⟩
theorem ok_law {f : Addr} {fd : FuncData} (F : Fun K "law" "law" sLaw f fd) (mi : mg "isinstance" = none) (mb : mg "bool" = none) (mt : mg "tuple" = none)
    (DD : Knows P w K mg base "_law_draws" ["_law_cell", "_law_many"] 60 spDraws) (DO : Knows P w K mg base "_law_order" ["_law_n", "_law_a"] 60 spLOrder) (DT : Knows P w K mg base "_law_thing" ["_law_n", "_law_a", "_law_e", "_law_number"] 60 spLThing)
    (DI : Knows P w K mg base "is_order_paper" ["n", "a", "thing"] 60 (spIsOrder 19)) (DPt : Knows P w K mg base "parting_paper" ["n"] 60 (spPartingPaper 19)) (DPw : Knows P w K mg base "_law_power" ["_law_n", "_law_a", "_law_e"] 60 spLPower) :
    FnOk P w K mg base CX0 61 f fd ["_law_script"] (spLaw K) := by
  refine F.ok scLaw (fun vs H Q E h => ?_) (fun cdv A outer s H vs Q E hr h => ?_)
  · obtain ⟨a, ns, rfl, _⟩ := h
    rfl
  obtain ⟨A0, ns, rfl, hS, h63, kk⟩ := h
  refine ⟨_, pss_cons (ps_for PassesOwn.never rfl (pi_list (pe_slice sl_list (pv 0) po_none (po_some pe_int))) (pg_name (i := 1) scLaw.nd rfl (Or.inl rfl))
      (pss_cons (ps_set (i := 2) scLaw.nd rfl (Or.inl rfl) (pe_k DD hr (pa_cons (pv 1) (pa_cons pe_int pa_nil))))
      (pss_cons (ps_set (i := 3) scLaw.nd rfl (Or.inr rfl) (pe_op op_add pe_int (pe_op op_mod (pe_ix ix_list (pv 2) pe_int (fun _ _ => rfl)) (pe_ix ix_list (pe_lst (pa_cons pe_int (pa_cons pe_int (pa_cons pe_int (pa_cons pe_int pa_nil))))) (pe_op op_mod (pe_op op_fdiv (pe_ix ix_list (pv 2) pe_int (fun _ _ => rfl)) pe_int) pe_int) (fun _ _ => rfl)))))
      (pss_cons (ps_set (i := 4) scLaw.nd rfl (Or.inr rfl) (pe_op op_mul (pe_op op_mod (pe_ix ix_list (pv 2) pe_int (fun _ _ => rfl)) (pe_ix ix_list (pe_lst (pa_cons (pv 3) (pa_cons (pe_op op_pow pe_int pe_int) pa_nil))) (pe_op op_mod (pe_ix ix_list (pv 2) pe_int (fun _ _ => rfl)) pe_int) (fun _ _ => rfl)))
        (pe_op op_sub pe_int (pe_op op_mul pe_int (pe_op op_mod (pe_op op_fdiv (pe_ix ix_list (pv 2) pe_int (fun _ _ => rfl)) pe_int) pe_int)))))
      (pss_cons (ps_set (i := 5) scLaw.nd rfl (Or.inr rfl) (pe_k DO hr (pa_cons (pv 3) (pa_cons (pv 4) pa_nil))))
      (pss_cons (ps_for PassesOwn.never rfl (pi_list (pe_lst (pa_cons (pv 5) (pa_cons (pe_op op_mul pe_int (pv 5)) (pa_cons (pe_op op_mul pe_int (pv 5)) (pa_cons (pe_op op_fdiv (pv 5) pe_int) (pa_cons (pe_op op_fdiv (pv 5) pe_int) (pa_cons (pe_op op_mul pe_int (pv 5))
          (pa_cons (pe_op op_add pe_int (pe_op op_mod (pe_ix ix_list (pv 2) pe_int (fun _ _ => rfl)) pe_int)) (pa_cons (pe_op op_sub (pv 3) pe_int) pa_nil)))))))))) (pg_name (i := 6) scLaw.nd rfl (Or.inl rfl))
        (pss_one (ps_if (pt_cmpR op_gt (pv 6) pe_int (nomark _))
          (pss_cons (ps_set (i := 7) scLaw.nd rfl (Or.inl rfl) (pe_k DT hr (pa_cons (pv 3) (pa_cons (pv 4) (pa_cons (pv 6) (pa_cons (pe_op op_add (pe_op op_fdiv (pe_ix ix_list (pv 2) pe_int (fun _ _ => rfl)) pe_int) (pv 6)) pa_nil))))))
          (pss_cons (ps_set (i := 8) scLaw.nd rfl (Or.inl rfl) (pe_k DI hr (pa_cons (pv 3) (pa_cons (pv 4) (pa_cons (pv 7) pa_nil)))))
          (pss_one (ps_if (PW.pt (pw_or (pt_not (pt_val (pe_callB call_isi (by rfl) mi (by decide +kernel) (pa_cons (pv 8) (pa_cons (pe_bltn (v := .ty "bool") (by rfl) mb (by decide +kernel) rfl) pa_nil))))) (pw_or1 (PW.pt (pw_and (pt_val (pv 8)) (pw_and1 (pt_cmpR op_ne (pv 6) (pv 5) (nomark _))))))))
            (pss_one (ps_ret pe_bl)) pss_nil)))) pss_nil)))
      (pss_one (ps_if (pt_cmpR op_gt (pv 5) pe_int (nomark _))
        (pss_cons (ps_setLc (i := 9) (own := [("_law_paper", 10), ("_law_many", 11)]) (g := gTup K 2 (gCons (gName 10) (gCons (gName 11) gNil))) (te := tLawRow K) (by rfl) scLaw.nd rfl rfl (sw_true rfl rfl rfl (by decide +kernel)) (pi_tup (pe_k DPt hr (pa_cons (pv 5) pa_nil)))
          (blkOk_by (own := [("_law_paper", 10), ("_law_many", 11)]) (N := ["_law_script", "_law_cell", "_law_row", "_law_n", "_law_a", "_law_least", "_law_e", "_law_thing_here", "_law_found", "_law_parts", "_law_paper", "_law_many"]) (sc := defScope sLaw) (by decide +kernel))
          (fun _ _ _ _ _ => pg_tup rfl (pgs_cons (pg_name (i := 10) scLaw.nd rfl (Or.inl rfl)) (pgs_cons (pg_name (i := 11) scLaw.nd rfl (Or.inl rfl)) pgs_nil))) (fun _ _ _ _ _ => pts_nil)
          (fun _ _ _ _ _ => pe_tup (pa_cons (pv 10) (pa_cons (pv 11) (pa_cons (pe_k DPw hr (pa_cons (pv 3) (pa_cons (pv 4) (pa_cons (pe_op op_fdiv (pv 5) (pe_ix ix_tup (pv 10) pe_int (fun _ _ => rfl))) pa_nil)))) pa_nil)))))
        (pss_one (ps_if (pt_cmpR op_notBl (pe_k DI hr (pa_cons (pv 3) (pa_cons (pv 4) (pa_cons (pe_tup (pa_cons (pv 5) (pa_cons (pe_callTy call_tuple_of (by rfl) mt (by decide +kernel) (pa_cons (pv 9) pa_nil)) pa_nil))) pa_nil)))) pe_bl (nomark _))
          (pss_one (ps_ret pe_bl)) pss_nil))) pss_nil))))))))
    (pss_one (ps_ret (pe_cmpR op_isBl (pe_k DI hr (pa_cons pe_int (pa_cons pe_int (pa_cons (pe_tup (pa_cons pe_int (pa_cons (pe_tup (pa_cons (pe_tup (pa_cons (pe_tup (pa_cons pe_int (pa_cons pe_int (pa_cons (pe_tup (pa_cons (pe_tup (pa_cons (pe_tup (pa_cons pe_int (pa_cons pe_int (pa_cons (pe_tup (pa_cons (pe_tup (pa_cons (pe_tup (pa_cons pe_int (pa_cons pe_int (pa_cons (pe_tup pa_nil) pa_nil)))) (pa_cons pe_int pa_nil))) pa_nil)) pa_nil)))) (pa_cons pe_int pa_nil))) pa_nil)) pa_nil)))) (pa_cons pe_int (pa_cons pe_int pa_nil)))) pa_nil)) pa_nil))) pa_nil)))) pe_bl (nomark _)))), ?_⟩
  -- the loop over the script
  refine q_forNL (K := K) (el_sl (K := K) (ev_var rfl) eo_none (eo_some ev_c) hS) (fun L0 i σ' H' => Evl.Ex H H' ∧ H' L0 = some (.lst (cutV (ns.map V.int) none (some 6))) ∧ ∃ o1 o2 o3 o4 o5 o6 o7 o8 o9 o10 o11 : Option V, σ' = [some (.ref A0), o1, o2, o3, o4, o5, o6, o7, o8, o9, o10, o11]) ?_ ?_ ?_ ?_
  · exact fun L0 H1 _ e1 h1 => ⟨e1, h1, none, none, none, none, none, none, none, none, none, none, none, rfl⟩
  · exact fun L0 i σ' H' _ q => sq_of q.2.1
  · rintro L0 i x σ' H' hi ⟨x0, hL0, o1, o2, o3, o4, o5, o6, o7, o8, o9, o10, o11, rfl⟩
    obtain ⟨c, rfl⟩ : ∃ c, x = V.int c := by
      have hm : x ∈ ns.map V.int := List.mem_of_mem_drop (List.mem_of_mem_take (List.mem_of_getElem? hi))
      obtain ⟨c, _, hc⟩ := List.mem_map.mp hm
      exact ⟨c, hc.symm⟩
    show tSeq _ _ _ _ _
    refine q_asgC (ea_cons (ev_var rfl) (ea_cons ev_c ea_nil)) fun H1 e1 => ?_
    refine ⟨c, rfl, fun R r0 r1 r2 r3 H2 e2 hR => ?_⟩
    have row : ∀ {σ : L2.St} {H' : Hp} (i : Int) (v : Int), Evl.Ex H2 H' → σ[2]? = some (some (V.ref R)) → atI [V.int r0, .int r1, .int r2, .int r3] i = some (.int v) → Ev (tOp (rIxL K) (tVar 2) (tC (.int i))) σ H' (.int v) := fun i v e hs ha => ev_op (ev_var hs) ev_c (rv_ixL (K := K) (sq_of (e _ _ hR)) ha)
    obtain ⟨m, m1, m2, hm⟩ := menu4 (r1 / 1024 % 4) (by omega) (by omega)
    have m0 : (0 : Int) < (m : Int) := by omega
    obtain ⟨n, hn⟩ : ∃ n : Nat, 2 + r0 % (m : Int) = (n : Int) := ⟨(2 + r0 % (m : Int)).toNat, (Int.toNat_of_nonneg (by have := Int.emod_nonneg r0 (show (m : Int) ≠ 0 by omega); omega)).symm⟩
    have n2 : 2 ≤ n := by
      have := Int.emod_nonneg r0 (show (m : Int) ≠ 0 by omega)
      omega
    have n20 : n ≤ 20001 := by
      have := Int.emod_lt_of_pos r0 m0
      omega
    refine q_asg (v := .int (n : Int)) (ev_is (ev_op ev_c (ev_op (row 0 r0 (Evl.Ex.refl _) rfl at0) (ev_opL1 (el_lst (ea_cons ev_c (ea_cons ev_c (ea_cons ev_c (ea_cons ev_c ea_nil)))) (by show 4 ≤ 100000; decide)) (fun _ y => ev_op (ev_op (row 1 r1 y rfl at1) ev_c (rv_I ⟨by decide, by decide⟩)) ev_c (rv_I (by decide))) (fun _ _ hp _ => rv_ixL (K := K) (sq_of hp) hm)) (rv_I m0)) rv_I0) (congrArg V.int hn)) fun H3 e3 => ?_
    have c50 : CPow 10 50 := ⟨by decide, by decide, by decide⟩
    obtain ⟨d, d0, d50, hd⟩ := menu2 n (by omega) (by omega) (r1 % 2) (by omega) (by omega)
    obtain ⟨a, ha⟩ : ∃ a, r2 % d * (1 - 2 * (r1 / 2 % 2)) = a := ⟨_, rfl⟩
    have a200 : a.natAbs < 2 ^ 200 := by
      rw [← ha]
      exact small_a d0 d50 (by omega)
    refine q_asg (v := .int a) (ev_is (ev_op (ev_op (row 2 r2 e3 rfl at2) (ev_opL1 (el_lst (ea_cons (ev_var rfl) (ea_cons (ev_op ev_c ev_c (rv_I c50)) ea_nil)) (by show 2 ≤ 100000; decide)) (fun _ y => ev_op (row 1 r1 (e3.trans y) rfl at1) ev_c (rv_I (by decide))) (fun _ _ hp _ => rv_ixL (K := K) (sq_of hp) hd)) (rv_I d0))
      (ev_op ev_c (ev_op ev_c (ev_op (ev_op (row 1 r1 e3 rfl at1) ev_c (rv_I ⟨by decide, by decide⟩)) ev_c (rv_I (by decide))) (rv_I (.inl ⟨by decide, by decide⟩))) rv_I0) (rv_I (.inr ⟨by omega, by omega⟩))) (congrArg V.int ha)) fun H4 e4 => ?_
    refine q_asgC (ea_cons (ev_var rfl) (ea_cons (ev_var rfl) ea_nil)) fun H5 e5 => ?_
    refine ⟨n, a, rfl, n2, by omega, a200, fun o H6 e6 ho => ?_⟩
    have o20 : o ≤ 20001 := by
      rcases ho with ⟨z, _⟩ | ⟨_, z⟩ <;> omega
    have e26 : Evl.Ex H2 H6 := ((e3.trans e4).trans e5).trans e6
    have xx : Evl.Ex H H6 := ((x0.trans e1).trans e2).trans e26
    have hL6 : H6 L0 = _ := ((e1.trans e2).trans e26) _ _ hL0
    -- the claimed orders
    obtain ⟨es, hes, hle⟩ : ∃ es : List Nat, (es.map fun e : Nat => V.int (e : Int)) = [.int (o : Int), .int (2 * (o : Int)), .int (3 * (o : Int)), .int ((o : Int) / 2), .int ((o : Int) / 3), .int (6 * (o : Int)), .int (1 + r3 % 600), .int ((n : Int) - 1)] ∧ ∀ e ∈ es, e ≤ 120100 := by
      refine ⟨[o, 2 * o, 3 * o, o / 2, o / 3, 6 * o, (1 + r3 % 600).toNat, n - 1], ?_, ?_⟩
      · have e1 : (((1 + r3 % 600).toNat : Nat) : Int) = 1 + r3 % 600 := by omega
        have e2 : ((n - 1 : Nat) : Int) = (n : Int) - 1 := by omega
        simp only [List.map_cons, List.map_nil]
        rw [e1, e2]
        rfl
      · intro e he
        simp only [List.mem_cons, List.not_mem_nil, or_false] at he
        rcases he with z | z | z | z | z | z | z | z <;> omega
    refine q_forNL (K := K) (xs := es.map fun e : Nat => V.int (e : Int)) (by
      rw [hes]
      exact el_lst (ea_cons (ev_var rfl) (ea_cons (ev_op ev_c (ev_var rfl) (rv_I (.inl ⟨by decide, by decide⟩))) (ea_cons (ev_op ev_c (ev_var rfl) (rv_I (.inl ⟨by decide, by decide⟩))) (ea_cons (ev_op (ev_var rfl) ev_c (rv_I ⟨by decide, by decide⟩)) (ea_cons (ev_op (ev_var rfl) ev_c (rv_I ⟨by decide, by decide⟩)) (ea_cons (ev_op ev_c (ev_var rfl) (rv_I (.inl ⟨by decide, by decide⟩)))
        (ea_cons (ev_op ev_c (ev_op (row 3 r3 e26 rfl (atI_nat (j := 3) rfl)) ev_c (rv_I (by decide))) rv_I0) (ea_cons (ev_op (ev_var rfl) ev_c rv_I0) ea_nil)))))))) (by show 8 ≤ 100000; decide))
      (fun L1 i σ' H' => Evl.Ex H6 H' ∧ H' L1 = some (.lst (es.map fun e : Nat => V.int (e : Int))) ∧ ∃ o6 o7 o8 : Option V, σ' = [some (.ref A0), some (.int c), some (.ref R), some (.int (n : Int)), some (.int a), some (.int (o : Int)), o6, o7, o8, o9, o10, o11]) ?_ ?_ ?_ ?_
    · exact fun L1 H7 _ e7 h7 => ⟨e7, h7, o6, o7, o8, rfl⟩
    · exact fun L1 i σ' H' _ q => sq_of q.2.1
    · rintro L1 j x σ' H7 hj ⟨x7, hL1, o6, o7, o8, rfl⟩
      obtain ⟨e, he, rfl⟩ : ∃ e : Nat, e ≤ 120100 ∧ x = V.int (e : Int) := by
        obtain ⟨e, he, hx⟩ := List.mem_map.mp (List.mem_of_getElem? hj)
        exact ⟨e, hle e he, hx.symm⟩
      show tIfS _ _ _ _ _ _
      refine s_when (b := decide (0 < e)) (et_is (et_test (ev_op (ev_var rfl) ev_c rv_I0)) (decide_eq_decide.mpr (by omega))) (fun hc H8 e8 => ?_) (fun hc H8 e8 => ?_)
      · have hc := of_decide_eq_true hc
        refine q_asgC (ea_cons (ev_var rfl) (ea_cons (ev_var rfl) (ea_cons (ev_var rfl) (ea_cons (ev_op (ev_op (row 1 r1 ((e26.trans x7).trans e8) rfl at1) ev_c (rv_I ⟨by decide, by decide⟩)) (ev_var rfl) rv_I0) ea_nil)))) fun H9 e9 => ?_
        refine ⟨n, a, e, _, rfl, n2, by omega, a200, by omega, he, fun v qs H10 e10 hO => ?_⟩
        refine q_asg (v := .bl (yes (OrderOk 19 n a e qs))) (ev_call (ea_cons (ev_var rfl) (ea_cons (ev_var rfl) (ea_cons (ev_var rfl) ea_nil))) (spv_ret fun H11 e11 Q E q => ⟨v, n, a, e, qs, rfl, ?_, ⟨n2, by omega⟩, ⟨by omega, by omega⟩, q⟩)) fun H11 e11 => ?_
        · obtain ⟨aa, bb, ts, h1, h2, h3, h4⟩ := hO
          exact ⟨aa, bb, ts, h1, e11 _ _ h2, e11 _ _ h3, L2.Paired.mapP h4 fun _ _ q => q.mono e11⟩
        refine s_when (b := false) (et_is (et_or (et_not (et_B (ev_cb (ea_cons (ev_var rfl) (ea_cons ev_c ea_nil)) (rc_isBl (b := true) (by decide +kernel))))) fun _ => et_and (et_B (ev_var rfl)) fun _ => et_test (ev_op (ev_var rfl) (ev_var rfl) (rv_ne rfl))) ?_) (fun hc => Bool.noConfusion hc) (fun _ H12 e12 => ?_)
        · rw [dec_int (c := e = o) (by omega), Bool.not_true, Bool.false_or]
          cases z : yes (OrderOk 19 n a e qs) with
          | false => rfl
          | true =>
            rw [decide_eq_true (let_by n2 (by omega) ho (of_yes z))]
            rfl
        · have e7 := (((e8.trans e9).trans e10).trans e11).trans e12
          exact ⟨x7.trans e7, e7 _ _ hL1, _, _, _, rfl⟩
      · exact ⟨x7.trans e8, e8 _ _ hL1, _, _, _, rfl⟩
    · rintro L1 σ' H7 ⟨x7, hL1, o6, o7, o8, rfl⟩
      show tIfS _ _ _ _ _ _
      refine s_when (b := decide (0 < o)) (et_is (et_test (ev_op (ev_var rfl) ev_c rv_I0)) (decide_eq_decide.mpr (by omega))) (fun hc H8 e8 => ?_) (fun hc H8 e8 => ?_)
      · have hc := of_decide_eq_true hc
        have hO : IsOrd n a o := by
          rcases ho with ⟨z, _⟩ | ⟨z, _⟩
          · omega
          · exact z
        refine ⟨_, rfl, o, rfl, hc, by omega, by unfold Dep; omega, fun b ts ps H9 e9 hRows hprod hb hps => ?_⟩
        refine ⟨b, rfl, ⟨ts, st_of hb⟩, fun Dl hD => ?_⟩
        have plen : ps.length < 30 := by
          have := len30 (l := flat ps) (fun z hz => by
            obtain ⟨z', hz', rfl⟩ := List.mem_map.mp hz
            exact ⟨(ok_prm (hRows.1 z' hz').1).1, (hRows.1 z' hz').2⟩) (by rw [hprod]; omega)
          rw [flat, List.length_map] at this
          exact this
        refine lc_tup (xs := ts) (fun i H' => Evl.Ex H9 H' ∧ ∃ us : List V, H' Dl = some (.lst us) ∧ Paired (Row3At H' 19) us ((ps.take i).map fun x => (x.1, x.2, pw n a (o / x.1.p)))) ?_ ?_ ?_ ?_
        · exact ⟨Evl.Ex.new hD, [], upd_same, .nil⟩
        · exact fun i H' _ q => st_of (q.1 _ _ hb)
        · rintro i t H10 hi ⟨x10, us, hus, hpu⟩
          obtain ⟨y, hy, hq⟩ := paired_get hps hi
          have il := (List.getElem?_eq_some_iff.mp hy).1
          obtain ⟨y1, y20, c', u, r', rfl, hc', hlen, hu⟩ := hq
          have hr' : r' = [] := List.eq_nil_of_length_eq_zero (by omega)
          subst hr'
          obtain ⟨p2, p20, ua, ur, rfl, hua⟩ := hu.root
          have hpa : Evl.Ex H9 H10 := x10
          refine ⟨c', _, rfl, st_of (x10 _ _ hc'), rfl, _, _, rfl, _, _, rfl, rfl, rfl, ?_⟩
          refine lc_yes ?_
          refine ⟨_, rfl, _, rfl, _, rfl, _, rfl, _, rfl, _, rfl, ua, _, _, _, rfl, rfl, st_of (x10 _ _ hua), at0, _, _, rfl, rfl, ⟨by omega, by omega⟩, n, a, o / y.1.p, by show [V.int (n : Int), .int a, .int ((o : Int) / (y.1.p : Int))] = _; rw [cast_div], by omega, by omega, a200, fun H11 e11 => ?_⟩
          refine ⟨by show 3 ≤ sizeLine; decide, fun q hq => ?_⟩
          have e12 : Evl.Ex H11 (upd H11 q (.tup [.ref ua, .int (y.2 : Int), .int ((pw n a (o / y.1.p) : Nat) : Int)])) := Evl.Ex.new hq
          have hus2 := e12 _ _ (e11 _ _ hus)
          have tl := Tx.lst (ys := us ++ [.ref q]) hus2
          have tall := (tx (e11.trans e12)).trans tl
          have mono3 : ∀ {Ha Hb : Hp}, Tx Ha Hb → ∀ t z, Row3At Ha 19 t z → Row3At Hb 19 t z := fun e t z h => by
            obtain ⟨h1, h2, c, u, h3, h4, h5⟩ := h
            exact ⟨h1, h2, c, u, h3, e _ _ h4, PaperAt.monoT e h5⟩
          refine ⟨us, hus2, small1m ?_, Ex.mut ((x10.trans e11).trans e12) hD, us ++ [.ref q], upd_same, ?_⟩
          · have := hpu.length
            rw [List.length_map, List.length_take] at this
            omega
          · rw [take_more hy, List.map_append]
            refine Paired.snoc (L2.Paired.mapP hpu fun t z h => mono3 tall t z h) ⟨y1, y20, q, .ref ua, rfl, tl _ _ upd_same, PaperAt.monoT ((tx x10).trans tall) hu⟩
        · rintro H10 ⟨x10, us, hus, hpu⟩
          rw [List.take_of_length_le (by rw [hps.length]; exact Nat.le_refl _)] at hpu
          refine ⟨_, rfl, _, rfl, _, rfl, _, rfl, Dl, us, rfl, .inl ⟨sq_of hus, fun b2 hb2 => ?_⟩⟩
          have e11 : Evl.Ex H10 (upd H10 b2 (.tup us)) := Evl.Ex.new hb2
          refine ⟨by show 2 ≤ sizeLine; decide, fun q hq => ?_⟩
          have e12 : Evl.Ex (upd H10 b2 (.tup us)) (upd (upd H10 b2 (.tup us)) q (.tup [.int (o : Int), .ref b2])) := Evl.Ex.new hq
          refine ⟨.ref q, n, a, o, _, rfl, ⟨q, b2, us, rfl, upd_same, e12 _ _ upd_same, L2.Paired.mapP hpu fun _ _ z => z.mono (e11.trans e12)⟩, ⟨n2, by omega⟩, ⟨hc, by omega⟩, fun H11 e13 => ?_⟩
          have hyes : yes (OrderOk 19 n a o (ps.map fun x => (x.1, x.2, pw n a (o / x.1.p)))) = true := yes_true (order_right hO hRows hprod)
          rw [hyes]
          have eall := (((e8.trans e9).trans x10).trans e11).trans (e12.trans e13)
          refine ⟨true, true, rfl, rfl, _, rfl, ?_⟩
          refine iteF ?_
          exact ⟨xx.trans (x7.trans eall), (x7.trans eall) _ _ hL6, _, _, _, _, _, _, _, _, _, _, _, rfl⟩
      · exact ⟨xx.trans (x7.trans e8), (x7.trans e8) _ _ hL6, _, _, _, _, _, _, _, _, _, _, _, rfl⟩
  · rintro L0 σ' H' ⟨x0, hL0, o1, o2, o3, o4, o5, o6, o7, o8, o9, o10, o11, rfl⟩
    -- the made paper
    refine ⟨by show 0 ≤ sizeLine; decide, fun a0 h0 => ?_⟩
    refine ⟨by show 3 ≤ sizeLine; decide, fun a1 h1 => ?_⟩
    refine ⟨by show 2 ≤ sizeLine; decide, fun a2 h2 => ?_⟩
    refine ⟨by show 1 ≤ sizeLine; decide, fun a3 h3 => ?_⟩
    refine ⟨by show 3 ≤ sizeLine; decide, fun a4 h4 => ?_⟩
    refine ⟨by show 2 ≤ sizeLine; decide, fun a5 h5 => ?_⟩
    refine ⟨by show 1 ≤ sizeLine; decide, fun a6 h6 => ?_⟩
    refine ⟨by show 3 ≤ sizeLine; decide, fun a7 h7 => ?_⟩
    refine ⟨by show 3 ≤ sizeLine; decide, fun a8 h8 => ?_⟩
    refine ⟨by show 1 ≤ sizeLine; decide, fun a9 h9 => ?_⟩
    refine ⟨by show 2 ≤ sizeLine; decide, fun a10 h10 => ?_⟩
    refine ⟨.ref a10, 7, 2, 6, [(six, 1, 2)], rfl, ⟨a10, a9, [.ref a8], rfl, upd_same, nx h10 upd_same, .cons ⟨by decide, by decide, a8, .ref a7, rfl, nx h10 (nx h9 upd_same), ?_⟩ .nil⟩, ⟨by decide, by decide⟩, ⟨by decide, by decide⟩, fun HF eF => ?_⟩
    · exact six_at (nx h10 (nx h9 (nx h8 (nx h7 (nx h6 (nx h5 (nx h4 (nx h3 (nx h2 (nx h1 upd_same)))))))))) (nx h10 (nx h9 (nx h8 (nx h7 (nx h6 (nx h5 (nx h4 (nx h3 (nx h2 upd_same))))))))) (nx h10 (nx h9 (nx h8 (nx h7 (nx h6 (nx h5 (nx h4 (nx h3 upd_same))))))))
        (nx h10 (nx h9 (nx h8 (nx h7 (nx h6 (nx h5 (nx h4 upd_same))))))) (nx h10 (nx h9 (nx h8 (nx h7 (nx h6 (nx h5 upd_same)))))) (nx h10 (nx h9 (nx h8 (nx h7 (nx h6 upd_same))))) (nx h10 (nx h9 (nx h8 (nx h7 upd_same)))) (nx h10 (nx h9 (nx h8 upd_same)))
    · rw [yes_false not_six]
      exact ⟨false, false, rfl, rfl, kk HF⟩
end
end K27
namespace K27
open PySem L2 Evl
/-! # The program's top -/
theorem at_mk {K : PySem.W.Frag} {h : Heap} {mg : Str → Option Value} {x : Str} {st : Stmt} {ps : List Str} {f : Addr} {od an : Option Addr} {sl : Array (Option Value)} {oc kV dc pm cd ct : Value} (X : K.In h) (G : h.Ns mainGlobals mg)
    (hb : ∀ (kV doc pm : Value) (an : Option Addr) (cdv ct : Value) (us : List Value), us.length = ps.length → bindArgs (PySem.W.fnOf x x (defArgs st) (defBody st) (defScope st) .none kV doc pm an cdv ct) ⟨us, []⟩ = pure (ps.zip us))
    (a : PySem.W.nsIn K mainGlobals x = some (some (.ref f))) (l : K.lookup f = some ⟨oc, od, .func (PySem.W.fnOf x x (defArgs st) (defBody st) (defScope st) .none kV dc pm an cd ct), sl⟩) (c : PySem.W.codeIn K cd x = true) (k : PySem.W.keepIn K (.ref f) = true) : ∃ f fd, At K mg x st ps f fd := by
  have F := fun_mk (st := st) l c k
  exact ⟨f, _, F, F.binds (ps := ps) hb, PySem.W.mg_of X G a⟩
theorem b_power : ∀ (kV doc pm : Value) (an : Option Addr) (cdv ct : Value) (us : List Value), us.length = (["n", "a", "e"] : List Str).length → bindArgs (PySem.W.fnOf "power" "power" (defArgs sPower) (defBody sPower) (defScope sPower) .none kV doc pm an cdv ct) ⟨us, []⟩ = pure ((["n", "a", "e"] : List Str).zip us) :=
  fun _ _ _ _ _ _ us hl => match us, hl with | [_, _, _], _ => rfl
theorem b_is_whole : ∀ (kV doc pm : Value) (an : Option Addr) (cdv ct : Value) (us : List Value), us.length = (["thing", "least"] : List Str).length → bindArgs (PySem.W.fnOf "is_whole" "is_whole" (defArgs sIsWhole) (defBody sIsWhole) (defScope sIsWhole) .none kV doc pm an cdv ct) ⟨us, []⟩ = pure ((["thing", "least"] : List Str).zip us) :=
  fun _ _ _ _ _ _ us hl => match us, hl with | [_, _], _ => rfl
theorem b_is_row_of : ∀ (kV doc pm : Value) (an : Option Addr) (cdv ct : Value) (us : List Value), us.length = (["thing", "many"] : List Str).length → bindArgs (PySem.W.fnOf "is_row_of" "is_row_of" (defArgs sIsRowOf) (defBody sIsRowOf) (defScope sIsRowOf) .none kV doc pm an cdv ct) ⟨us, []⟩ = pure ((["thing", "many"] : List Str).zip us) :=
  fun _ _ _ _ _ _ us hl => match us, hl with | [_, _], _ => rfl
theorem b_are_papers : ∀ (kV doc pm : Value) (an : Option Addr) (cdv ct : Value) (us : List Value), us.length = (["things", "many"] : List Str).length → bindArgs (PySem.W.fnOf "are_papers" "are_papers" (defArgs sArePapers) (defBody sArePapers) (defScope sArePapers) .none kV doc pm an cdv ct) ⟨us, []⟩ = pure ((["things", "many"] : List Str).zip us) :=
  fun _ _ _ _ _ _ us hl => match us, hl with | [_, _], _ => rfl
theorem b_comes_to : ∀ (kV doc pm : Value) (an : Option Addr) (cdv ct : Value) (us : List Value), us.length = (["things", "n"] : List Str).length → bindArgs (PySem.W.fnOf "comes_to" "comes_to" (defArgs sComesTo) (defBody sComesTo) (defScope sComesTo) .none kV doc pm an cdv ct) ⟨us, []⟩ = pure ((["things", "n"] : List Str).zip us) :=
  fun _ _ _ _ _ _ us hl => match us, hl with | [_, _], _ => rfl
theorem b_is_parting_paper : ∀ (kV doc pm : Value) (an : Option Addr) (cdv ct : Value) (us : List Value), us.length = (["n", "thing"] : List Str).length → bindArgs (PySem.W.fnOf "is_parting_paper" "is_parting_paper" (defArgs sIsParting) (defBody sIsParting) (defScope sIsParting) .none kV doc pm an cdv ct) ⟨us, []⟩ = pure ((["n", "thing"] : List Str).zip us) :=
  fun _ _ _ _ _ _ us hl => match us, hl with | [_, _], _ => rfl
theorem b_is_prime_paper : ∀ (kV doc pm : Value) (an : Option Addr) (cdv ct : Value) (us : List Value), us.length = (["thing"] : List Str).length → bindArgs (PySem.W.fnOf "is_prime_paper" "is_prime_paper" (defArgs sIsPrime) (defBody sIsPrime) (defScope sIsPrime) .none kV doc pm an cdv ct) ⟨us, []⟩ = pure ((["thing"] : List Str).zip us) :=
  fun _ _ _ _ _ _ us hl => match us, hl with | [_], _ => rfl
theorem b_is_order_paper : ∀ (kV doc pm : Value) (an : Option Addr) (cdv ct : Value) (us : List Value), us.length = (["n", "a", "thing"] : List Str).length → bindArgs (PySem.W.fnOf "is_order_paper" "is_order_paper" (defArgs sIsOrder) (defBody sIsOrder) (defScope sIsOrder) .none kV doc pm an cdv ct) ⟨us, []⟩ = pure ((["n", "a", "thing"] : List Str).zip us) :=
  fun _ _ _ _ _ _ us hl => match us, hl with | [_, _, _], _ => rfl
theorem b_look_at : ∀ (kV doc pm : Value) (an : Option Addr) (cdv ct : Value) (us : List Value), us.length = (["n", "least"] : List Str).length → bindArgs (PySem.W.fnOf "look_at" "look_at" (defArgs sLookAt) (defBody sLookAt) (defScope sLookAt) .none kV doc pm an cdv ct) ⟨us, []⟩ = pure ((["n", "least"] : List Str).zip us) :=
  fun _ _ _ _ _ _ us hl => match us, hl with | [_, _], _ => rfl
theorem b_divisor_from : ∀ (kV doc pm : Value) (an : Option Addr) (cdv ct : Value) (us : List Value), us.length = (["n", "d"] : List Str).length → bindArgs (PySem.W.fnOf "divisor_from" "divisor_from" (defArgs sDivisorFrom) (defBody sDivisorFrom) (defScope sDivisorFrom) .none kV doc pm an cdv ct) ⟨us, []⟩ = pure ((["n", "d"] : List Str).zip us) :=
  fun _ _ _ _ _ _ us hl => match us, hl with | [_, _], _ => rfl
theorem b_least_divisor : ∀ (kV doc pm : Value) (an : Option Addr) (cdv ct : Value) (us : List Value), us.length = (["n"] : List Str).length → bindArgs (PySem.W.fnOf "least_divisor" "least_divisor" (defArgs sLeastDivisor) (defBody sLeastDivisor) (defScope sLeastDivisor) .none kV doc pm an cdv ct) ⟨us, []⟩ = pure ((["n"] : List Str).zip us) :=
  fun _ _ _ _ _ _ us hl => match us, hl with | [_], _ => rfl
theorem b_parted : ∀ (kV doc pm : Value) (an : Option Addr) (cdv ct : Value) (us : List Value), us.length = (["n"] : List Str).length → bindArgs (PySem.W.fnOf "parted" "parted" (defArgs sParted) (defBody sParted) (defScope sParted) .none kV doc pm an cdv ct) ⟨us, []⟩ = pure ((["n"] : List Str).zip us) :=
  fun _ _ _ _ _ _ us hl => match us, hl with | [_], _ => rfl
theorem b_has_full_order : ∀ (kV doc pm : Value) (an : Option Addr) (cdv ct : Value) (us : List Value), us.length = (["p", "a", "parting"] : List Str).length → bindArgs (PySem.W.fnOf "has_full_order" "has_full_order" (defArgs sHasFull) (defBody sHasFull) (defScope sHasFull) .none kV doc pm an cdv ct) ⟨us, []⟩ = pure ((["p", "a", "parting"] : List Str).zip us) :=
  fun _ _ _ _ _ _ us hl => match us, hl with | [_, _, _], _ => rfl
theorem b_least_full : ∀ (kV doc pm : Value) (an : Option Addr) (cdv ct : Value) (us : List Value), us.length = (["p", "parting"] : List Str).length → bindArgs (PySem.W.fnOf "least_full" "least_full" (defArgs sLeastFull) (defBody sLeastFull) (defScope sLeastFull) .none kV doc pm an cdv ct) ⟨us, []⟩ = pure ((["p", "parting"] : List Str).zip us) :=
  fun _ _ _ _ _ _ us hl => match us, hl with | [_, _], _ => rfl
theorem b_paper_of : ∀ (kV doc pm : Value) (an : Option Addr) (cdv ct : Value) (us : List Value), us.length = (["p"] : List Str).length → bindArgs (PySem.W.fnOf "paper_of" "paper_of" (defArgs sPaperOf) (defBody sPaperOf) (defScope sPaperOf) .none kV doc pm an cdv ct) ⟨us, []⟩ = pure ((["p"] : List Str).zip us) :=
  fun _ _ _ _ _ _ us hl => match us, hl with | [_], _ => rfl
theorem b_papers_by : ∀ (kV doc pm : Value) (an : Option Addr) (cdv ct : Value) (us : List Value), us.length = (["parting"] : List Str).length → bindArgs (PySem.W.fnOf "papers_by" "papers_by" (defArgs sPapersBy) (defBody sPapersBy) (defScope sPapersBy) .none kV doc pm an cdv ct) ⟨us, []⟩ = pure ((["parting"] : List Str).zip us) :=
  fun _ _ _ _ _ _ us hl => match us, hl with | [_], _ => rfl
theorem b_prime_paper : ∀ (kV doc pm : Value) (an : Option Addr) (cdv ct : Value) (us : List Value), us.length = (["n"] : List Str).length → bindArgs (PySem.W.fnOf "prime_paper" "prime_paper" (defArgs sPrimePaper) (defBody sPrimePaper) (defScope sPrimePaper) .none kV doc pm an cdv ct) ⟨us, []⟩ = pure ((["n"] : List Str).zip us) :=
  fun _ _ _ _ _ _ us hl => match us, hl with | [_], _ => rfl
theorem b_parting_paper : ∀ (kV doc pm : Value) (an : Option Addr) (cdv ct : Value) (us : List Value), us.length = (["n"] : List Str).length → bindArgs (PySem.W.fnOf "parting_paper" "parting_paper" (defArgs sPartingPaper) (defBody sPartingPaper) (defScope sPartingPaper) .none kV doc pm an cdv ct) ⟨us, []⟩ = pure ((["n"] : List Str).zip us) :=
  fun _ _ _ _ _ _ us hl => match us, hl with | [_], _ => rfl
theorem b_law_draws : ∀ (kV doc pm : Value) (an : Option Addr) (cdv ct : Value) (us : List Value), us.length = (["_law_cell", "_law_many"] : List Str).length → bindArgs (PySem.W.fnOf "_law_draws" "_law_draws" (defArgs sDraws) (defBody sDraws) (defScope sDraws) .none kV doc pm an cdv ct) ⟨us, []⟩ = pure ((["_law_cell", "_law_many"] : List Str).zip us) :=
  fun _ _ _ _ _ _ us hl => match us, hl with | [_, _], _ => rfl
theorem b_law_power : ∀ (kV doc pm : Value) (an : Option Addr) (cdv ct : Value) (us : List Value), us.length = (["_law_n", "_law_a", "_law_e"] : List Str).length → bindArgs (PySem.W.fnOf "_law_power" "_law_power" (defArgs sLPower) (defBody sLPower) (defScope sLPower) .none kV doc pm an cdv ct) ⟨us, []⟩ = pure ((["_law_n", "_law_a", "_law_e"] : List Str).zip us) :=
  fun _ _ _ _ _ _ us hl => match us, hl with | [_, _, _], _ => rfl
theorem b_law_order : ∀ (kV doc pm : Value) (an : Option Addr) (cdv ct : Value) (us : List Value), us.length = (["_law_n", "_law_a"] : List Str).length → bindArgs (PySem.W.fnOf "_law_order" "_law_order" (defArgs sLOrder) (defBody sLOrder) (defScope sLOrder) .none kV doc pm an cdv ct) ⟨us, []⟩ = pure ((["_law_n", "_law_a"] : List Str).zip us) :=
  fun _ _ _ _ _ _ us hl => match us, hl with | [_, _], _ => rfl
theorem b_law_taken : ∀ (kV doc pm : Value) (an : Option Addr) (cdv ct : Value) (us : List Value), us.length = (["_law_q", "_law_many"] : List Str).length → bindArgs (PySem.W.fnOf "_law_taken" "_law_taken" (defArgs sLTaken) (defBody sLTaken) (defScope sLTaken) .none kV doc pm an cdv ct) ⟨us, []⟩ = pure ((["_law_q", "_law_many"] : List Str).zip us) :=
  fun _ _ _ _ _ _ us hl => match us, hl with | [_, _], _ => rfl
theorem b_law_groups : ∀ (kV doc pm : Value) (an : Option Addr) (cdv ct : Value) (us : List Value), us.length = (["_law_e", "_law_number"] : List Str).length → bindArgs (PySem.W.fnOf "_law_groups" "_law_groups" (defArgs sLGroups) (defBody sLGroups) (defScope sLGroups) .none kV doc pm an cdv ct) ⟨us, []⟩ = pure ((["_law_e", "_law_number"] : List Str).zip us) :=
  fun _ _ _ _ _ _ us hl => match us, hl with | [_, _], _ => rfl
theorem b_law_claimed : ∀ (kV doc pm : Value) (an : Option Addr) (cdv ct : Value) (us : List Value), us.length = (["_law_q", "_law_number"] : List Str).length → bindArgs (PySem.W.fnOf "_law_claimed" "_law_claimed" (defArgs sLClaimed) (defBody sLClaimed) (defScope sLClaimed) .none kV doc pm an cdv ct) ⟨us, []⟩ = pure ((["_law_q", "_law_number"] : List Str).zip us) :=
  fun _ _ _ _ _ _ us hl => match us, hl with | [_, _], _ => rfl
theorem b_law_thing : ∀ (kV doc pm : Value) (an : Option Addr) (cdv ct : Value) (us : List Value), us.length = (["_law_n", "_law_a", "_law_e", "_law_number"] : List Str).length → bindArgs (PySem.W.fnOf "_law_thing" "_law_thing" (defArgs sLThing) (defBody sLThing) (defScope sLThing) .none kV doc pm an cdv ct) ⟨us, []⟩ = pure ((["_law_n", "_law_a", "_law_e", "_law_number"] : List Str).zip us) :=
  fun _ _ _ _ _ _ us hl => match us, hl with | [_, _, _, _], _ => rfl
structure Top (K : PySem.W.Frag) (mg : Str → Option Value) : Prop where
  dpower : ∃ f fd, At K mg "power" sPower ["n", "a", "e"] f fd
  dis_whole : ∃ f fd, At K mg "is_whole" sIsWhole ["thing", "least"] f fd
  dis_row_of : ∃ f fd, At K mg "is_row_of" sIsRowOf ["thing", "many"] f fd
  dare_papers : ∃ f fd, At K mg "are_papers" sArePapers ["things", "many"] f fd
  dcomes_to : ∃ f fd, At K mg "comes_to" sComesTo ["things", "n"] f fd
  dis_parting_paper : ∃ f fd, At K mg "is_parting_paper" sIsParting ["n", "thing"] f fd
  dis_prime_paper : ∃ f fd, At K mg "is_prime_paper" sIsPrime ["thing"] f fd
  dis_order_paper : ∃ f fd, At K mg "is_order_paper" sIsOrder ["n", "a", "thing"] f fd
  dlook_at : ∃ f fd, At K mg "look_at" sLookAt ["n", "least"] f fd
  ddivisor_from : ∃ f fd, At K mg "divisor_from" sDivisorFrom ["n", "d"] f fd
  dleast_divisor : ∃ f fd, At K mg "least_divisor" sLeastDivisor ["n"] f fd
  dparted : ∃ f fd, At K mg "parted" sParted ["n"] f fd
  dhas_full_order : ∃ f fd, At K mg "has_full_order" sHasFull ["p", "a", "parting"] f fd
  dleast_full : ∃ f fd, At K mg "least_full" sLeastFull ["p", "parting"] f fd
  dpaper_of : ∃ f fd, At K mg "paper_of" sPaperOf ["p"] f fd
  dpapers_by : ∃ f fd, At K mg "papers_by" sPapersBy ["parting"] f fd
  dprime_paper : ∃ f fd, At K mg "prime_paper" sPrimePaper ["n"] f fd
  dparting_paper : ∃ f fd, At K mg "parting_paper" sPartingPaper ["n"] f fd
  dlaw_draws : ∃ f fd, At K mg "_law_draws" sDraws ["_law_cell", "_law_many"] f fd
  dlaw_power : ∃ f fd, At K mg "_law_power" sLPower ["_law_n", "_law_a", "_law_e"] f fd
  dlaw_order : ∃ f fd, At K mg "_law_order" sLOrder ["_law_n", "_law_a"] f fd
  dlaw_taken : ∃ f fd, At K mg "_law_taken" sLTaken ["_law_q", "_law_many"] f fd
  dlaw_groups : ∃ f fd, At K mg "_law_groups" sLGroups ["_law_e", "_law_number"] f fd
  dlaw_claimed : ∃ f fd, At K mg "_law_claimed" sLClaimed ["_law_q", "_law_number"] f fd
  dlaw_thing : ∃ f fd, At K mg "_law_thing" sLThing ["_law_n", "_law_a", "_law_e", "_law_number"] f fd
  zisinstance : mg "isinstance" = none
  zint : mg "int" = none
  zbool : mg "bool" = none
  ztuple : mg "tuple" = none
  zlen : mg "len" = none
  zany : mg "any" = none
  zrange : mg "range" = none
  zabs : mg "abs" = none
  zsorted : mg "sorted" = none
  most : ∃ tk : Tok, mg "MOST_PARTED" = some (.int 1000000000 tk)
section
variable {P : Program} {w : World} {K : PySem.W.Frag} {mg : Str → Option Value} {base : Heap}
theorem Top.law (T : Top K mg) {f : Addr} {fd : FuncData} (F : Fun K "law" "law" sLaw f fd) : FnOk P w K mg base CX0 61 f fd ["_law_script"] (spLaw K) := by
  obtain ⟨f_power, fd_power, A_power⟩ := T.dpower
  obtain ⟨f_is_whole, fd_is_whole, A_is_whole⟩ := T.dis_whole
  obtain ⟨f_is_row_of, fd_is_row_of, A_is_row_of⟩ := T.dis_row_of
  obtain ⟨f_are_papers, fd_are_papers, A_are_papers⟩ := T.dare_papers
  obtain ⟨f_comes_to, fd_comes_to, A_comes_to⟩ := T.dcomes_to
  obtain ⟨f_is_parting_paper, fd_is_parting_paper, A_is_parting_paper⟩ := T.dis_parting_paper
  obtain ⟨f_is_prime_paper, fd_is_prime_paper, A_is_prime_paper⟩ := T.dis_prime_paper
  obtain ⟨f_is_order_paper, fd_is_order_paper, A_is_order_paper⟩ := T.dis_order_paper
  obtain ⟨f_look_at, fd_look_at, A_look_at⟩ := T.dlook_at
  obtain ⟨f_divisor_from, fd_divisor_from, A_divisor_from⟩ := T.ddivisor_from
  obtain ⟨f_least_divisor, fd_least_divisor, A_least_divisor⟩ := T.dleast_divisor
  obtain ⟨f_parted, fd_parted, A_parted⟩ := T.dparted
  obtain ⟨f_has_full_order, fd_has_full_order, A_has_full_order⟩ := T.dhas_full_order
  obtain ⟨f_least_full, fd_least_full, A_least_full⟩ := T.dleast_full
  obtain ⟨f_paper_of, fd_paper_of, A_paper_of⟩ := T.dpaper_of
  obtain ⟨f_papers_by, fd_papers_by, A_papers_by⟩ := T.dpapers_by
  obtain ⟨f_prime_paper, fd_prime_paper, A_prime_paper⟩ := T.dprime_paper
  obtain ⟨f_parting_paper, fd_parting_paper, A_parting_paper⟩ := T.dparting_paper
  obtain ⟨f_law_draws, fd_law_draws, A_law_draws⟩ := T.dlaw_draws
  obtain ⟨f_law_power, fd_law_power, A_law_power⟩ := T.dlaw_power
  obtain ⟨f_law_order, fd_law_order, A_law_order⟩ := T.dlaw_order
  obtain ⟨f_law_taken, fd_law_taken, A_law_taken⟩ := T.dlaw_taken
  obtain ⟨f_law_groups, fd_law_groups, A_law_groups⟩ := T.dlaw_groups
  obtain ⟨f_law_claimed, fd_law_claimed, A_law_claimed⟩ := T.dlaw_claimed
  obtain ⟨f_law_thing, fd_law_thing, A_law_thing⟩ := T.dlaw_thing
  obtain ⟨tk, mm⟩ := T.most
  have Kpower : Knows P w K mg base "power" ["n", "a", "e"] 1 spPower := A_power.knows (ok_power A_power.F)
  have Kwhole : Knows P w K mg base "is_whole" ["thing", "least"] 1 spIsWhole := A_is_whole.knows (ok_isWhole A_is_whole.F T.zisinstance T.zint T.zbool)
  have Krow : Knows P w K mg base "is_row_of" ["thing", "many"] 1 spIsRow := A_is_row_of.knows (ok_isRow A_is_row_of.F T.zisinstance T.ztuple T.zlen)
  have Kcomes : Knows P w K mg base "comes_to" ["things", "n"] 1 spComesTo := A_comes_to.knows (ok_comes A_comes_to.F T.zrange)
  have R : Readers P w K mg base := ⟨Krow, Kwhole, Kpower, Kcomes, T.dare_papers, T.dis_parting_paper, T.dis_prime_paper, T.zisinstance, T.ztuple, T.zany⟩
  have Korder : Knows P w K mg base "is_order_paper" ["n", "a", "thing"] 60 (spIsOrder 19) := A_is_order_paper.knows (ok_isOrder A_is_order_paper.F (by decide) Krow Kwhole Kpower Kcomes (R.are_all 19))
  have Klook : Knows P w K mg base "look_at" ["n", "least"] 1 spLookAt := A_look_at.knows (ok_look A_look_at.F mm)
  have Kdiv : Knows P w K mg base "divisor_from" ["n", "d"] 1 spDivisorFrom := A_divisor_from.knows (ok_div A_divisor_from.F T.zint)
  have Kleast : Knows P w K mg base "least_divisor" ["n"] 2 spLeast := A_least_divisor.knows (ok_least A_least_divisor.F Klook Kdiv)
  have Kparted : Knows P w K mg base "parted" ["n"] 2 spParted := A_parted.knows (ok_parted A_parted.F Klook Kdiv)
  have Khas : Knows P w K mg base "has_full_order" ["p", "a", "parting"] 2 spHasFull := A_has_full_order.knows (ok_has A_has_full_order.F Kpower)
  have Kfull : Knows P w K mg base "least_full" ["p", "parting"] 3 spLeastFull := A_least_full.knows (ok_leastFull A_least_full.F Khas)
  have TT : Tellers P w K mg base := ⟨Kparted, Kfull, Kleast, T.dpaper_of, T.dpapers_by, T.ztuple⟩
  have Kprime : Knows P w K mg base "prime_paper" ["n"] 42 (spPrimePaper 19) := A_prime_paper.knows (ok_primePaper A_prime_paper.F (by decide) Kleast (TT.paper_all 19))
  have Kpart18 : Knows P w K mg base "parting_paper" ["n"] 41 (spPartingPaper 18) := A_parting_paper.knows (ok_partingPaper A_parting_paper.F (by decide) Kparted (TT.papers_all 18))
  have Kpart19 : Knows P w K mg base "parting_paper" ["n"] 43 (spPartingPaper 19) := A_parting_paper.knows (ok_partingPaper A_parting_paper.F (by decide) Kparted (TT.papers_all 19))
  have Kdraws : Knows P w K mg base "_law_draws" ["_law_cell", "_law_many"] 1 spDraws := A_law_draws.knows (ok_draws A_law_draws.F T.zrange T.zabs)
  have Klpower : Knows P w K mg base "_law_power" ["_law_n", "_law_a", "_law_e"] 1 spLPower := A_law_power.knows (ok_lpower A_law_power.F)
  have Klorder : Knows P w K mg base "_law_order" ["_law_n", "_law_a"] 1 spLOrder := A_law_order.knows (ok_lorder A_law_order.F T.zrange)
  have Ktaken : Knows P w K mg base "_law_taken" ["_law_q", "_law_many"] 1 spLTaken := A_law_taken.knows (ok_ltaken A_law_taken.F T.zrange)
  have Kgroups : Knows P w K mg base "_law_groups" ["_law_e", "_law_number"] 3 spLGroups := A_law_groups.knows (ok_lgroups A_law_groups.F T.zlen T.zsorted Kparted Ktaken)
  have Kclaimed : Knows P w K mg base "_law_claimed" ["_law_q", "_law_number"] 43 spLClaimed := A_law_claimed.knows (ok_lclaimed A_law_claimed.F (by decide) T.zlen Kparted Kprime (Kpart18.mono (by decide)))
  have Kthing : Knows P w K mg base "_law_thing" ["_law_n", "_law_a", "_law_e", "_law_number"] 44 spLThing := A_law_thing.knows (ok_lthing A_law_thing.F (by decide) T.ztuple Kgroups Kclaimed Klpower)
  exact ok_law F T.zisinstance T.zbool T.ztuple (Kdraws.mono (by decide)) (Klorder.mono (by decide)) (Kthing.mono (by decide)) Korder (Kpart19.mono (by decide)) (Klpower.mono (by decide))
end
theorem law_mk {l : PySem.W.OpenLaw} {w : World} {K : PySem.W.Frag} {h : Heap} {mg : Str → Option Value} {fa f : Addr} {od an : Option Addr} {sl : Array (Option Value)} {oc kV dc pm cd ct : Value} (X : K.In h) (G : h.Ns mainGlobals mg) (hfa : mg "law" = some (.ref fa)) (T : Top K mg)
    (a : PySem.W.nsIn K mainGlobals "law" = some (some (.ref f))) (l1 : K.lookup f = some ⟨oc, od, .func (PySem.W.fnOf "law" "law" (defArgs sLaw) (defBody sLaw) (defScope sLaw) .none kV dc pm an cd ct), sl⟩) (c : PySem.W.codeIn K cd "law" = true) (k : PySem.W.keepIn K (.ref f) = true) :
    ∃ fd : FuncData, (∀ (s : Shared) (v : Value), BindsTo s fd ⟨[v], []⟩ [("_law_script", v)]) ∧ ∀ base : Heap, K.In base → base.Ns mainGlobals mg → FnOk l.prog w K mg base CX0 61 fa fd ["_law_script"] (spLaw K) := by
  have e := hfa.symm.trans (PySem.W.mg_of X G a)
  cases e
  exact ⟨PySem.W.fnOf "law" "law" (defArgs sLaw) (defBody sLaw) (defScope sLaw) .none kV dc pm an cd ct, fun s v => .of_eq rfl, fun base _ _ => T.law (fun_mk (st := sLaw) l1 c k)⟩
theorem walk {l : PySem.W.OpenLaw} {q : Program} {loose : List Str} {XP : (Str → Option Value) → Heap → Prop} {YP : World → Heap → Prop} {d : DefRec} {K : Params → PySem.W.Frag} (hn : l.most = some 63) (hdf : d.params.defaults = [])
    (hY : ∀ (w : World) (h : Heap), YP w h → (K w.params).In h)
    (F : ∀ (w : World) (mg : Str → Option Value) (fa : Addr) (h : Heap), (K w.params).In h → h.Ns mainGlobals mg → mg d.name = some (.ref fa) →
      ∃ fd : FuncData, (∀ (s : Shared) (u : Value), BindsTo s fd ⟨[u], []⟩ [("_law_script", u)]) ∧ ∀ base : Heap, (K w.params).In base → base.Ns mainGlobals mg → FnOk l.prog w (K w.params) mg base CX0 61 fa fd ["_law_script"] (spLaw (K w.params))) :
    PySem.W.WalkO q loose XP YP l.row.toRowW d [] (fun f vs => PySem.call f vs) :=
  L2.walk_of (n := 63) (k := 61) (x := "_law_script") (CX := fun _ => CX0) (sp := fun w => spLaw (K w.params)) hn (by decide) hdf ⟨rfl, by decide, by decide⟩ hY F (fun _ _ a ns hl _ hS => ⟨a, ns, rfl, hS, hl, fun _ => rfl⟩) fun _ _ _ _ _ z => z
end K27
open PySem PySem.W PyProof.Rows
set_option maxRecDepth 100000 in
set_option maxHeartbeats 0 in
theorem PySem.Challenge.cw_rootprime_k27_whole_order_papers_are_lea_holds : PySem.Challenge.rw_rootprime_k27_whole_order_papers_are_lea.Holds := by
  w_on; o_law; k_head; (case hw => w_witness2)
  k_fill
  refine K27.walk (l := PySem.Challenge.rw_rootprime_k27_whole_order_papers_are_lea) rfl rfl (fun w h Y => PySem.W.kIn_of Y) ?F
  case F =>
    intro w mg fa h KX G hmg
    have A_power := by
      refine' K27.at_mk (x := "power") (st := K27.sPower) (ps := ["n", "a", "e"]) KX G K27.b_power ?a ?l ?c ?k
      (case a => k_is); (case l => k_is); (case c => k_is); (case k => k_is)
    have A_is_whole := by
      refine' K27.at_mk (x := "is_whole") (st := K27.sIsWhole) (ps := ["thing", "least"]) KX G K27.b_is_whole ?a ?l ?c ?k
      (case a => k_is); (case l => k_is); (case c => k_is); (case k => k_is)
    have A_is_row_of := by
      refine' K27.at_mk (x := "is_row_of") (st := K27.sIsRowOf) (ps := ["thing", "many"]) KX G K27.b_is_row_of ?a ?l ?c ?k
      (case a => k_is); (case l => k_is); (case c => k_is); (case k => k_is)
    have A_are_papers := by
      refine' K27.at_mk (x := "are_papers") (st := K27.sArePapers) (ps := ["things", "many"]) KX G K27.b_are_papers ?a ?l ?c ?k
      (case a => k_is); (case l => k_is); (case c => k_is); (case k => k_is)
    have A_comes_to := by
      refine' K27.at_mk (x := "comes_to") (st := K27.sComesTo) (ps := ["things", "n"]) KX G K27.b_comes_to ?a ?l ?c ?k
      (case a => k_is); (case l => k_is); (case c => k_is); (case k => k_is)
    have A_is_parting_paper := by
      refine' K27.at_mk (x := "is_parting_paper") (st := K27.sIsParting) (ps := ["n", "thing"]) KX G K27.b_is_parting_paper ?a ?l ?c ?k
      (case a => k_is); (case l => k_is); (case c => k_is); (case k => k_is)
    have A_is_prime_paper := by
      refine' K27.at_mk (x := "is_prime_paper") (st := K27.sIsPrime) (ps := ["thing"]) KX G K27.b_is_prime_paper ?a ?l ?c ?k
      (case a => k_is); (case l => k_is); (case c => k_is); (case k => k_is)
    have A_is_order_paper := by
      refine' K27.at_mk (x := "is_order_paper") (st := K27.sIsOrder) (ps := ["n", "a", "thing"]) KX G K27.b_is_order_paper ?a ?l ?c ?k
      (case a => k_is); (case l => k_is); (case c => k_is); (case k => k_is)
    have A_look_at := by
      refine' K27.at_mk (x := "look_at") (st := K27.sLookAt) (ps := ["n", "least"]) KX G K27.b_look_at ?a ?l ?c ?k
      (case a => k_is); (case l => k_is); (case c => k_is); (case k => k_is)
    have A_divisor_from := by
      refine' K27.at_mk (x := "divisor_from") (st := K27.sDivisorFrom) (ps := ["n", "d"]) KX G K27.b_divisor_from ?a ?l ?c ?k
      (case a => k_is); (case l => k_is); (case c => k_is); (case k => k_is)
    have A_least_divisor := by
      refine' K27.at_mk (x := "least_divisor") (st := K27.sLeastDivisor) (ps := ["n"]) KX G K27.b_least_divisor ?a ?l ?c ?k
      (case a => k_is); (case l => k_is); (case c => k_is); (case k => k_is)
    have A_parted := by
      refine' K27.at_mk (x := "parted") (st := K27.sParted) (ps := ["n"]) KX G K27.b_parted ?a ?l ?c ?k
      (case a => k_is); (case l => k_is); (case c => k_is); (case k => k_is)
    have A_has_full_order := by
      refine' K27.at_mk (x := "has_full_order") (st := K27.sHasFull) (ps := ["p", "a", "parting"]) KX G K27.b_has_full_order ?a ?l ?c ?k
      (case a => k_is); (case l => k_is); (case c => k_is); (case k => k_is)
    have A_least_full := by
      refine' K27.at_mk (x := "least_full") (st := K27.sLeastFull) (ps := ["p", "parting"]) KX G K27.b_least_full ?a ?l ?c ?k
      (case a => k_is); (case l => k_is); (case c => k_is); (case k => k_is)
    have A_paper_of := by
      refine' K27.at_mk (x := "paper_of") (st := K27.sPaperOf) (ps := ["p"]) KX G K27.b_paper_of ?a ?l ?c ?k
      (case a => k_is); (case l => k_is); (case c => k_is); (case k => k_is)
    have A_papers_by := by
      refine' K27.at_mk (x := "papers_by") (st := K27.sPapersBy) (ps := ["parting"]) KX G K27.b_papers_by ?a ?l ?c ?k
      (case a => k_is); (case l => k_is); (case c => k_is); (case k => k_is)
    have A_prime_paper := by
      refine' K27.at_mk (x := "prime_paper") (st := K27.sPrimePaper) (ps := ["n"]) KX G K27.b_prime_paper ?a ?l ?c ?k
      (case a => k_is); (case l => k_is); (case c => k_is); (case k => k_is)
    have A_parting_paper := by
      refine' K27.at_mk (x := "parting_paper") (st := K27.sPartingPaper) (ps := ["n"]) KX G K27.b_parting_paper ?a ?l ?c ?k
      (case a => k_is); (case l => k_is); (case c => k_is); (case k => k_is)
    have A_law_draws := by
      refine' K27.at_mk (x := "_law_draws") (st := K27.sDraws) (ps := ["_law_cell", "_law_many"]) KX G K27.b_law_draws ?a ?l ?c ?k
      (case a => k_is); (case l => k_is); (case c => k_is); (case k => k_is)
    have A_law_power := by
      refine' K27.at_mk (x := "_law_power") (st := K27.sLPower) (ps := ["_law_n", "_law_a", "_law_e"]) KX G K27.b_law_power ?a ?l ?c ?k
      (case a => k_is); (case l => k_is); (case c => k_is); (case k => k_is)
    have A_law_order := by
      refine' K27.at_mk (x := "_law_order") (st := K27.sLOrder) (ps := ["_law_n", "_law_a"]) KX G K27.b_law_order ?a ?l ?c ?k
      (case a => k_is); (case l => k_is); (case c => k_is); (case k => k_is)
    have A_law_taken := by
      refine' K27.at_mk (x := "_law_taken") (st := K27.sLTaken) (ps := ["_law_q", "_law_many"]) KX G K27.b_law_taken ?a ?l ?c ?k
      (case a => k_is); (case l => k_is); (case c => k_is); (case k => k_is)
    have A_law_groups := by
      refine' K27.at_mk (x := "_law_groups") (st := K27.sLGroups) (ps := ["_law_e", "_law_number"]) KX G K27.b_law_groups ?a ?l ?c ?k
      (case a => k_is); (case l => k_is); (case c => k_is); (case k => k_is)
    have A_law_claimed := by
      refine' K27.at_mk (x := "_law_claimed") (st := K27.sLClaimed) (ps := ["_law_q", "_law_number"]) KX G K27.b_law_claimed ?a ?l ?c ?k
      (case a => k_is); (case l => k_is); (case c => k_is); (case k => k_is)
    have A_law_thing := by
      refine' K27.at_mk (x := "_law_thing") (st := K27.sLThing) (ps := ["_law_n", "_law_a", "_law_e", "_law_number"]) KX G K27.b_law_thing ?a ?l ?c ?k
      (case a => k_is); (case l => k_is); (case c => k_is); (case k => k_is)
    have Z_isinstance : mg "isinstance" = none := by
      refine' PySem.W.mg_none_of KX G ?z
      (case z => k_is)
    have Z_int : mg "int" = none := by
      refine' PySem.W.mg_none_of KX G ?z
      (case z => k_is)
    have Z_bool : mg "bool" = none := by
      refine' PySem.W.mg_none_of KX G ?z
      (case z => k_is)
    have Z_tuple : mg "tuple" = none := by
      refine' PySem.W.mg_none_of KX G ?z
      (case z => k_is)
    have Z_len : mg "len" = none := by
      refine' PySem.W.mg_none_of KX G ?z
      (case z => k_is)
    have Z_any : mg "any" = none := by
      refine' PySem.W.mg_none_of KX G ?z
      (case z => k_is)
    have Z_range : mg "range" = none := by
      refine' PySem.W.mg_none_of KX G ?z
      (case z => k_is)
    have Z_abs : mg "abs" = none := by
      refine' PySem.W.mg_none_of KX G ?z
      (case z => k_is)
    have Z_sorted : mg "sorted" = none := by
      refine' PySem.W.mg_none_of KX G ?z
      (case z => k_is)
    have M := by
      refine' PySem.W.mg_of (n := "MOST_PARTED") KX G ?z
      (case z => k_is)
    refine' K27.law_mk KX G hmg ⟨A_power, A_is_whole, A_is_row_of, A_are_papers, A_comes_to, A_is_parting_paper, A_is_prime_paper, A_is_order_paper, A_look_at, A_divisor_from, A_least_divisor, A_parted, A_has_full_order, A_least_full, A_paper_of, A_papers_by, A_prime_paper, A_parting_paper, A_law_draws, A_law_power, A_law_order, A_law_taken, A_law_groups, A_law_claimed, A_law_thing, Z_isinstance, Z_int, Z_bool, Z_tuple, Z_len, Z_any, Z_range, Z_abs, Z_sorted, ⟨_, M⟩⟩ ?a ?l ?c ?k
    (case a => k_is); (case l => k_is); (case c => k_is); (case k => k_is)
#print axioms PySem.Challenge.cw_rootprime_k27_whole_order_papers_are_lea_holds
