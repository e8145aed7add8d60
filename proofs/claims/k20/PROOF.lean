import PyProof.Rows.All
import Wide.All
import OpenK.AllK
import Wide.FinOn
import HandS.ForMost
import HandS.ForExc
import HandS.Wide
import HandS.ExcInit
import HandS.IsInst
import HandS.ClsMeth
import HandS.ExcField
import HandS.TryMany
import KE.KExcIs
import PySem.Challenge.RW_rootprime_k20_prime_papers_told
set_option Elab.async false
set_option linter.all false
/-! # NT1: plain number theory: primes, Fermat, full numbers (no program in sight) -/
namespace NT
/-- a prime -/
def Pr (p : Nat) : Prop := 2 ≤ p ∧ ∀ d, 2 ≤ d → d < p → ¬ d ∣ p
theorem Pr.two {p : Nat} (h : Pr p) : 2 ≤ p := h.1
theorem Pr.pos {p : Nat} (h : Pr p) : 0 < p := Nat.lt_of_lt_of_le (by decide) h.1
theorem Pr.dvd {p d : Nat} (h : Pr p) (hd : d ∣ p) : d = 1 ∨ d = p := by
  have h1 := Nat.le_of_dvd h.pos hd
  have h0 : d ≠ 0 := fun z => by subst z; have := Nat.eq_zero_of_zero_dvd hd; have := h.pos; omega
  by_cases h2 : 2 ≤ d
  · by_cases h3 : d < p
    · exact absurd hd (h.2 d h2 h3)
    · right; omega
  · left; omega
theorem Pr.cop {p a : Nat} (h : Pr p) (ha : ¬ p ∣ a) : Nat.Coprime p a := by
  rcases h.dvd (Nat.gcd_dvd_left p a) with e | e
  · exact e
  · exact absurd (e ▸ Nat.gcd_dvd_right p a) ha
theorem Pr.mul {p a b : Nat} (h : Pr p) (hd : p ∣ a * b) : p ∣ a ∨ p ∣ b := by
  by_cases ha : p ∣ a
  · exact .inl ha
  · exact .inr ((h.cop ha).dvd_of_dvd_mul_left hd)
theorem Pr.pow {p a : Nat} (h : Pr p) : ∀ {k : Nat}, p ∣ a ^ k → p ∣ a
  | 0, hd => by rw [Nat.pow_zero] at hd; have := Nat.le_of_dvd (by decide) hd; have := h.two; omega
  | k + 1, hd => by
    rw [Nat.pow_succ] at hd
    rcases h.mul hd with e | e
    · exact h.pow e
    · exact e
/-- the least divisor from 2 on -/
def Lpf (n r : Nat) : Prop := 2 ≤ r ∧ r ∣ n ∧ ∀ k, 2 ≤ k → k < r → ¬ k ∣ n
theorem Lpf.pr {n r : Nat} (h : Lpf n r) : Pr r := ⟨h.1, fun d h2 hl hd => h.2.2 d h2 hl (Nat.dvd_trans hd h.2.1)⟩
theorem Lpf.le {n r : Nat} (h : Lpf n r) (hn : 0 < n) : r ≤ n := Nat.le_of_dvd hn h.2.1
theorem Lpf.uniq {n r s : Nat} (h : Lpf n r) (k : Lpf n s) : r = s := by
  rcases Nat.lt_trichotomy r s with e | e | e
  · exact absurd h.2.1 (k.2.2 r h.1 e)
  · exact e
  · exact absurd k.2.1 (h.2.2 s k.1 e)
theorem Lpf.self {n : Nat} (h : Pr n) : Lpf n n := ⟨h.1, Nat.dvd_refl n, h.2⟩
theorem Lpf.of_eq {n : Nat} (h : Lpf n n) : Pr n := h.pr
theorem lpf_ex : ∀ {n : Nat}, 2 ≤ n → ∃ r, Lpf n r := by
  intro n hn
  have key : ∀ m, ∀ k, k + m = n → 2 ≤ k → (∀ j, 2 ≤ j → j < k → ¬ j ∣ n) → ∃ r, Lpf n r := by
    intro m
    induction m with
    | zero => intro k e h2 hj; exact ⟨n, hn, Nat.dvd_refl n, fun j a b => hj j a (by omega)⟩
    | succ m ih =>
      intro k e h2 hj
      by_cases hd : k ∣ n
      · exact ⟨k, h2, hd, hj⟩
      · exact ih (k + 1) (by omega) (by omega) fun j a b => by
          by_cases hjk : j = k
          · subst hjk; exact hd
          · exact hj j a (by omega)
  exact key (n - 2) 2 (by omega) (Nat.le_refl 2) fun j a b => by omega
theorem pr_factor {n : Nat} (h : 2 ≤ n) : ∃ q, Pr q ∧ q ∣ n := let ⟨r, hr⟩ := lpf_ex h; ⟨r, hr.pr, hr.2.1⟩
/-- none up to the root: itself -/
theorem lpf_root {n d : Nat} (hn : 2 ≤ n) (hd : n < d * d) (h : ∀ k, 2 ≤ k → k < d → ¬ k ∣ n) : Pr n := by
  obtain ⟨r, hr⟩ := lpf_ex hn
  obtain ⟨c, hc⟩ := hr.2.1
  have h2 := hr.1
  by_cases hrn : r = n
  · exact hrn ▸ hr.pr
  · have hrd : ¬ r < d := fun z => h r h2 z hr.2.1
    have hc2 : 2 ≤ c := by
      rcases Nat.lt_or_ge c 2 with z | z
      · have : c = 0 ∨ c = 1 := by omega
        rcases this with e | e
        · subst e; omega
        · subst e; omega
      · exact z
    have hcr : ¬ c < r := fun z => hr.2.2 c hc2 z ⟨r, by rw [Nat.mul_comm]; exact hc⟩
    have h3 : d * d ≤ r * c := Nat.mul_le_mul (by omega) (by omega)
    omega

/-! ### lists -/
theorem perm_of {α : Type} [DecidableEq α] : ∀ {l m : List α}, l.Nodup → (∀ x ∈ l, x ∈ m) → m.length ≤ l.length → l.Perm m
  | [], m, _, _, h => by
    have : m = [] := List.length_eq_zero_iff.mp (by simpa using h)
    subst this; exact List.Perm.refl _
  | a :: l, m, nd, hs, h => by
    have ha : a ∈ m := hs a List.mem_cons_self
    have p := List.perm_cons_erase ha
    have nd' := List.nodup_cons.mp nd
    refine (List.Perm.cons a (perm_of nd'.2 (fun x hx => ?_) ?_)).trans p.symm
    · have hne : x ≠ a := fun z => nd'.1 (z ▸ hx)
      exact (List.mem_erase_of_ne hne).mpr (hs x (List.mem_cons_of_mem _ hx))
    · rw [List.length_erase_of_mem ha]
      have : (a :: l).length = l.length + 1 := rfl
      omega
/-- more items than places: two alike -/
theorem nodup_le {α : Type} [DecidableEq α] : ∀ {l m : List α}, l.Nodup → (∀ x ∈ l, x ∈ m) → l.length ≤ m.length
  | [], m, _, _ => Nat.zero_le _
  | a :: l, m, nd, hs => by
    have ha : a ∈ m := hs a List.mem_cons_self
    have nd' := List.nodup_cons.mp nd
    have := nodup_le (m := m.erase a) nd'.2 fun x hx => (List.mem_erase_of_ne (fun (z : x = a) => nd'.1 (z ▸ hx))).mpr (hs x (List.mem_cons_of_mem _ hx))
    rw [List.length_erase_of_mem ha] at this
    have hp : 0 < m.length := List.length_pos_of_mem ha
    show l.length + 1 ≤ _
    omega
def prod : List Nat → Nat
  | [] => 1
  | a :: l => a * prod l
theorem prod_perm {l m : List Nat} (h : l.Perm m) : prod l = prod m := by
  induction h with
  | nil => rfl
  | cons a _ ih => show a * _ = a * _; rw [ih]
  | swap a b l => show b * (a * _) = a * (b * _); rw [← Nat.mul_assoc, ← Nat.mul_assoc, Nat.mul_comm b a]
  | trans _ _ h1 h2 => exact h1.trans h2
theorem prod_append (l m : List Nat) : prod (l ++ m) = prod l * prod m := by
  induction l with
  | nil => show prod m = 1 * prod m; rw [Nat.one_mul]
  | cons a l ih => show a * prod (l ++ m) = a * prod l * prod m; rw [ih, Nat.mul_assoc]
theorem prod_not {p : Nat} (h : Pr p) : ∀ {l : List Nat}, (∀ x ∈ l, ¬ p ∣ x) → ¬ p ∣ prod l
  | [], _, hd => by have : p ≤ 1 := Nat.le_of_dvd (by decide) hd; have := h.two; omega
  | a :: l, hl, hd => by
    rcases h.mul hd with e | e
    · exact hl a List.mem_cons_self e
    · exact prod_not h (fun x hx => hl x (List.mem_cons_of_mem _ hx)) e
theorem prod_scale {n a : Nat} : ∀ (l : List Nat), prod (l.map fun i => a * i % n) % n = a ^ l.length * prod l % n
  | [] => by simp [prod]
  | i :: l => by
    show (a * i % n) * prod (l.map fun i => a * i % n) % n = a ^ (l.length + 1) * (i * prod l) % n
    rw [Nat.mul_mod, prod_scale l, ← Nat.mul_mod, Nat.pow_succ]
    rw [Nat.mul_mod (a * i % n), Nat.mod_mod, ← Nat.mul_mod]
    congr 1
    simp only [Nat.mul_assoc, Nat.mul_left_comm, Nat.mul_comm]
theorem modeq_dvd {p a b : Nat} (h : a ≤ b) : a % p = b % p ↔ p ∣ b - a := by
  constructor
  · intro e
    exact Nat.dvd_of_mod_eq_zero (Nat.sub_mod_eq_zero_of_mod_eq e.symm)
  · rintro ⟨c, hc⟩
    have : b = a + p * c := by omega
    rw [this, Nat.add_mul_mod_self_left]
/-- what may be cancelled by a prime -/
theorem cancel {p a b c : Nat} (h : Pr p) (hc : ¬ p ∣ c) (e : a * c % p = b * c % p) : a % p = b % p := by
  have key : ∀ {a b : Nat}, a ≤ b → a * c % p = b * c % p → a % p = b % p := by
    intro a b hab e
    have h1 : p ∣ b * c - a * c := (modeq_dvd (Nat.mul_le_mul_right c hab)).mp e
    rw [← Nat.sub_mul] at h1
    rcases h.mul h1 with z | z
    · exact (modeq_dvd hab).mpr z
    · exact absurd z hc
  rcases Nat.le_total a b with l | l
  · exact key l e
  · exact (key l e.symm).symm
/-- 1, .., n - 1 -/
def rng (n : Nat) : List Nat := (List.range (n - 1)).map (· + 1)
theorem mem_rng {n x : Nat} : x ∈ rng n ↔ 1 ≤ x ∧ x < n := by
  unfold rng
  rw [List.mem_map]
  constructor
  · rintro ⟨i, hi, rfl⟩; rw [List.mem_range] at hi; omega
  · rintro ⟨h1, h2⟩; exact ⟨x - 1, by rw [List.mem_range]; omega, by omega⟩
theorem rng_len (n : Nat) : (rng n).length = n - 1 := by unfold rng; rw [List.length_map, List.length_range]
theorem rng_nd (n : Nat) : (rng n).Nodup := by
  unfold rng
  rw [List.nodup_iff_pairwise_ne, List.pairwise_map]
  have := @List.nodup_range (n - 1)
  rw [List.nodup_iff_pairwise_ne] at this
  exact this.imp fun h => by omega
theorem not_dvd_of {p i : Nat} (h1 : 0 < i) (h2 : i < p) : ¬ p ∣ i := fun z => by have := Nat.le_of_dvd h1 z; omega
/-- Fermat -/
theorem fermat {p a : Nat} (h : Pr p) (ha : ¬ p ∣ a) : a ^ (p - 1) % p = 1 := by
  have hp := h.two
  have lenL := rng_len p
  have ndL := rng_nd p
  have perm : ((rng p).map fun i => a * i % p).Perm (rng p) := by
    refine perm_of ?_ (fun x hx => ?_) (by rw [List.length_map]; exact Nat.le_refl _)
    · rw [List.nodup_iff_pairwise_ne, List.pairwise_map]
      rw [List.nodup_iff_pairwise_ne] at ndL
      refine ndL.imp_of_mem fun {x y} hx hy hne e => hne ?_
      have hx' := mem_rng.mp hx
      have hy' := mem_rng.mp hy
      have e2 : x * a % p = y * a % p := by rw [Nat.mul_comm x, Nat.mul_comm y]; exact e
      have e3 := cancel h ha e2
      rw [Nat.mod_eq_of_lt hx'.2, Nat.mod_eq_of_lt hy'.2] at e3
      exact e3
    · obtain ⟨i, hi, rfl⟩ := List.mem_map.mp hx
      have hi' := mem_rng.mp hi
      refine mem_rng.mpr ⟨?_, Nat.mod_lt _ h.pos⟩
      have : ¬ p ∣ a * i := fun z => (h.mul z).elim ha (not_dvd_of hi'.1 hi'.2)
      have hne : a * i % p ≠ 0 := fun z => this (Nat.dvd_of_mod_eq_zero z)
      omega
  have e1 := prod_scale (n := p) (a := a) (rng p)
  rw [prod_perm perm, lenL] at e1
  have hn : ¬ p ∣ prod (rng p) := prod_not h fun x hx => let z := mem_rng.mp hx; not_dvd_of z.1 z.2
  have e2 : 1 * prod (rng p) % p = a ^ (p - 1) * prod (rng p) % p := by rw [Nat.one_mul]; exact e1
  have e3 := cancel h hn e2
  rw [← e3]
  exact Nat.mod_eq_of_lt (by omega)

/-! ### polynomials: no more roots than the degree -/
def ev : List Int → Int → Int
  | [], _ => 0
  | c :: cs, x => c + x * ev cs x
def padd : List Int → List Int → List Int
  | [], g => g
  | f, [] => f
  | a :: f, b :: g => (a + b) :: padd f g
theorem ev_padd : ∀ (f g : List Int) (x : Int), ev (padd f g) x = ev f x + ev g x
  | [], g, x => by simp [padd, ev]
  | a :: f, [], x => by simp [padd, ev]
  | a :: f, b :: g, x => by
    show (a + b) + x * ev (padd f g) x = (a + x * ev f x) + (b + x * ev g x)
    rw [ev_padd f g x, Int.mul_add]
    omega
theorem ev_scale (r : Int) : ∀ (f : List Int) (x : Int), ev (f.map (r * ·)) x = r * ev f x
  | [], x => by simp [ev]
  | a :: f, x => by
    show r * a + x * ev (f.map (r * ·)) x = r * (a + x * ev f x)
    rw [ev_scale r f x, Int.mul_add, Int.mul_left_comm]
/-- (f(x) - f(r)) / (x - r) -/
def quo : List Int → Int → List Int
  | [], _ => []
  | _ :: cs, r => padd cs ((quo cs r).map (r * ·))
theorem ev_quo (r x : Int) : ∀ f : List Int, ev f x - ev f r = (x - r) * ev (quo f r) x
  | [] => by simp [ev, quo]
  | c :: cs => by
    have ih := ev_quo r x cs
    show (c + x * ev cs x) - (c + r * ev cs r) = (x - r) * ev (padd cs ((quo cs r).map (r * ·))) x
    rw [ev_padd, ev_scale, Int.mul_add, Int.mul_left_comm (x - r) r, ← ih, Int.sub_mul, Int.mul_sub]
    omega
/-- monic of degree n -/
inductive Monic : Nat → List Int → Prop
  | one : Monic 0 [1]
  | cons {n : Nat} {f : List Int} (c : Int) : Monic n f → Monic (n + 1) (c :: f)
theorem Monic.len {n : Nat} {f : List Int} (h : Monic n f) : f.length = n + 1 := by
  induction h with
  | one => rfl
  | cons c _ ih => show _ + 1 = _; rw [ih]
theorem padd_nil (f : List Int) : padd f [] = f := by cases f <;> rfl
theorem Monic.padd {n : Nat} {f : List Int} (h : Monic n f) : ∀ {g : List Int}, g.length ≤ n → Monic n (NT.padd f g) := by
  induction h with
  | one => intro g hg; have : g = [] := List.length_eq_zero_iff.mp (by omega); subst this; exact .one
  | @cons n f c hf ih =>
    intro g hg
    cases g with
    | nil => exact .cons c hf
    | cons b g => exact .cons _ (ih (by have : (b :: g).length = g.length + 1 := rfl; omega))
theorem quo_len : ∀ (f : List Int) (r : Int), (quo f r).length + 1 ≤ f.length + 1
  | [], _ => Nat.le_refl _
  | c :: cs, r => by
    have ih := quo_len cs r
    have lp : ∀ f g : List Int, g.length ≤ f.length → (padd f g).length = f.length := by
      intro f
      induction f with
      | nil => intro g hg; have : g = [] := List.length_eq_zero_iff.mp (by simpa using hg); subst this; rfl
      | cons a f ih2 =>
        intro g hg
        cases g with
        | nil => rfl
        | cons b g => show _ + 1 = _ + 1; rw [ih2 g (by simpa using hg)]
    show (padd cs ((quo cs r).map (r * ·))).length + 1 ≤ _
    rw [lp _ _ (by rw [List.length_map]; omega)]
    show _ ≤ cs.length + 1 + 1
    omega
theorem quo_len' : ∀ (c : Int) (cs : List Int) (r : Int), (quo (c :: cs) r).length ≤ cs.length := by
  intro c cs r
  have lp : ∀ f g : List Int, g.length ≤ f.length → (padd f g).length = f.length := by
    intro f
    induction f with
    | nil => intro g hg; have : g = [] := List.length_eq_zero_iff.mp (by simpa using hg); subst this; rfl
    | cons a f ih2 =>
      intro g hg
      cases g with
      | nil => rfl
      | cons b g => show _ + 1 = _ + 1; rw [ih2 g (by simpa using hg)]
  show (padd cs ((quo cs r).map (r * ·))).length ≤ _
  rw [lp _ _ (by rw [List.length_map]; have := quo_len cs r; omega)]
  exact Nat.le_refl _
theorem Monic.quo {n : Nat} {f : List Int} (h : Monic (n + 1) f) (r : Int) : Monic n (NT.quo f r) := by
  cases h with
  | @cons _ g c hg =>
    show Monic n (NT.padd g ((NT.quo g r).map (r * ·)))
    refine hg.padd ?_
    rw [List.length_map]
    cases hg with
    | one => exact Nat.le_refl _
    | @cons m g' c' hg' =>
      have := quo_len' c' g' r
      rw [hg'.len] at this
      exact this
theorem int_pr {p : Nat} (h : Pr p) {a b : Int} (hd : (p : Int) ∣ a * b) : (p : Int) ∣ a ∨ (p : Int) ∣ b := by
  rw [Int.ofNat_dvd_left, Int.natAbs_mul] at hd
  rcases h.mul hd with e | e
  · exact .inl (Int.ofNat_dvd_left.mpr e)
  · exact .inr (Int.ofNat_dvd_left.mpr e)
theorem roots_le {p : Nat} (h : Pr p) : ∀ {n : Nat} {f : List Int}, Monic n f → ∀ {xs : List Int}, (∀ x ∈ xs, (p : Int) ∣ ev f x) → xs.Pairwise (fun a b => ¬ (p : Int) ∣ b - a) → xs.length ≤ n
  | 0, f, hm, xs, hr, hp => by
    cases hm
    cases xs with
    | nil => exact Nat.le_refl _
    | cons x xs =>
      have h1 := hr x List.mem_cons_self
      simp [ev] at h1
      have h2 : (p : Int) ∣ ((1 : Nat) : Int) := h1
      rw [Int.ofNat_dvd] at h2
      have := Nat.le_of_dvd (by decide) h2
      have := h.two
      omega
  | n + 1, f, hm, xs, hr, hp => by
    cases xs with
    | nil => exact Nat.zero_le _
    | cons r xs =>
      have hp' := List.pairwise_cons.mp hp
      have hl := roots_le h (hm.quo r) (xs := xs) (fun x hx => by
        have e := ev_quo r x f
        have h1 := hr x (List.mem_cons_of_mem _ hx)
        have h2 := hr r List.mem_cons_self
        have h3 : (p : Int) ∣ (x - r) * ev (quo f r) x := e ▸ Int.dvd_sub h1 h2
        rcases int_pr h h3 with z | z
        · exact absurd z (hp'.1 x hx)
        · exact z) hp'.2
      exact Nat.succ_le_succ hl
/-- x ^ n - 1 -/
def xn1 : Nat → List Int
  | 0 => [1]
  | n + 1 => 0 :: xn1 n
theorem ev_xn : ∀ (n : Nat) (x : Int), ev (xn1 n) x = x ^ n
  | 0, x => by simp [xn1, ev]
  | n + 1, x => by show 0 + x * ev (xn1 n) x = _; rw [ev_xn n x, Int.pow_succ, Int.mul_comm]; omega
theorem xn_monic : ∀ n, Monic n (xn1 n)
  | 0 => .one
  | n + 1 => .cons 0 (xn_monic n)
theorem xm_monic : ∀ {n : Nat}, 0 < n → Monic n (padd (xn1 n) [-1]) := fun {n} h => (xn_monic n).padd (by exact h)
theorem ev_xm (n : Nat) (x : Int) : ev (padd (xn1 n) [-1]) x = x ^ n - 1 := by
  rw [ev_padd, ev_xn]
  simp [ev]
  omega
/-- no more than n numbers have the n-th power 1 -/
theorem ones_le {p n : Nat} (h : Pr p) (hn : 0 < n) {xs : List Nat} (nd : xs.Nodup) (hx : ∀ x ∈ xs, x < p ∧ x ^ n % p = 1) : xs.length ≤ n := by
  have := roots_le h (xm_monic hn) (xs := xs.map (Int.ofNat ·)) (fun x hx' => by
    obtain ⟨y, hy, rfl⟩ := List.mem_map.mp hx'
    rw [ev_xm]
    obtain ⟨h1, h2⟩ := hx y hy
    have e : ((y : Int)) ^ n = ((y ^ n : Nat) : Int) := by rw [Int.natCast_pow]
    show (p : Int) ∣ (y : Int) ^ n - 1
    rw [e]
    have h3 : y ^ n = p * (y ^ n / p) + 1 := by have := Nat.div_add_mod (y ^ n) p; omega
    refine ⟨((y ^ n / p : Nat) : Int), ?_⟩
    have h4 : ((y ^ n : Nat) : Int) = (p : Int) * ((y ^ n / p : Nat) : Int) + 1 := by exact_mod_cast h3
    omega) (by
    rw [List.pairwise_map]
    rw [List.nodup_iff_pairwise_ne] at nd
    refine nd.imp_of_mem fun {a b} ha hb hne hd => hne ?_
    have h1 := (hx a ha).1
    have h2 := (hx b hb).1
    obtain ⟨c, hc⟩ := hd
    have hc' : (b : Int) - (a : Int) = p * c := hc
    rcases Int.lt_trichotomy c 0 with z | z | z
    · have : (p : Int) * c ≤ p * (-1) := Int.mul_le_mul_of_nonneg_left (by omega) (by omega)
      omega
    · subst z; omega
    · have : (p : Int) * 1 ≤ p * c := Int.mul_le_mul_of_nonneg_left (by omega) (by omega)
      omega)
  simpa using this
end NT

/-! # NT2: powers by a prime, full numbers: there are some, and their powers come to all -/
namespace NT
theorem pow_mod_one {p a k : Nat} (hp : 2 ≤ p) (h : a % p = 1) : a ^ k % p = 1 := by
  rw [Nat.pow_mod, h, Nat.one_pow]
  exact Nat.mod_eq_of_lt (by omega)
theorem pow_mul_one {p a u : Nat} (hp : 2 ≤ p) (k : Nat) (h : a ^ u % p = 1) : a ^ (u * k) % p = 1 := by
  rw [Nat.pow_mul]
  exact pow_mod_one hp h
theorem pow_dvd_one {p a u v : Nat} (hp : 2 ≤ p) (hd : u ∣ v) (h : a ^ u % p = 1) : a ^ v % p = 1 := by
  obtain ⟨k, rfl⟩ := hd
  exact pow_mul_one hp k h
theorem pow_gcd {p a : Nat} (hp : 2 ≤ p) : ∀ (u v : Nat), a ^ u % p = 1 → a ^ v % p = 1 → a ^ Nat.gcd u v % p = 1 := by
  intro u v
  induction u, v using Nat.gcd.induction with
  | H0 v => intro _ h; rw [Nat.gcd_zero_left]; exact h
  | H1 u v hu ih =>
    intro h1 h2
    rw [Nat.gcd_rec]
    refine ih ?_ h1
    have e : a ^ v = a ^ (u * (v / u)) * a ^ (v % u) := by rw [← Nat.pow_add, Nat.div_add_mod]
    rw [e, Nat.mul_mod, pow_mul_one hp _ h1, Nat.one_mul, Nat.mod_mod] at h2
    exact h2
theorem pow_cop {p a u v : Nat} (hp : 2 ≤ p) (c : Nat.Coprime u v) (h1 : a ^ u % p = 1) (h2 : a ^ v % p = 1) : a % p = 1 := by
  have := pow_gcd hp u v h1 h2
  rw [c, Nat.pow_one] at this
  exact this
/-- how often a prime stands in a number -/
theorem val_ex {q : Nat} (hq : 2 ≤ q) : ∀ {n : Nat}, 0 < n → ∃ k m, n = q ^ k * m ∧ ¬ q ∣ m := by
  intro n
  induction n using Nat.strongRecOn with
  | _ n ih =>
    intro hn
    by_cases hd : q ∣ n
    · obtain ⟨c, hc⟩ := hd
      have hc0 : 0 < c := by rcases Nat.eq_zero_or_pos c with z | z; · subst z; omega
                             · exact z
      have hlt : c < n := by
        have : 2 * c ≤ q * c := Nat.mul_le_mul_right c hq
        omega
      obtain ⟨k, m, e, nd⟩ := ih c hlt hc0
      exact ⟨k + 1, m, by rw [hc, e, Nat.pow_succ]; simp only [Nat.mul_assoc, Nat.mul_left_comm], nd⟩
    · exact ⟨0, n, by rw [Nat.pow_zero, Nat.one_mul], hd⟩
/-- a full number of p: of the order p - 1 -/
def Full (p g : Nat) : Prop := 1 ≤ g ∧ g < p ∧ ∀ q, Pr q → q ∣ p - 1 → g ^ ((p - 1) / q) % p ≠ 1
theorem not_all {p q : Nat} (h : Pr p) (hq : Pr q) (hd : q ∣ p - 1) (h1 : 0 < p - 1) : ∃ a, 1 ≤ a ∧ a < p ∧ a ^ ((p - 1) / q) % p ≠ 1 := by
  refine Classical.byContradiction fun hn => ?_
  have hN : 0 < (p - 1) / q := Nat.div_pos (Nat.le_of_dvd h1 hd) hq.pos
  have := ones_le h hN (rng_nd p) fun x hx => ⟨(mem_rng.mp hx).2, Classical.byContradiction fun hne => hn ⟨x, (mem_rng.mp hx).1, (mem_rng.mp hx).2, hne⟩⟩
  rw [rng_len] at this
  have hlt : (p - 1) / q < p - 1 := Nat.div_lt_self h1 hq.two
  omega
theorem mul_mod_one {p a b : Nat} (h : b % p = 1) : a * b % p = a % p := by
  rw [Nat.mul_mod, h, Nat.mul_one, Nat.mod_mod]
theorem cop_prs {q r : Nat} (hq : Pr q) (hr : Pr r) (hne : q ≠ r) : Nat.Coprime q r := hq.cop fun hd => by
  rcases hr.dvd hd with e | e
  · have := hq.two; omega
  · exact hne e
theorem full_list {p : Nat} (h : Pr p) (h1 : 0 < p - 1) : ∀ (qs : List Nat), qs.Nodup → (∀ q ∈ qs, Pr q ∧ q ∣ p - 1) → ∃ g, ¬ p ∣ g ∧ ∀ q ∈ qs, g ^ ((p - 1) / q) % p ≠ 1
  | [], _, _ => ⟨1, fun z => by have := Nat.le_of_dvd (by decide) z; have := h.two; omega, fun q hq => by cases hq⟩
  | q :: qs, nd, hqs => by
    obtain ⟨hq, hqd⟩ := hqs q List.mem_cons_self
    have nd' := List.nodup_cons.mp nd
    obtain ⟨g, hg, hgq⟩ := full_list h h1 qs nd'.2 fun r hr => hqs r (List.mem_cons_of_mem _ hr)
    obtain ⟨a, ha1, ha2, ha3⟩ := not_all h hq hqd h1
    have hp := h.two
    obtain ⟨k, m, eN, hm⟩ := val_ex hq.two h1
    have hk : 0 < k := by
      rcases Nat.eq_zero_or_pos k with z | z
      · subst z; rw [Nat.pow_zero, Nat.one_mul] at eN; rw [eN] at hqd; exact absurd hqd hm
      · exact z
    have na : ¬ p ∣ a := not_dvd_of ha1 ha2
    have npow : ∀ {x : Nat} (i : Nat), ¬ p ∣ x → ¬ p ∣ x ^ i := fun i hx hd => hx (h.pow hd)
    have fa : ∀ {x : Nat}, ¬ p ∣ x → x ^ (p - 1) % p = 1 := fun hx => fermat h hx
    have eq1 : (p - 1) / q = q ^ (k - 1) * m := by
      rw [eN]
      have : q ^ k * m = q * (q ^ (k - 1) * m) := by
        rw [← Nat.mul_assoc, ← Nat.pow_succ', Nat.succ_eq_add_one, Nat.sub_add_cancel hk]
      rw [this, Nat.mul_div_cancel_left _ hq.pos]
    have cm : Nat.Coprime q m := hq.cop hm
    refine ⟨g ^ (q ^ k) * a ^ m, fun hd => (h.mul hd).elim (npow _ hg) (npow _ na), fun r hr => ?_⟩
    rw [Nat.mul_pow, ← Nat.pow_mul, ← Nat.pow_mul]
    rcases List.mem_cons.mp hr with e | hr'
    · subst e
      -- the new prime
      have e1 : g ^ (r ^ k * ((p - 1) / r)) % p = 1 := by
        refine pow_dvd_one hp ?_ (fa hg)
        rw [eq1, ← Nat.mul_assoc, Nat.mul_right_comm, ← eN]
        exact Nat.dvd_mul_right _ _
      rw [Nat.mul_comm, mul_mod_one e1]
      intro e2
      refine ha3 ?_
      -- c = a ^ ((p-1)/r) has c ^ r = 1 and c ^ m = 1
      have c1 : (a ^ ((p - 1) / r)) ^ r % p = 1 := by
        rw [← Nat.pow_mul, Nat.div_mul_cancel hqd]
        exact fa na
      have c2 : (a ^ ((p - 1) / r)) ^ m % p = 1 := by
        rw [← Nat.pow_mul, Nat.mul_comm]
        exact e2
      exact pow_cop hp cm c1 c2
    · obtain ⟨hrp, hrd⟩ := hqs r hr
      have hne : q ≠ r := fun z => nd'.1 (z ▸ hr')
      -- an old prime
      have e1 : a ^ (m * ((p - 1) / r)) % p = 1 := by
        refine pow_dvd_one hp ?_ (fa na)
        -- p - 1 = q^k m divides m * ((p-1)/r): q^k divides (p-1)/r
        have hqk : q ^ k ∣ (p - 1) / r := by
          have c2 : Nat.Coprime (q ^ k) r := (cop_prs hq hrp hne).pow_left k
          refine c2.dvd_of_dvd_mul_right ?_
          rw [Nat.div_mul_cancel hrd, eN]
          exact Nat.dvd_mul_right _ _
        obtain ⟨c, hc⟩ := hqk
        exact ⟨c, by rw [hc]; rw [← Nat.mul_assoc, Nat.mul_comm m, ← eN]⟩
      rw [mul_mod_one e1]
      intro e2
      refine hgq r hr' ?_
      have c1 : (g ^ ((p - 1) / r)) ^ r % p = 1 := by
        rw [← Nat.pow_mul, Nat.div_mul_cancel hrd]
        exact fa hg
      have c2 : (g ^ ((p - 1) / r)) ^ (q ^ k) % p = 1 := by
        rw [← Nat.pow_mul, Nat.mul_comm]
        exact e2
      exact pow_cop hp ((cop_prs hrp hq hne.symm).pow_right k) c1 c2
/-- the primes that divide n -/
instance prDec (p : Nat) : Decidable (Pr p) := decidable_of_iff (2 ≤ p ∧ ∀ d, d < p → 2 ≤ d → ¬ d ∣ p) ⟨fun h => ⟨h.1, fun d a b => h.2 d b a⟩, fun h => ⟨h.1, fun d a b => h.2 d b a⟩⟩
def prs (n : Nat) : List Nat := (List.range (n + 1)).filter fun q => decide (Pr q ∧ q ∣ n)
theorem mem_prs {n q : Nat} (hn : 0 < n) : q ∈ prs n ↔ Pr q ∧ q ∣ n := by
  unfold prs
  rw [List.mem_filter, List.mem_range, decide_eq_true_iff]
  exact ⟨fun h => h.2, fun h => ⟨Nat.lt_succ_of_le (Nat.le_of_dvd hn h.2), h⟩⟩
theorem full_ex {p : Nat} (h : Pr p) : ∃ g, Full p g := by
  by_cases h1 : p = 2
  · subst h1
    exact ⟨1, Nat.le_refl 1, by decide, fun q hq hd => by have := Nat.le_of_dvd (by decide) hd; have := hq.two; omega⟩
  · have hp := h.two
    have hN : 0 < p - 1 := by omega
    obtain ⟨g, hg, hq⟩ := full_list h hN (prs (p - 1)) (List.nodup_range.filter _) fun q hq => (mem_prs hN).mp hq
    refine ⟨g % p, ?_, Nat.mod_lt _ h.pos, fun q hq1 hq2 => ?_⟩
    · have : g % p ≠ 0 := fun z => hg (Nat.dvd_of_mod_eq_zero z)
      omega
    · rw [← Nat.pow_mod]
      exact hq q ((mem_prs hN).mpr ⟨hq1, hq2⟩)
theorem Full.nd {p g : Nat} (h : Full p g) : ¬ p ∣ g := not_dvd_of h.1 h.2.1
/-- its powers are 1 just at the multiples of p - 1 -/
theorem Full.one {p g : Nat} (hp : Pr p) (h : Full p g) {k : Nat} (e : g ^ k % p = 1) : p - 1 ∣ k := by
  have h2 := hp.two
  by_cases h1 : p - 1 = 0
  · omega
  have hN : 0 < p - 1 := by omega
  have e2 := pow_gcd h2 (p - 1) k (fermat hp h.nd) e
  have hd := Nat.gcd_dvd_left (p - 1) k
  obtain ⟨c, hc⟩ := hd
  by_cases hc1 : c = 1
  · rw [hc1, Nat.mul_one] at hc
    exact hc ▸ Nat.gcd_dvd_right (p - 1) k
  · have hc2 : 2 ≤ c := by
      rcases Nat.lt_or_ge c 2 with z | z
      · have : c = 0 ∨ c = 1 := by omega
        rcases this with z | z
        · subst z; omega
        · exact absurd z hc1
      · exact z
    obtain ⟨q, hq, d, hd⟩ := pr_factor hc2
    have hN2 : p - 1 = q * (Nat.gcd (p - 1) k * d) := by
      have : Nat.gcd (p - 1) k * c = q * (Nat.gcd (p - 1) k * d) := by rw [hd, Nat.mul_left_comm]
      omega
    have hqd : q ∣ p - 1 := ⟨(Nat.gcd (p - 1) k) * d, hN2⟩
    refine absurd (pow_dvd_one h2 ?_ e2) (h.2.2 q hq hqd)
    exact ⟨d, Nat.div_eq_of_eq_mul_right hq.pos hN2⟩
/-- equal powers: equal exponents by p - 1 -/
theorem Full.inj {p g : Nat} (hp : Pr p) (h : Full p g) {i j : Nat} (hij : i ≤ j) (e : g ^ i % p = g ^ j % p) : p - 1 ∣ j - i := by
  refine h.one hp ?_
  have e2 : 1 * g ^ i % p = g ^ (j - i) * g ^ i % p := by rw [← Nat.pow_add, Nat.sub_add_cancel hij, Nat.one_mul]; exact e
  have e3 := cancel hp (fun z => h.nd (hp.pow z)) e2
  rw [← e3]
  exact Nat.mod_eq_of_lt (by have := hp.two; omega)
/-- every number that p does not divide is a power -/
theorem Full.all {p g : Nat} (hp : Pr p) (h : Full p g) {a : Nat} (ha : ¬ p ∣ a) : ∃ i, i < p - 1 ∧ g ^ i % p = a % p := by
  have h2 := hp.two
  have perm : ((List.range (p - 1)).map fun i => g ^ i % p).Perm (rng p) := by
    refine perm_of ?_ (fun x hx => ?_) (by rw [rng_len, List.length_map, List.length_range]; exact Nat.le_refl _)
    · rw [List.nodup_iff_pairwise_ne, List.pairwise_map]
      have nd := @List.nodup_range (p - 1)
      rw [List.nodup_iff_pairwise_ne] at nd
      refine nd.imp_of_mem fun {x y} hx hy hne e => hne ?_
      rw [List.mem_range] at hx hy
      rcases Nat.le_total x y with l | l
      · have := h.inj hp l e
        rcases Nat.eq_zero_or_pos (y - x) with z | z
        · omega
        · have := Nat.le_of_dvd z this; omega
      · have := h.inj hp l e.symm
        rcases Nat.eq_zero_or_pos (x - y) with z | z
        · omega
        · have := Nat.le_of_dvd z this; omega
    · obtain ⟨i, hi, rfl⟩ := List.mem_map.mp hx
      refine mem_rng.mpr ⟨?_, Nat.mod_lt _ hp.pos⟩
      have : g ^ i % p ≠ 0 := fun z => h.nd (hp.pow (Nat.dvd_of_mod_eq_zero z))
      omega
  have hm : a % p ∈ rng p := mem_rng.mpr ⟨by
    have : a % p ≠ 0 := fun z => ha (Nat.dvd_of_mod_eq_zero z)
    omega, Nat.mod_lt _ hp.pos⟩
  obtain ⟨i, hi, e⟩ := List.mem_map.mp (perm.mem_iff.mpr hm)
  exact ⟨i, List.mem_range.mp hi, e⟩
end NT

/-! # NT3: partings, papers: plain -/
namespace NT
theorem step_no {n d : Nat} (hd : d = 2 ∨ 3 ≤ d ∧ d % 2 = 1) (hk : ∀ k, 2 ≤ k → k < d → ¬ k ∣ n) (hn : ¬ d ∣ n) : ∀ k, 2 ≤ k → k < d + 1 + (if 2 < d then 1 else 0) → ¬ k ∣ n := fun k h2 hl => by
  by_cases e : k < d
  · exact hk k h2 e
  · by_cases e2 : k = d
    · subst e2; exact hn
    · by_cases e3 : 2 < d
      · rw [if_pos e3] at hl
        have e4 : k = d + 1 := by omega
        have h3 : d % 2 = 1 := by omega
        intro hd2
        refine hk 2 (Nat.le_refl 2) e3 (Nat.dvd_trans ?_ hd2)
        exact Nat.dvd_of_mod_eq_zero (by omega)
      · rw [if_neg e3] at hl; omega
theorem step_odd {d : Nat} (hd : d = 2 ∨ 3 ≤ d ∧ d % 2 = 1) : d + 1 + (if 2 < d then 1 else 0) = 2 ∨ 3 ≤ d + 1 + (if 2 < d then 1 else 0) ∧ (d + 1 + (if 2 < d then 1 else 0)) % 2 = 1 := by
  by_cases e3 : 2 < d
  · rw [if_pos e3]; omega
  · rw [if_neg e3]; omega
theorem pr_odd {q : Nat} (h : Pr q) : q = 2 ∨ 3 ≤ q ∧ q % 2 = 1 := by
  by_cases e : q = 2
  · exact .inl e
  · have := h.two
    refine .inr ⟨by omega, ?_⟩
    have : ¬ 2 ∣ q := h.2 2 (Nat.le_refl 2) (by omega)
    have : q % 2 ≠ 0 := fun z => this (Nat.dvd_of_mod_eq_zero z)
    omega
/-- a parting's number -/
def whole : List (Nat × Nat) → Nat
  | [] => 1
  | (q, m) :: l => q ^ m * whole l
theorem whole_app : ∀ (l m : List (Nat × Nat)), whole (l ++ m) = whole l * whole m
  | [], m => by show whole m = 1 * _; rw [Nat.one_mul]
  | (q, k) :: l, m => by show q ^ k * whole (l ++ m) = q ^ k * whole l * whole m; rw [whole_app l m, Nat.mul_assoc]
/-- l is the parting of n -/
structure IsPart (n : Nat) (l : List (Nat × Nat)) : Prop where
  pr : ∀ x ∈ l, Pr x.1 ∧ 1 ≤ x.2
  up : l.Pairwise (fun x y => x.1 < y.1)
  wh : whole l = n
theorem dvd_whole : ∀ {l : List (Nat × Nat)} {x : Nat × Nat}, x ∈ l → x.1 ^ x.2 ∣ whole l
  | (q, m) :: l, x, h => by
    rcases List.mem_cons.mp h with e | h
    · subst e; exact Nat.dvd_mul_right _ _
    · exact Nat.dvd_trans (dvd_whole h) (Nat.dvd_mul_left _ _)
theorem IsPart.dvd {n : Nat} {l : List (Nat × Nat)} (h : IsPart n l) {x : Nat × Nat} (hx : x ∈ l) : x.1 ∣ n := by
  rw [← h.wh]
  refine Nat.dvd_trans ?_ (dvd_whole hx)
  have := (h.pr x hx).2
  exact ⟨x.1 ^ (x.2 - 1), by rw [← Nat.pow_succ']; congr 1; omega⟩
theorem mem_of_dvd {q : Nat} (hq : Pr q) : ∀ {l : List (Nat × Nat)}, (∀ x ∈ l, Pr x.1 ∧ 1 ≤ x.2) → q ∣ whole l → ∃ x ∈ l, x.1 = q
  | [], _, hd => by have : q ≤ 1 := Nat.le_of_dvd (by decide) hd; have := hq.two; omega
  | (r, m) :: l, hp, hd => by
    rcases hq.mul hd with e | e
    · have hr := (hp (r, m) List.mem_cons_self).1
      rcases hr.dvd (hq.pow e) with z | z
      · have := hq.two; omega
      · exact ⟨_, List.mem_cons_self, z.symm⟩
    · obtain ⟨x, hx, e2⟩ := mem_of_dvd hq (fun x hx => hp x (List.mem_cons_of_mem _ hx)) e
      exact ⟨x, List.mem_cons_of_mem _ hx, e2⟩
theorem IsPart.mem {n q : Nat} {l : List (Nat × Nat)} (h : IsPart n l) (hq : Pr q) (hd : q ∣ n) : ∃ x ∈ l, x.1 = q := mem_of_dvd hq h.pr (h.wh ▸ hd)
theorem len_whole : ∀ {l : List (Nat × Nat)}, (∀ x ∈ l, Pr x.1 ∧ 1 ≤ x.2) → 2 ^ l.length ≤ whole l
  | [], _ => Nat.le_refl 1
  | (q, m) :: l, h => by
    have ih := len_whole (l := l) fun x hx => h x (List.mem_cons_of_mem _ hx)
    have hq := h (q, m) List.mem_cons_self
    have h1 : 2 ≤ q ^ m := by
      have : q ^ 1 ≤ q ^ m := Nat.pow_le_pow_right hq.1.pos hq.2
      rw [Nat.pow_one] at this
      have := hq.1.two
      omega
    show 2 ^ (l.length + 1) ≤ q ^ m * whole l
    rw [Nat.pow_succ, Nat.mul_comm]
    exact Nat.mul_le_mul h1 ih
theorem IsPart.len {n : Nat} {l : List (Nat × Nat)} (h : IsPart n l) : l.length ≤ n := by
  have := len_whole h.pr
  rw [h.wh] at this
  exact Nat.le_trans (Nat.le_of_lt Nat.lt_two_pow_self) this
theorem IsPart.len_lt {n k : Nat} {l : List (Nat × Nat)} (h : IsPart n l) (hn : n < 2 ^ k) : l.length < k := by
  have := len_whole h.pr
  rw [h.wh] at this
  exact (Nat.pow_lt_pow_iff_right (by decide)).mp (Nat.lt_of_le_of_lt this hn)
/-- how often a prime is taken -/
theorem IsPart.many_lt {n k : Nat} {l : List (Nat × Nat)} (h : IsPart n l) (hn : n < 2 ^ k) {x : Nat × Nat} (hx : x ∈ l) (h0 : 0 < n) : x.2 < k := by
  have h1 : 2 ^ x.2 ≤ x.1 ^ x.2 := Nat.pow_le_pow_left (h.pr x hx).1.two _
  have h2 : x.1 ^ x.2 ≤ n := Nat.le_of_dvd h0 (h.wh ▸ dvd_whole hx)
  exact (Nat.pow_lt_pow_iff_right (a := 2) (by decide)).mp (by omega)

/-! ### papers -/
inductive Paper where
  | mk (p f : Nat) (parts : List (Paper × Nat))
def Paper.p : Paper → Nat | .mk p _ _ => p
def Paper.f : Paper → Nat | .mk _ f _ => f
def Paper.parts : Paper → List (Paper × Nat) | .mk _ _ l => l
/-- its parting -/
def Paper.pl (P : Paper) : List (Nat × Nat) := P.parts.map fun x => (x.1.p, x.2)
/-- the test of a full number by a parting -/
def FullBy (p a : Nat) (l : List (Nat × Nat)) : Prop := ∀ x ∈ l, a ^ ((p - 1) / x.1) % p ≠ 1
instance (p a : Nat) (l : List (Nat × Nat)) : Decidable (FullBy p a l) := List.decidableBAll ..
/-- the paper that is told of a prime -/
inductive IsPaper : Nat → Paper → Prop
  | mk {p f : Nat} {parts : List (Paper × Nat)} : Pr p → IsPart (p - 1) (parts.map fun x => (x.1.p, x.2)) → 1 ≤ f → f < p → FullBy p f (parts.map fun x => (x.1.p, x.2)) → (∀ a, 1 ≤ a → a < f → ¬ FullBy p a (parts.map fun x => (x.1.p, x.2))) →
      (∀ x ∈ parts, IsPaper x.1.p x.1) → IsPaper p (.mk p f parts)
theorem IsPaper.eq {n : Nat} {P : Paper} (h : IsPaper n P) : P.p = n := by cases h; rfl
theorem IsPaper.pr {n : Nat} {P : Paper} (h : IsPaper n P) : Pr n := by cases h; assumption
theorem fullBy_ex {p : Nat} (h : Pr p) {l : List (Nat × Nat)} (hl : IsPart (p - 1) l) : ∃ g, 1 ≤ g ∧ g < p ∧ FullBy p g l := by
  obtain ⟨g, h1, h2, h3⟩ := full_ex h
  exact ⟨g, h1, h2, fun x hx => h3 x.1 (hl.pr x hx).1 (hl.dvd hx)⟩
theorem FullBy.full {p g : Nat} {l : List (Nat × Nat)} (hl : IsPart (p - 1) l) (h1 : 1 ≤ g) (h2 : g < p) (h : FullBy p g l) : Full p g := ⟨h1, h2, fun q hq hd => by
  obtain ⟨x, hx, e⟩ := hl.mem hq hd
  subst e
  exact h x hx⟩

/-! ### there is just one of each -/
theorem IsPart.cons {n q k m : Nat} {l : List (Nat × Nat)} (hq : Lpf n q) (hk : 1 ≤ k) (e : n = q ^ k * m) (hm : ¬ q ∣ m) (h : IsPart m l) : IsPart n ((q, k) :: l) := by
  refine ⟨fun x hx => ?_, List.pairwise_cons.mpr ⟨fun x hx => ?_, h.up⟩, ?_⟩
  · rcases List.mem_cons.mp hx with z | z
    · subst z; exact ⟨hq.pr, hk⟩
    · exact h.pr x z
  · have hd := h.dvd hx
    have h1 := (h.pr x hx).1.two
    rcases Nat.lt_trichotomy q x.1 with z | z | z
    · exact z
    · exact absurd (z ▸ hd) hm
    · exact absurd (e ▸ Nat.dvd_trans hd (Nat.dvd_mul_left _ _)) (hq.2.2 x.1 h1 z)
  · show q ^ k * whole l = n
    rw [h.wh, e]
theorem part_ex : ∀ {n : Nat}, 1 ≤ n → ∃ l, IsPart n l := by
  intro n
  induction n using Nat.strongRecOn with
  | _ n ih =>
    intro hn
    by_cases h1 : n = 1
    · subst h1
      exact ⟨[], ⟨(fun _ h => nomatch h), List.Pairwise.nil, rfl⟩⟩
    · obtain ⟨q, hq⟩ := lpf_ex (n := n) (by omega)
      obtain ⟨k, m, e, hm⟩ := val_ex hq.1 (n := n) hn
      have hk : 1 ≤ k := by
        rcases Nat.eq_zero_or_pos k with z | z
        · subst z; rw [Nat.pow_zero, Nat.one_mul] at e; exact absurd (e ▸ hq.2.1) hm
        · exact z
      have hm0 : 0 < m := by
        rcases Nat.eq_zero_or_pos m with z | z
        · subst z; omega
        · exact z
      have hlt : m < n := by
        have h2 : 2 ≤ q ^ k := Nat.le_trans hq.1 (by
          have := Nat.pow_le_pow_right (n := q) hq.pr.pos hk
          rwa [Nat.pow_one] at this)
        have : 2 * m ≤ q ^ k * m := Nat.mul_le_mul_right m h2
        omega
      obtain ⟨l, hl⟩ := ih m hlt hm0
      exact ⟨(q, k) :: l, hl.cons hq hk e hm⟩
theorem IsPart.not_dvd {q k n : Nat} {l : List (Nat × Nat)} (h : IsPart n ((q, k) :: l)) : ¬ q ∣ whole l := fun hd => by
  have hu := List.pairwise_cons.mp h.up
  obtain ⟨x, hx, e⟩ := mem_of_dvd (h.pr _ List.mem_cons_self).1 (fun x hx => h.pr x (List.mem_cons_of_mem _ hx)) hd
  have := hu.1 x hx
  omega
theorem pow_val {q k j m n : Nat} (hq : 2 ≤ q) (e : q ^ k * m = q ^ j * n) (hm : ¬ q ∣ m) (hn : ¬ q ∣ n) : k = j ∧ m = n := by
  have key : ∀ {k j m n : Nat}, k < j → q ^ k * m = q ^ j * n → ¬ q ∣ m → False := by
    intro k j m n hlt e hm
    have : q ^ j = q ^ k * q ^ (j - k) := by rw [← Nat.pow_add]; congr 1; omega
    rw [this, Nat.mul_assoc] at e
    have e2 := Nat.eq_of_mul_eq_mul_left (Nat.pow_pos (by omega)) e
    exact hm ⟨q ^ (j - k - 1) * n, by rw [e2, ← Nat.mul_assoc, ← Nat.pow_succ']; congr 2; omega⟩
  rcases Nat.lt_trichotomy k j with z | z | z
  · exact (key z e hm).elim
  · subst z; exact ⟨rfl, Nat.eq_of_mul_eq_mul_left (Nat.pow_pos (by omega)) e⟩
  · exact (key z e.symm hn).elim
theorem IsPart.tail {q k n : Nat} {l : List (Nat × Nat)} (h : IsPart n ((q, k) :: l)) : IsPart (whole l) l := ⟨fun x hx => h.pr x (List.mem_cons_of_mem _ hx), (List.pairwise_cons.mp h.up).2, rfl⟩
theorem IsPart.lpf {q k n : Nat} {l : List (Nat × Nat)} (h : IsPart n ((q, k) :: l)) : Lpf n q := by
  refine ⟨(h.pr _ List.mem_cons_self).1.two, h.dvd (x := (q, k)) List.mem_cons_self, fun j h2 hl hd => ?_⟩
  obtain ⟨r, hr, hrd⟩ := pr_factor h2
  obtain ⟨x, hx, e⟩ := h.mem hr (Nat.dvd_trans hrd hd)
  have hle : r ≤ j := Nat.le_of_dvd (by omega) hrd
  rcases List.mem_cons.mp hx with z | z
  · subst z; have e : q = r := e; omega
  · have := (List.pairwise_cons.mp h.up).1 x z
    have e' : x.1 = r := e
    have : q < x.1 := this
    omega
theorem IsPart.pos {n : Nat} {l : List (Nat × Nat)} (h : IsPart n l) : 1 ≤ n := by
  have := len_whole h.pr
  rw [h.wh] at this
  exact Nat.le_trans (Nat.pow_pos (by decide)) this
theorem IsPart.uniq : ∀ {l m : List (Nat × Nat)} {n : Nat}, IsPart n l → IsPart n m → l = m
  | [], [], _, _, _ => rfl
  | [], (r, j) :: m, n, h, h' => by
    have e : n = 1 := h.wh.symm
    have h1 := h'.lpf
    have := Nat.le_of_dvd (by omega) h1.2.1
    have := h1.1
    omega
  | (q, k) :: l, [], n, h, h' => by
    have e : n = 1 := h'.wh.symm
    have h1 := h.lpf
    have := Nat.le_of_dvd (by omega) h1.2.1
    have := h1.1
    omega
  | (q, k) :: l, (r, j) :: m, n, h, h' => by
    have e := h.lpf.uniq h'.lpf
    subst e
    have e2 : q ^ k * whole l = q ^ j * whole m := (show q ^ k * whole l = n from h.wh).trans (show q ^ j * whole m = n from h'.wh).symm
    obtain ⟨e3, e4⟩ := pow_val h.lpf.1 e2 h.not_dvd h'.not_dvd
    subst e3
    rw [IsPart.uniq h.tail (e4 ▸ h'.tail)]
noncomputable def lpf (n : Nat) : Nat := open Classical in if h : ∃ r, Lpf n r then Classical.choose h else 0
theorem lpf_is {n : Nat} (h : 2 ≤ n) : Lpf n (lpf n) := by
  have z := lpf_ex h
  unfold lpf
  rw [dif_pos z]
  exact Classical.choose_spec z
theorem lpf_eq {n r : Nat} (h : Lpf n r) : lpf n = r := by
  have z : ∃ r, Lpf n r := ⟨r, h⟩
  unfold lpf
  rw [dif_pos z]
  exact (Classical.choose_spec z).uniq h
noncomputable def part (n : Nat) : List (Nat × Nat) := open Classical in if h : ∃ r, IsPart n r then Classical.choose h else []
theorem part_is {n : Nat} (h : 1 ≤ n) : IsPart n (part n) := by
  have z := part_ex h
  unfold part
  rw [dif_pos z]
  exact Classical.choose_spec z
theorem part_eq {n : Nat} {l : List (Nat × Nat)} (h : IsPart n l) : part n = l := (part_is h.pos).uniq h
/-- the least number from 1 on that is so -/
theorem least_ex {C : Nat → Prop} {n : Nat} (h1 : 1 ≤ n) (h : C n) : ∃ m, 1 ≤ m ∧ m ≤ n ∧ C m ∧ ∀ a, 1 ≤ a → a < m → ¬ C a := by
  induction n using Nat.strongRecOn with
  | _ n ih =>
    by_cases z : ∃ a, 1 ≤ a ∧ a < n ∧ C a
    · obtain ⟨a, a1, a2, a3⟩ := z
      obtain ⟨m, m1, m2, m3, m4⟩ := ih a a2 a1 a3
      exact ⟨m, m1, by omega, m3, m4⟩
    · exact ⟨n, h1, Nat.le_refl n, h, fun a a1 a2 a3 => z ⟨a, a1, a2, a3⟩⟩
theorem pr_below {p q : Nat} (h : Pr p) (hq : Pr q) (hd : q ∣ p - 1) : q < p := by
  have := h.two
  have := Nat.le_of_dvd (by have := hq.two; rcases Nat.eq_zero_or_pos (p - 1) with z | z; · omega
                            · exact z) hd
  omega
theorem two_mul_le {p q : Nat} (h : Pr p) (hq : Pr q) (hd : q ∣ p - 1) (h3 : 4 ≤ p) : 2 * q ≤ p := by
  obtain ⟨c, hc⟩ := hd
  have hodd := pr_odd h
  have hq2 := hq.two
  rcases Nat.lt_or_ge c 2 with z | z
  · have : c = 0 ∨ c = 1 := by omega
    rcases this with z | z
    · subst z; omega
    · subst z
      have e : q = p - 1 := by omega
      have := pr_odd hq
      omega
  · have : q * 2 ≤ q * c := Nat.mul_le_mul_left q z
    omega
theorem paper_ex : ∀ {p : Nat}, Pr p → ∃ P, IsPaper p P := by
  intro p
  induction p using Nat.strongRecOn with
  | _ p ih =>
    intro h
    have hN : 1 ≤ p - 1 := by have := h.two; omega
    obtain ⟨l, hl⟩ := part_ex hN
    have lst : ∀ (l : List (Nat × Nat)), (∀ x ∈ l, Pr x.1 ∧ x.1 < p) → ∃ parts : List (Paper × Nat), parts.map (fun x => (x.1.p, x.2)) = l ∧ ∀ x ∈ parts, IsPaper x.1.p x.1 := by
      intro l
      induction l with
      | nil => intro _; exact ⟨[], rfl, fun _ h => by cases h⟩
      | cons x l ih2 =>
        intro hx
        obtain ⟨parts, e, hp⟩ := ih2 fun y hy => hx y (List.mem_cons_of_mem _ hy)
        obtain ⟨q1, q2⟩ := hx x List.mem_cons_self
        obtain ⟨Q, hQ⟩ := ih x.1 q2 q1
        refine ⟨(Q, x.2) :: parts, ?_, fun y hy => ?_⟩
        · show (Q.p, x.2) :: _ = x :: l
          rw [e, hQ.eq]
        · rcases List.mem_cons.mp hy with z | z
          · subst z; show IsPaper Q.p Q; rw [hQ.eq]; exact hQ
          · exact hp y z
    obtain ⟨parts, e, hp⟩ := lst l fun x hx => ⟨(hl.pr x hx).1, pr_below h (hl.pr x hx).1 (hl.dvd hx)⟩
    obtain ⟨g, g1, g2, g3⟩ := fullBy_ex h hl
    obtain ⟨m, m1, m2, m3, m4⟩ := least_ex (C := fun a => FullBy p a l) g1 g3
    exact ⟨.mk p m parts, .mk h (e ▸ hl) m1 (by omega) (e ▸ m3) (e ▸ m4) hp⟩
theorem paper_uniq {p : Nat} {P Q : Paper} (h : IsPaper p P) (k : IsPaper p Q) : P = Q := by
  induction h generalizing Q with
  | @mk p f parts hp hl f1 f2 f3 f4 hs ih =>
    cases k with
    | @mk _ f' parts' _ hl' f1' f2' f3' f4' hs' =>
      have e := hl.uniq hl'
      have ef : f = f' := by
        rcases Nat.lt_trichotomy f f' with z | z | z
        · exact absurd (e ▸ f3) (f4' f f1 z)
        · exact z
        · exact absurd (e ▸ f3') (f4 f' f1' z)
      subst ef
      have el : parts = parts' := by
        clear hl hl' f3 f4 f3' f4' 
        induction parts generalizing parts' with
        | nil => cases parts' with
          | nil => rfl
          | cons _ _ => cases e
        | cons x parts ih2 =>
          cases parts' with
          | nil => cases e
          | cons y parts' =>
            have e' := List.cons.inj e
            have e1 := Prod.mk.inj e'.1
            have ex : x = y := by
              have hy := hs' y List.mem_cons_self
              rw [← e1.1] at hy
              have := ih x List.mem_cons_self hy
              exact Prod.ext this e1.2
            subst ex
            rw [ih2 (fun z hz => hs z (List.mem_cons_of_mem _ hz)) (fun z hz => ih z (List.mem_cons_of_mem _ hz)) (fun z hz => hs' z (List.mem_cons_of_mem _ hz)) e'.2]
      rw [el]
noncomputable def paper (p : Nat) : Paper := open Classical in if h : ∃ P, IsPaper p P then Classical.choose h else .mk 0 0 []
theorem paper_is {p : Nat} (h : Pr p) : IsPaper p (paper p) := by
  have z := paper_ex h
  unfold paper
  rw [dif_pos z]
  exact Classical.choose_spec z
theorem paper_eq {p : Nat} {P : Paper} (h : IsPaper p P) : paper p = P := paper_uniq (paper_is h.pr) h
/-- the least full number -/
noncomputable def lfull (p : Nat) : Nat := (paper p).f
theorem IsPaper.pl {p : Nat} {P : Paper} (h : IsPaper p P) : P.pl = part (p - 1) := by
  cases h with
  | mk _ hl => exact (part_eq hl).symm
theorem lfull_is {p : Nat} (h : Pr p) : 1 ≤ lfull p ∧ lfull p < p ∧ FullBy p (lfull p) (part (p - 1)) ∧ ∀ a, 1 ≤ a → a < lfull p → ¬ FullBy p a (part (p - 1)) := by
  have z := paper_is h
  have e := z.pl
  unfold lfull
  generalize paper p = P at z e ⊢
  cases z with
  | mk _ hl f1 f2 f3 f4 _ =>
    rw [← e]
    exact ⟨f1, f2, f3, f4⟩
theorem paper_mk {p : Nat} (h : Pr p) : paper p = .mk p (lfull p) ((part (p - 1)).map fun x => (paper x.1, x.2)) := by
  have hN : 1 ≤ p - 1 := by have := h.two; omega
  have e : (((part (p - 1)).map fun x => (paper x.1, x.2)).map fun x => (x.1.p, x.2)) = part (p - 1) := by
    rw [List.map_map]
    refine (List.map_congr_left (g := id) fun x hx => ?_).trans (List.map_id _)
    show ((paper x.1).p, x.2) = x
    rw [(paper_is ((part_is hN).pr x hx).1).eq]
  refine paper_eq (.mk h ?_ (lfull_is h).1 (lfull_is h).2.1 ?_ ?_ fun x hx => ?_)
  · rw [e]; exact part_is hN
  · rw [e]; exact (lfull_is h).2.2.1
  · rw [e]; exact (lfull_is h).2.2.2
  · obtain ⟨y, hy, rfl⟩ := List.mem_map.mp hx
    have := paper_is ((part_is hN).pr y hy).1
    show IsPaper (paper y.1).p (paper y.1)
    rw [this.eq]; exact this
end NT

/-! # NT4: powers of ints by a number -/
namespace NT
theorem ipow_emod (x n : Int) : ∀ k : Nat, (x % n) ^ k % n = x ^ k % n
  | 0 => by rw [Int.pow_zero, Int.pow_zero]
  | k + 1 => by rw [Int.pow_succ, Int.pow_succ, Int.mul_emod, ipow_emod x n k, Int.emod_emod, ← Int.mul_emod]
theorem imul_emod_l (a b n : Int) : (a % n) * b % n = a * b % n := by rw [Int.mul_emod, Int.emod_emod, ← Int.mul_emod]
theorem imul_emod_r (a b n : Int) : a * (b % n) % n = a * b % n := by rw [Int.mul_emod, Int.emod_emod, ← Int.mul_emod]
/-- the step of a power by halving -/
theorem hpow_step (f b n : Int) (e : Nat) : (if e % 2 = 1 then f * b % n else f) * (b * b % n) ^ (e / 2) % n = f * b ^ e % n := by
  rw [Int.mul_emod, ipow_emod, ← Int.mul_emod]
  have e2 : (b * b) ^ (e / 2) = b ^ (2 * (e / 2)) := by rw [Int.pow_mul]; congr 1; rw [Int.pow_succ, Int.pow_succ, Int.pow_zero, Int.one_mul]
  rw [e2]
  by_cases h : e % 2 = 1
  · rw [if_pos h, imul_emod_l, Int.mul_assoc, Int.mul_comm b, ← Int.pow_succ]
    congr 3; omega
  · rw [if_neg h]
    congr 3; omega
theorem ipow_nat (a k p : Nat) : ((a : Int) ^ k % (p : Int)) = ((a ^ k % p : Nat) : Int) := by rw [Int.natCast_emod, Int.natCast_pow]
end NT

/-! # NT5: a full number stands below 2 ^ 24 -/
namespace NT
/-! sums -/
def sm : Nat → (Nat → Int) → Int
  | 0, _ => 0
  | n + 1, f => sm n f + f n
theorem sm_congr {f g : Nat → Int} : ∀ {n : Nat}, (∀ i, i < n → f i = g i) → sm n f = sm n g
  | 0, _ => rfl
  | n + 1, h => by show sm n f + f n = sm n g + g n; rw [sm_congr fun i hi => h i (by omega), h n (by omega)]
theorem sm_le {f g : Nat → Int} : ∀ {n : Nat}, (∀ i, i < n → f i ≤ g i) → sm n f ≤ sm n g
  | 0, _ => Int.le_refl _
  | n + 1, h => by
    show sm n f + f n ≤ sm n g + g n
    have := sm_le (n := n) fun i hi => h i (by omega)
    have := h n (by omega)
    omega
theorem sm_add (f g : Nat → Int) : ∀ n : Nat, sm n (fun i => f i + g i) = sm n f + sm n g
  | 0 => rfl
  | n + 1 => by show sm n _ + (f n + g n) = (sm n f + f n) + (sm n g + g n); rw [sm_add f g n]; omega
theorem sm_mul (c : Int) (f : Nat → Int) : ∀ n : Nat, sm n (fun i => c * f i) = c * sm n f
  | 0 => (Int.mul_zero c).symm
  | n + 1 => by show sm n _ + c * f n = c * (sm n f + f n); rw [sm_mul c f n, Int.mul_add]
theorem sm_const (c : Int) : ∀ n : Nat, sm n (fun _ => c) = n * c
  | 0 => (Int.zero_mul c).symm
  | n + 1 => by show sm n _ + c = _; rw [sm_const c n, Int.natCast_add, Int.add_mul]; simp
theorem sm_zero (n : Nat) : sm n (fun _ => 0) = 0 := by rw [sm_const]; simp
theorem sm_nonneg {f : Nat → Int} {n : Nat} (h : ∀ i, i < n → 0 ≤ f i) : 0 ≤ sm n f := by
  have := sm_le h
  rwa [sm_zero] at this
theorem sm_swap (f : Nat → Nat → Int) (m : Nat) : ∀ n : Nat, sm n (fun i => sm m (f i)) = sm m (fun j => sm n fun i => f i j)
  | 0 => (sm_zero m).symm
  | n + 1 => by
    show sm n _ + sm m (f n) = sm m (fun j => sm n (fun i => f i j) + f n j)
    rw [sm_swap f m n, sm_add]
theorem sm_mono {f : Nat → Int} (h : ∀ i, 0 ≤ f i) {m : Nat} : ∀ {n : Nat}, m ≤ n → sm m f ≤ sm n f
  | 0, hl => by have : m = 0 := by omega
                subst this; exact Int.le_refl _
  | n + 1, hl => by
    rcases Nat.eq_or_lt_of_le hl with e | e
    · subst e; exact Int.le_refl _
    · have := sm_mono h (m := m) (n := n) (by omega)
      have := h n
      show _ ≤ sm n f + f n
      omega
def io (b : Bool) : Int := if b then 1 else 0
theorem io_t : io true = 1 := rfl
theorem io_f : io false = 0 := rfl
theorem io_nn (b : Bool) : 0 ≤ io b := by cases b <;> decide
theorem io_mul (a b : Bool) : io a * io b = io (a && b) := by cases a <;> cases b <;> rfl
theorem io_not (a : Bool) : io (!a) = 1 - io a := by cases a <;> rfl
theorem sm_pick (g : Nat → Int) (a : Nat) : ∀ {n : Nat}, sm n (fun y => io (decide (a = y)) * g y) = if a < n then g a else 0
  | 0 => by rw [if_neg (by omega)]; rfl
  | n + 1 => by
    show sm n _ + io (decide (a = n)) * g n = _
    rw [sm_pick g a]
    by_cases h : a = n
    · subst h
      rw [if_neg (by omega), if_pos (by omega), decide_eq_true rfl, io_t]; omega
    · rw [decide_eq_false h, io_f, Int.zero_mul]
      by_cases h2 : a < n
      · rw [if_pos h2, if_pos (by omega)]; omega
      · rw [if_neg h2, if_neg (by omega)]; omega
theorem sm_cnt (P : Nat → Bool) : ∀ n : Nat, sm n (fun i => io (P i)) = ((List.range n).filter P).length
  | 0 => rfl
  | n + 1 => by
    show sm n _ + io (P n) = _
    rw [sm_cnt P n, List.range_succ, List.filter_append, List.length_append, Int.natCast_add]
    cases h : P n with
    | true => rw [List.filter_cons_of_pos h]; rfl
    | false => rw [List.filter_cons_of_neg (by rw [h]; decide)]; rfl
theorem range_nd (n : Nat) (P : Nat → Bool) : ((List.range n).filter P).Nodup := List.nodup_range.filter _
theorem sm_cnt_le {P : Nat → Bool} {n m : Nat} (h : ((List.range n).filter P).length ≤ m) : sm n (fun i => io (P i)) ≤ m := by
  rw [sm_cnt]; exact_mod_cast h
/-! squares -/
theorem sm_sq (f : Nat → Int) (n : Nat) : sm n f * sm n f = sm n fun i => sm n fun j => f i * f j := by
  rw [← sm_mul]
  have : ∀ n m : Nat, sm n (fun i => sm m f * f i) = sm n fun i => sm m fun j => f i * f j := fun n m => sm_congr fun i _ => by rw [sm_mul, Int.mul_comm]
  exact this n n
theorem amgm (t c : Int) : 2 * c * t ≤ t * t + c * c := by
  have h : 0 ≤ (t - c) * (t - c) := by
    rcases Int.le_total 0 (t - c) with z | z
    · exact Int.mul_nonneg z z
    · exact Int.mul_nonneg_of_nonpos_of_nonpos z z
  have e : (t - c) * (t - c) = t * t + c * c - 2 * c * t := by
    rw [Int.sub_mul, Int.mul_sub, Int.mul_sub, Int.mul_assoc 2, Int.mul_comm t c]; omega
  omega
end NT

/-! # NT6: how the sums of two small numbers fall upon the cosets of the d-th powers -/
set_option maxRecDepth 10000
namespace NT
def lb (p e a : Nat) : Nat := a ^ e % p
def La (p d y : Nat) : Bool := decide (y ^ d % p = 1)
theorem dvd_pw {p a e : Nat} (h : p ∣ a) (he : 1 ≤ e) : p ∣ a ^ e := by
  obtain ⟨k, rfl⟩ : ∃ k, e = k + 1 := ⟨e - 1, by omega⟩
  rw [Nat.pow_succ]
  exact Nat.dvd_mul_left_of_dvd h _
section
variable {p d e : Nat}
theorem ed_pos (hp : Pr p) (he : e * d = p - 1) : 1 ≤ e ∧ 1 ≤ d := by
  have := hp.two
  refine ⟨?_, ?_⟩
  · rcases Nat.eq_zero_or_pos e with z | z
    · subst z; omega
    · exact z
  · rcases Nat.eq_zero_or_pos d with z | z
    · subst z; omega
    · exact z
theorem La_lb (hp : Pr p) (he : e * d = p - 1) (a : Nat) : La p d (lb p e a) = decide (¬ p ∣ a) := by
  obtain ⟨h1, h2⟩ := ed_pos hp he
  unfold La lb
  by_cases h : p ∣ a
  · rw [show decide (¬ p ∣ a) = false from decide_eq_false fun z => z h, Nat.mod_eq_zero_of_dvd (dvd_pw h h1), Nat.zero_pow h2]
    rfl
  · rw [show decide (¬ p ∣ a) = true from decide_eq_true h, ← Nat.pow_mod, ← Nat.pow_mul, he, fermat hp h]
    rfl
theorem lb_lt (hp : Pr p) (e a : Nat) : lb p e a < p := Nat.mod_lt _ hp.pos
theorem cnt1 (hp : Pr p) {c : Nat} (h1 : 1 ≤ c) (h2 : c < p) : sm p (fun x => io (decide (¬ p ∣ x + c))) = p - 1 := by
  have e1 : sm p (fun x => io (decide (¬ p ∣ x + c))) = sm p (fun x => 1 + io (decide (p - c = x)) * (-1)) := sm_congr fun x hx => by
    by_cases h : p - c = x
    · rw [decide_eq_true h, show decide (¬ p ∣ x + c) = false from decide_eq_false fun z => z (by subst h; rw [Nat.sub_add_cancel (by omega)]; exact Nat.dvd_refl p)]; rfl
    · rw [decide_eq_false h, show decide (¬ p ∣ x + c) = true from decide_eq_true (fun z => by
        obtain ⟨k, hk⟩ := z
        rcases k with _ | _ | k
        · omega
        · omega
        · have : p * 2 ≤ p * (k + 1 + 1) := Nat.mul_le_mul_left p (by omega)
          omega)]; rfl
  rw [e1, sm_add, sm_const, sm_pick, if_pos (by omega)]
  omega
theorem inv_ex (hp : Pr p) {a : Nat} (h : ¬ p ∣ a) (b : Nat) : ∃ r, r < p ∧ r * a % p = b % p := by
  have := hp.two
  refine ⟨b * a ^ (p - 2) % p, Nat.mod_lt _ hp.pos, ?_⟩
  rw [Nat.mod_mul_mod, Nat.mul_assoc, ← Nat.pow_succ, show (p - 2).succ = p - 1 by omega]
  exact mul_mod_one (fermat hp h)
theorem mod_dvd_int {a b : Nat} (h : a % p = b % p) : (p : Int) ∣ (a : Int) - b := by
  refine Int.dvd_of_emod_eq_zero ?_
  have : (a : Int) % p = (b : Int) % p := by exact_mod_cast h
  exact Int.emod_eq_emod_iff_emod_sub_eq_zero.mp this
theorem int_small {a b : Nat} (ha : a < p) (hb : b < p) (h : (p : Int) ∣ (a : Int) - b) : a = b := by
  obtain ⟨c, hc⟩ := h
  rcases Int.lt_trichotomy c 0 with z | z | z
  · have : (p : Int) * c ≤ p * (-1) := Int.mul_le_mul_of_nonneg_left (by omega) (by omega)
    omega
  · subst z; omega
  · have : (p : Int) * 1 ≤ p * c := Int.mul_le_mul_of_nonneg_left (by omega) (by omega)
    omega
theorem cntne (hp : Pr p) (he : e * d = p - 1) {c c' : Nat} (h2 : c < p) (h2' : c' < p) (hne : c ≠ c') : sm p (fun x => io (La p d (lb p e (x + c)) && decide (lb p e (x + c') = lb p e (x + c)))) ≤ (e : Int) - 1 := by
  obtain ⟨k1, k2⟩ := ed_pos hp he
  have hp2 := hp.two
  rw [show (e : Int) - 1 = ((e - 1 : Nat) : Int) by omega]
  refine sm_cnt_le ?_
  generalize hL : (List.range p).filter _ = L
  have hx : ∀ x ∈ L, x < p ∧ ¬ p ∣ x + c ∧ ¬ p ∣ x + c' ∧ lb p e (x + c') = lb p e (x + c) := fun x hm => by
    rw [← hL, List.mem_filter, Bool.and_eq_true, La_lb hp he] at hm
    obtain ⟨a1, a2, a3⟩ := hm
    have a2' := of_decide_eq_true a2
    have a3' := of_decide_eq_true a3
    refine ⟨List.mem_range.mp a1, a2', fun z => ?_, a3'⟩
    have b1 := La_lb hp he (x + c')
    rw [a3', La_lb hp he, a2, show decide (¬ p ∣ x + c') = false from decide_eq_false fun y => y z] at b1
    cases b1
  have nd : L.Nodup := hL ▸ range_nd p _
  have hr : ∀ x, ∃ r, x ∈ L → r < p ∧ r * (x + c') % p = (x + c) % p := fun x => by
    by_cases h : x ∈ L
    · obtain ⟨r, a, b⟩ := inv_ex hp (hx x h).2.2.1 (x + c)
      exact ⟨r, fun _ => ⟨a, b⟩⟩
    · exact ⟨0, fun z => absurd z h⟩
  let r : Nat → Nat := fun x => Classical.choose (hr x)
  have hr' : ∀ x ∈ L, r x < p ∧ r x * (x + c') % p = (x + c) % p := fun x h => Classical.choose_spec (hr x) h
  have hpe : ∀ x ∈ L, r x ^ e % p = 1 := fun x h => by
    obtain ⟨_, q1, q2, q3⟩ := hx x h
    obtain ⟨_, q4⟩ := hr' x h
    have e1 : r x ^ e * (x + c') ^ e % p = 1 * (x + c') ^ e % p := by
      rw [← Nat.mul_pow, Nat.pow_mod, q4, ← Nat.pow_mod, Nat.one_mul]
      exact q3.symm
    have := cancel hp (fun z => q2 (hp.pow z)) e1
    rwa [Nat.mod_eq_of_lt (show 1 < p by omega)] at this
  have hn1 : ∀ x ∈ L, r x ≠ 1 := fun x h z => by
    obtain ⟨_, q4⟩ := hr' x h
    rw [z, Nat.one_mul] at q4
    have d1 := mod_dvd_int q4
    exact hne (int_small h2' h2 (by
      rw [show ((c' : Nat) : Int) - c = ((x + c' : Nat) : Int) - ((x + c : Nat) : Int) by omega]
      exact d1)).symm
  have inj : ∀ x ∈ L, ∀ y ∈ L, r x = r y → x = y := fun x hxm y hym z => by
    obtain ⟨a1, a2⟩ := hr' x hxm
    obtain ⟨b1, b2⟩ := hr' y hym
    have d1 := mod_dvd_int a2
    have d2 := mod_dvd_int b2
    rw [← z] at d2
    have d3 := Int.dvd_sub d1 d2
    have e3 : (((r x * (x + c') : Nat) : Int) - ((x + c : Nat) : Int)) - (((r x * (y + c') : Nat) : Int) - ((y + c : Nat) : Int)) = ((x : Int) - y) * ((r x : Int) - 1) := by
      rw [Int.natCast_mul, Int.natCast_mul, Int.natCast_add, Int.natCast_add, Int.natCast_add, Int.natCast_add]
      generalize ((r x : Nat) : Int) = R
      grind
    rw [e3] at d3
    rcases int_pr hp d3 with w | w
    · exact int_small (hx x hxm).1 (hx y hym).1 w
    · exact absurd (int_small a1 (show 1 < p by omega) (by exact w)) (hn1 x hxm)
  have nd2 : (1 :: L.map r).Nodup := by
    refine List.nodup_cons.mpr ⟨fun hm => ?_, ?_⟩
    · obtain ⟨x, hm, z⟩ := List.mem_map.mp hm
      exact hn1 x hm z
    · rw [List.nodup_iff_pairwise_ne, List.pairwise_map]
      refine (List.nodup_iff_pairwise_ne.mp nd).imp_of_mem fun {a b} ha hb hab z => hab (inj a ha b hb z)
  have := ones_le hp k1 nd2 fun x hm => by
    rcases List.mem_cons.mp hm with z | z
    · subst z; exact ⟨by omega, by rw [Nat.one_pow, Nat.mod_eq_of_lt (by omega)]⟩
    · obtain ⟨y, hy, rfl⟩ := List.mem_map.mp z
      exact ⟨(hr' y hy).1, hpe y hy⟩
  rw [List.length_cons, List.length_map] at this
  omega
theorem cntL (hp : Pr p) (hd : 1 ≤ d) : sm p (fun y => io (La p d y)) ≤ d := sm_cnt_le (ones_le hp hd (range_nd p _) fun x hm => by
  rw [List.mem_filter] at hm
  exact ⟨List.mem_range.mp hm.1, of_decide_eq_true hm.2⟩)
/-! the spread -/
def Tx (p e K x y : Nat) : Int := sm K fun v => io (decide (lb p e (x + v + 1) = y))
theorem Tx_sum (hp : Pr p) (K x : Nat) (g : Nat → Int) : sm p (fun y => Tx p e K x y * g y) = sm K fun v => g (lb p e (x + v + 1)) := by
  have e1 : sm p (fun y => Tx p e K x y * g y) = sm p fun y => sm K fun v => io (decide (lb p e (x + v + 1) = y)) * g y := sm_congr fun y _ => by
    unfold Tx
    rw [Int.mul_comm, ← sm_mul]
    exact sm_congr fun v _ => Int.mul_comm _ _
  rw [e1, sm_swap]
  exact sm_congr fun v _ => by rw [sm_pick, if_pos (lb_lt hp _ _)]
variable {K : Nat}
theorem S1 (hp : Pr p) (he : e * d = p - 1) (hK : K < p) : sm p (fun x => sm p fun y => Tx p e K x y * io (La p d y)) = K * ((p : Int) - 1) := by
  have e1 : sm p (fun x => sm p fun y => Tx p e K x y * io (La p d y)) = sm p fun x => sm K fun v => io (decide (¬ p ∣ x + (v + 1))) := sm_congr fun x _ => by
    rw [Tx_sum hp]
    exact sm_congr fun v _ => by rw [La_lb hp he, Nat.add_assoc]
  rw [e1, sm_swap, show (fun v => sm p fun x => io (decide (¬ p ∣ x + (v + 1)))) = fun v => sm p fun x => io (decide (¬ p ∣ x + (v + 1))) from rfl]
  rw [← sm_const]
  exact sm_congr fun v hv => cnt1 hp (by omega) (by omega)
theorem S2 (hp : Pr p) (he : e * d = p - 1) (hK : K < p) : sm p (fun x => sm p fun y => Tx p e K x y * (Tx p e K x y * io (La p d y))) ≤ K * (K * ((e : Int) - 1) + (p - e)) := by
  have e1 : sm p (fun x => sm p fun y => Tx p e K x y * (Tx p e K x y * io (La p d y))) = sm p fun x => sm K fun v => sm K fun v' => io (La p d (lb p e (x + (v + 1))) && decide (lb p e (x + (v' + 1)) = lb p e (x + (v + 1)))) := sm_congr fun x _ => by
    rw [Tx_sum hp]
    refine sm_congr fun v _ => ?_
    unfold Tx
    rw [Int.mul_comm, ← sm_mul]
    exact sm_congr fun v' _ => by rw [io_mul, Nat.add_assoc, Nat.add_assoc]
  rw [e1, sm_swap]
  have e2 : ∀ v, v < K → sm p (fun x => sm K fun v' => io (La p d (lb p e (x + (v + 1))) && decide (lb p e (x + (v' + 1)) = lb p e (x + (v + 1))))) ≤ K * ((e : Int) - 1) + (p - e) := fun v hv => by
    rw [sm_swap]
    have e3 : sm K (fun v' => ((e : Int) - 1) + io (decide (v = v')) * ((p : Int) - e)) = K * ((e : Int) - 1) + (p - e) := by
      rw [sm_add, sm_const, sm_pick, if_pos hv]
    rw [← e3]
    refine sm_le fun v' hv' => ?_
    by_cases h : v = v'
    · subst h
      rw [decide_eq_true rfl, io_t]
      have e4 : sm p (fun x => io (La p d (lb p e (x + (v + 1))) && decide (lb p e (x + (v + 1)) = lb p e (x + (v + 1))))) = sm p fun x => io (decide (¬ p ∣ x + (v + 1))) := sm_congr fun x _ => by
        rw [decide_eq_true rfl, Bool.and_true, La_lb hp he]
      rw [e4, cnt1 hp (by omega) (by omega)]
      omega
    · rw [decide_eq_false h, io_f]
      have := cntne hp he (c := v + 1) (c' := v' + 1) (by omega) (by omega) (by omega)
      omega
  have := sm_le e2
  rwa [sm_const] at this
theorem spread (hp : Pr p) (he : e * d = p - 1) (hK : K < p) : sm p (fun x => sm p fun y => io (La p d y) * ((d * Tx p e K x y - K) * (d * Tx p e K x y - K))) ≤ d * d * K * p := by
  obtain ⟨k1, k2⟩ := ed_pos hp he
  have h1 := S1 hp he hK
  have h2 := S2 hp he hK
  have h3 : sm p (fun x => sm p fun y => io (La p d y)) ≤ p * (d : Int) := by
    rw [← sm_const]
    exact sm_le fun x _ => cntL hp k2
  have e1 : sm p (fun x => sm p fun y => io (La p d y) * ((d * Tx p e K x y - K) * (d * Tx p e K x y - K))) =
      d * d * sm p (fun x => sm p fun y => Tx p e K x y * (Tx p e K x y * io (La p d y))) + ((-2 * d * K) * sm p (fun x => sm p fun y => Tx p e K x y * io (La p d y)) + K * K * sm p (fun x => sm p fun y => io (La p d y))) := by
    rw [← sm_mul, ← sm_mul, ← sm_mul, ← sm_add, ← sm_add]
    refine sm_congr fun x _ => ?_
    rw [← sm_mul, ← sm_mul, ← sm_mul, ← sm_add, ← sm_add]
    refine sm_congr fun y _ => ?_
    generalize io (La p d y) = i
    generalize Tx p e K x y = t
    grind
  rw [e1, h1]
  have hde : (e : Int) * d = p - 1 := by
    have := hp.two
    have : ((e * d : Nat) : Int) = ((p - 1 : Nat) : Int) := by rw [he]
    rw [Int.natCast_mul] at this
    omega
  have a1 : (d : Int) * d * sm p (fun x => sm p fun y => Tx p e K x y * (Tx p e K x y * io (La p d y))) ≤ d * d * (K * (K * ((e : Int) - 1) + (p - e))) := Int.mul_le_mul_of_nonneg_left h2 (by exact_mod_cast Nat.zero_le (d * d))
  have a2 : (K : Int) * K * sm p (fun x => sm p fun y => io (La p d y)) ≤ K * K * (p * d) := Int.mul_le_mul_of_nonneg_left h3 (by exact_mod_cast Nat.zero_le (K * K))
  have a3 : (d : Int) * d * (K * (K * ((e : Int) - 1) + (p - e))) + ((-2 * d * K) * (K * ((p : Int) - 1)) + K * K * (p * d)) = d * d * K * p - (K * K * d * (d - 1) + d * K * (p - 1)) := by
    grind
  have a4 : 0 ≤ (K : Int) * K * d * (d - 1) := by
    have : (0 : Int) ≤ ((K * K * d : Nat) : Int) * ((d - 1 : Nat) : Int) := by exact_mod_cast Nat.zero_le _
    rw [Int.natCast_mul, Int.natCast_mul, show ((d - 1 : Nat) : Int) = (d : Int) - 1 by omega] at this
    exact this
  have a5 : 0 ≤ (d : Int) * K * (p - 1) := by
    have hp2 := hp.two
    have : (0 : Int) ≤ ((d * K : Nat) : Int) * ((p - 1 : Nat) : Int) := by exact_mod_cast Nat.zero_le _
    rw [Int.natCast_mul, show ((p - 1 : Nat) : Int) = (p : Int) - 1 by omega] at this
    exact this
  omega
/-- the pairs of which the sum's label is in S -/
def NS (p e K : Nat) (S : Nat → Bool) : Int := sm K fun x => sm K fun v => io (S (lb p e (x + v + 1)))
theorem few (hp : Pr p) (he : e * d = p - 1) (hK : 2 * K < p) (S : Nat → Bool) {m : Nat} (hm : sm p (fun y => io (La p d y && S y)) ≤ m) (c : Nat) : 2 * c * (d * NS p e K S - m * (K * K)) ≤ (d : Int) * K * (p + m * (c * c)) := by
  obtain ⟨k1, k2⟩ := ed_pos hp he
  have hw := spread hp he (show K < p by omega)
  have turn : ∀ x, x < K → 2 * d * c * (d * sm K (fun v => io (S (lb p e (x + v + 1)))) - m * K) ≤ sm p (fun y => io (La p d y) * ((d * Tx p e K x y - K) * (d * Tx p e K x y - K))) + m * (d * d * (c * c)) := fun x hx => by
    have e1 : sm K (fun v => io (S (lb p e (x + v + 1)))) = sm p fun y => Tx p e K x y * io (La p d y && S y) := by
      rw [Tx_sum hp]
      refine sm_congr fun v hv => ?_
      rw [La_lb hp he, show decide (¬ p ∣ x + v + 1) = true from decide_eq_true (not_dvd_of (by omega) (by omega)), Bool.true_and]
    have e2 : 2 * d * c * (d * sm p (fun y => Tx p e K x y * io (La p d y && S y)) - K * sm p (fun y => io (La p d y && S y))) = sm p fun y => io (La p d y && S y) * (2 * (d * c) * (d * Tx p e K x y - K)) := by
      rw [← sm_mul, ← sm_mul, Int.sub_eq_add_neg, ← Int.neg_one_mul, ← sm_mul, ← sm_add, ← sm_mul]
      refine sm_congr fun y _ => ?_
      generalize io (La p d y && S y) = i
      generalize Tx p e K x y = t
      grind
    have e3 : sm p (fun y => io (La p d y && S y) * (2 * (d * c) * (d * Tx p e K x y - K))) ≤ sm p (fun y => io (La p d y) * ((d * Tx p e K x y - K) * (d * Tx p e K x y - K)) + d * d * (c * c) * io (La p d y && S y)) := sm_le fun y _ => by
      have := amgm (d * Tx p e K x y - K) (d * c)
      have h0 := amgm (d * Tx p e K x y - K) 0
      cases La p d y with
      | false => rw [Bool.false_and, io_f]; omega
      | true =>
        rw [Bool.true_and]
        cases S y with
        | false => rw [io_f, io_t]; omega
        | true =>
          rw [io_t]
          have e5 : (d : Int) * c * (d * c) = d * d * (c * c) := by grind
          omega
    rw [sm_add, sm_mul] at e3
    have e4 : (d : Int) * d * (c * c) * sm p (fun y => io (La p d y && S y)) ≤ d * d * (c * c) * m := Int.mul_le_mul_of_nonneg_left hm (by exact_mod_cast Nat.zero_le (d * d * (c * c)))
    have e5 : (2 * d * c * K : Int) * sm p (fun y => io (La p d y && S y)) ≤ 2 * d * c * K * m := Int.mul_le_mul_of_nonneg_left hm (by exact_mod_cast Nat.zero_le (2 * d * c * K))
    rw [e1]
    rw [← e2] at e3
    have e6 : (2 * d * c : Int) * (d * sm p (fun y => Tx p e K x y * io (La p d y && S y)) - K * sm p (fun y => io (La p d y && S y))) = 2 * d * c * (d * sm p (fun y => Tx p e K x y * io (La p d y && S y))) - 2 * d * c * K * sm p (fun y => io (La p d y && S y)) := by grind
    have e7 : (2 * d * c : Int) * (d * sm p (fun y => Tx p e K x y * io (La p d y && S y)) - m * K) = 2 * d * c * (d * sm p (fun y => Tx p e K x y * io (La p d y && S y))) - 2 * d * c * K * m := by grind
    have e8 : (d : Int) * d * (c * c) * m = m * (d * d * (c * c)) := by grind
    omega
  have t2 := sm_le turn
  rw [sm_add, sm_const] at t2
  have t3 : sm K (fun x => sm p (fun y => io (La p d y) * ((d * Tx p e K x y - K) * (d * Tx p e K x y - K)))) ≤ d * d * K * p := Int.le_trans (sm_mono (fun x => sm_nonneg fun y _ => Int.mul_nonneg (io_nn _) (by
    have := amgm (d * Tx p e K x y - K) 0
    omega)) (by omega)) hw
  have t4 : sm K (fun x => 2 * d * c * (d * sm K (fun v => io (S (lb p e (x + v + 1)))) - m * K)) = d * (2 * c * (d * NS p e K S - m * (K * K))) := by
    have t5 : sm K (fun x => 2 * d * c * (d * sm K (fun v => io (S (lb p e (x + v + 1)))) - m * K)) = sm K (fun x => 2 * d * c * d * sm K (fun v => io (S (lb p e (x + v + 1)))) + -(2 * d * c * (m * K))) := sm_congr fun x _ => by
      generalize sm K _ = s
      grind
    rw [t5, sm_add, sm_mul, sm_const]
    show 2 * d * c * d * NS p e K S + _ = _
    generalize NS p e K S = n
    grind
  rw [t4] at t2
  have t6 : (d : Int) * (2 * c * (d * NS p e K S - m * (K * K))) ≤ d * (d * K * (p + m * (c * c))) := by
    have : (d : Int) * (d * K * (p + m * (c * c))) = d * d * K * p + K * (m * (d * d * (c * c))) := by grind
    omega
  exact Int.le_of_mul_le_mul_left t6 (by omega)
end
end NT

/-! # NT7: the least full number of a prime to 10 ** 9 is at most 2 ** 24 -/
set_option maxRecDepth 10000
namespace NT
section
variable {p : Nat}
theorem ones_ne (hp : Pr p) {n : Nat} (hn : 1 ≤ n) (Q : Nat → Bool) (h1 : Q 1 = false) : sm p (fun y => io (decide (y ^ n % p = 1) && Q y)) ≤ (n : Int) - 1 := by
  have hp2 := hp.two
  rw [show (n : Int) - 1 = ((n - 1 : Nat) : Int) by omega]
  refine sm_cnt_le ?_
  generalize hL : (List.range p).filter _ = L
  have hx : ∀ x ∈ L, x < p ∧ x ^ n % p = 1 ∧ Q x = true := fun x hm => by
    rw [← hL, List.mem_filter, Bool.and_eq_true] at hm
    exact ⟨List.mem_range.mp hm.1, of_decide_eq_true hm.2.1, hm.2.2⟩
  have nd : L.Nodup := hL ▸ range_nd p _
  have nd2 : (1 :: L).Nodup := List.nodup_cons.mpr ⟨fun hm => Bool.noConfusion (h1.symm.trans (hx 1 hm).2.2), nd⟩
  have := ones_le hp hn nd2 fun x hm => by
    rcases List.mem_cons.mp hm with z | z
    · subst z; exact ⟨by omega, by rw [Nat.one_pow, Nat.mod_eq_of_lt (by omega)]⟩
    · exact ⟨(hx x z).1, (hx x z).2.1⟩
  rw [List.length_cons] at this
  omega
theorem ones_all (hp : Pr p) {n : Nat} (hn : 1 ≤ n) : sm p (fun y => io (decide (y ^ n % p = 1))) ≤ n := sm_cnt_le (ones_le hp hn (range_nd p _) fun x hm => by
  rw [List.mem_filter] at hm
  exact ⟨List.mem_range.mp hm.1, of_decide_eq_true hm.2⟩)
theorem one_md (hp : Pr p) (n : Nat) : 1 ^ n % p = 1 := by
  have := hp.two
  rw [Nat.one_pow, Nat.mod_eq_of_lt (by omega)]
def SA6 (p y : Nat) : Bool := decide (y ^ 3 % p = 1) || decide (y ^ 2 % p = 1)
def Sq6 (p q y : Nat) : Bool := decide (y ^ 6 % p = 1) && (!decide (y ^ (3 * q) % p = 1) && !decide (y ^ (2 * q) % p = 1))
def SA2 (p y : Nat) : Bool := decide (y ^ 1 % p = 1)
def Sq2 (p q y : Nat) : Bool := decide (y ^ 2 % p = 1) && !decide (y ^ q % p = 1)
theorem setA6 (hp : Pr p) : sm p (fun y => io (La p 6 y && SA6 p y)) ≤ (4 : Nat) := by
  have h1 := ones_all hp (n := 2) (by decide)
  have h2 := ones_ne hp (n := 3) (by decide) (fun y => !decide (y ^ 2 % p = 1)) (by rw [decide_eq_true (one_md hp 2)]; rfl)
  have h3 : sm p (fun y => io (La p 6 y && SA6 p y)) ≤ sm p (fun y => io (decide (y ^ 2 % p = 1)) + io (decide (y ^ 3 % p = 1) && !decide (y ^ 2 % p = 1))) := sm_le fun y _ => by
    unfold SA6
    cases La p 6 y <;> cases decide (y ^ 3 % p = 1) <;> cases decide (y ^ 2 % p = 1) <;> decide
  rw [sm_add] at h3
  omega
theorem setA2 (hp : Pr p) : sm p (fun y => io (La p 2 y && SA2 p y)) ≤ (1 : Nat) := by
  have h1 := ones_all hp (n := 1) (by decide)
  have h3 : sm p (fun y => io (La p 2 y && SA2 p y)) ≤ sm p (fun y => io (decide (y ^ 1 % p = 1))) := sm_le fun y _ => by
    unfold SA2
    cases La p 2 y <;> cases decide (y ^ 1 % p = 1) <;> decide
  omega
theorem setq2 (hp : Pr p) (q : Nat) : sm p (fun y => io (La p (2 * q) y && Sq2 p q y)) ≤ (1 : Nat) := by
  have h2 := ones_ne hp (n := 2) (by decide) (fun y => !decide (y ^ q % p = 1)) (by rw [decide_eq_true (one_md hp q)]; rfl)
  have h3 : sm p (fun y => io (La p (2 * q) y && Sq2 p q y)) ≤ sm p (fun y => io (decide (y ^ 2 % p = 1) && !decide (y ^ q % p = 1))) := sm_le fun y _ => by
    unfold Sq2
    cases La p (2 * q) y <;> cases decide (y ^ 2 % p = 1) <;> cases decide (y ^ q % p = 1) <;> decide
  omega
theorem int_mod1 {a : Nat} (hp : Pr p) : (p : Int) ∣ (a : Int) - 1 ↔ a % p = 1 := by
  have hp2 := hp.two
  constructor
  · intro h
    have h2 : (a : Int) % p = 1 % p := Int.emod_eq_emod_iff_emod_sub_eq_zero.mpr (Int.emod_eq_zero_of_dvd h)
    have h3 : ((a % p : Nat) : Int) = ((1 % p : Nat) : Int) := by exact_mod_cast h2
    have : a % p = 1 % p := by exact_mod_cast h3
    rw [this, Nat.mod_eq_of_lt (by omega)]
  · intro h
    have := mod_dvd_int (p := p) (a := a) (b := 1) (by rw [h, Nat.mod_eq_of_lt (by omega)])
    exact this
theorem setq6 (hp : Pr p) (q : Nat) : sm p (fun y => io (La p (6 * q) y && Sq6 p q y)) ≤ (2 : Nat) := by
  have hp2 := hp.two
  refine sm_cnt_le ?_
  generalize hL : (List.range p).filter _ = L
  have hx : ∀ x ∈ L, x < p ∧ x ^ 6 % p = 1 ∧ x ^ 3 % p ≠ 1 ∧ x ^ 2 % p ≠ 1 := fun x hm => by
    rw [← hL, List.mem_filter] at hm
    unfold Sq6 at hm
    simp only [Bool.and_eq_true, Bool.not_eq_true', decide_eq_true_eq, decide_eq_false_iff_not] at hm
    obtain ⟨a1, a2, a3, a4, a5⟩ := hm
    exact ⟨List.mem_range.mp a1, a3, fun z => a4 (pow_mul_one hp2 q z), fun z => a5 (pow_mul_one hp2 q z)⟩
  have nd : L.Nodup := hL ▸ range_nd p _
  have hm : Monic 2 [1, -1, 1] := .cons 1 (.cons (-1) .one)
  have := roots_le hp hm (xs := L.map (Int.ofNat ·)) (fun z hz => by
    obtain ⟨y, hy, rfl⟩ := List.mem_map.mp hz
    obtain ⟨_, b1, b2, b3⟩ := hx y hy
    have c1 : (p : Int) ∣ ((y ^ 6 : Nat) : Int) - 1 := (int_mod1 hp).mpr b1
    have c2 : ¬ (p : Int) ∣ ((y ^ 3 : Nat) : Int) - 1 := fun z => b2 ((int_mod1 hp).mp z)
    have c3 : ¬ (p : Int) ∣ ((y ^ 2 : Nat) : Int) - 1 := fun z => b3 ((int_mod1 hp).mp z)
    rw [Int.natCast_pow] at c1 c2 c3
    show (p : Int) ∣ 1 + (y : Int) * (-1 + y * (1 + y * 0))
    generalize (y : Int) = t at c1 c2 c3
    have e1 : t ^ 6 - 1 = (t ^ 3 - 1) * ((t + 1) * (1 + t * (-1 + t * (1 + t * 0)))) := by grind
    rw [e1] at c1
    rcases int_pr hp c1 with w | w
    · exact absurd w c2
    · rcases int_pr hp w with w | w
      · refine absurd ?_ c3
        have e2 : t ^ 2 - 1 = (t + 1) * (t - 1) := by grind
        rw [e2]
        exact Int.dvd_mul_of_dvd_left w
      · exact w) (by
    rw [List.pairwise_map]
    refine (List.nodup_iff_pairwise_ne.mp nd).imp_of_mem fun {a b} ha hb hne hd => hne ?_
    exact (int_small (hx b hb).1 (hx a ha).1 hd).symm)
  simpa using this
end
/-! the cover -/
def NB (K : Nat) (B : Nat → Bool) : Int := sm K fun x => sm K fun v => io (B (x + v + 1))
def ls (f : Nat → Int) : List Nat → Int
  | [] => 0
  | q :: l => f q + ls f l
theorem ls_le {f g : Nat → Int} : ∀ {l : List Nat}, (∀ q ∈ l, f q ≤ g q) → ls f l ≤ ls g l
  | [], _ => Int.le_refl _
  | q :: l, h => by
    show f q + _ ≤ g q + _
    have := h q List.mem_cons_self
    have := ls_le fun x hx => h x (List.mem_cons_of_mem q hx)
    omega
theorem ls_mul (c : Int) (f : Nat → Int) : ∀ l : List Nat, c * ls f l = ls (fun q => c * f q) l
  | [] => Int.mul_zero c
  | q :: l => by show c * (f q + _) = c * f q + _; rw [Int.mul_add, ls_mul c f l]
theorem ls_nn {f : Nat → Int} (h : ∀ q, 0 ≤ f q) : ∀ l : List Nat, 0 ≤ ls f l
  | [] => Int.le_refl _
  | q :: l => by
    show 0 ≤ f q + _
    have := h q
    have := ls_nn h l
    omega
theorem ls_one {f : Nat → Int} (h : ∀ q, 0 ≤ f q) : ∀ {l : List Nat} {q : Nat}, q ∈ l → f q ≤ ls f l
  | x :: l, q, hm => by
    show _ ≤ f x + _
    rcases List.mem_cons.mp hm with z | z
    · subst z
      have := ls_nn h l
      omega
    · have := ls_one h z
      have := h x
      omega
theorem ls_NB (K : Nat) (B : Nat → Nat → Bool) : ∀ l : List Nat, ls (fun q => NB K (B q)) l = sm K fun x => sm K fun v => ls (fun q => io (B q (x + v + 1))) l
  | [] => by
    show (0 : Int) = sm K fun x => sm K fun v => 0
    rw [sm_zero, sm_zero]
  | q :: l => by
    show NB K (B q) + _ = sm K fun x => sm K fun v => io (B q (x + v + 1)) + _
    rw [ls_NB K B l]
    unfold NB
    rw [← sm_add]
    exact sm_congr fun x _ => by rw [← sm_add]
theorem cover {K : Nat} {B0 : Nat → Bool} {B : Nat → Nat → Bool} {l : List Nat} (h : ∀ a, 1 ≤ a → a < 2 * K → B0 a = true ∨ ∃ q ∈ l, B q a = true) : (K : Int) * K ≤ NB K B0 + ls (fun q => NB K (B q)) l := by
  rw [ls_NB]
  unfold NB
  rw [← sm_add]
  have e : (K : Int) * K = sm K fun x => sm K fun v => 1 := by rw [sm_const, sm_const]; simp
  rw [e]
  refine sm_le fun x hx => ?_
  rw [← sm_add]
  refine sm_le fun v hv => ?_
  have n1 := io_nn (B0 (x + v + 1))
  have n2 := ls_nn (f := fun q => io (B q (x + v + 1))) (fun q => io_nn _) l
  rcases h (x + v + 1) (by omega) (by omega) with z | ⟨q, hq, z⟩
  · rw [z, io_t]; omega
  · have := ls_one (f := fun q => io (B q (x + v + 1))) (fun q => io_nn _) hq
    rw [z, io_t] at this
    omega
/-! rising odd numbers -/
def sf (f : Nat → Int) (n : Nat) : Nat → Int
  | 0 => 0
  | k + 1 => f n + sf f (n + 2) k
def pf (n : Nat) : Nat → Nat
  | 0 => 1
  | k + 1 => n * pf (n + 2) k
theorem sf_mono {f : Nat → Int} (h : ∀ q, 0 ≤ f q) : ∀ {k m n : Nat}, k ≤ m → sf f n k ≤ sf f n m
  | 0, m, n, _ => by
    have : ∀ m n, 0 ≤ sf f n m := fun m => by
      induction m with
      | zero => exact fun _ => Int.le_refl _
      | succ m ih => intro n; show 0 ≤ f n + _; have := ih (n + 2); have := h n; omega
    exact this m n
  | k + 1, 0, n, hl => by omega
  | k + 1, m + 1, n, hl => by
    show f n + _ ≤ f n + _
    have := sf_mono h (k := k) (m := m) (n := n + 2) (by omega)
    omega
theorem pf_mono : ∀ {k m n : Nat}, 1 ≤ n → k ≤ m → pf n k ≤ pf n m
  | 0, m, n, hn, _ => by
    have : ∀ m n, 1 ≤ n → 1 ≤ pf n m := fun m => by
      induction m with
      | zero => exact fun _ _ => Nat.le_refl _
      | succ m ih => intro n hn; exact Nat.mul_le_mul hn (ih (n + 2) (by omega))
    exact this m n hn
  | k + 1, 0, n, _, hl => by omega
  | k + 1, m + 1, n, hn, hl => Nat.mul_le_mul_left n (pf_mono (by omega) (by omega))
theorem odd_ls {f : Nat → Int} (hf : ∀ a b, a ≤ b → f b ≤ f a) : ∀ {l : List Nat} {n : Nat}, n % 2 = 1 → l.Pairwise (· < ·) → (∀ q ∈ l, n ≤ q ∧ q % 2 = 1) → ls f l ≤ sf f n l.length ∧ pf n l.length ≤ prod l
  | [], n, _, _, _ => ⟨Int.le_refl _, Nat.le_refl _⟩
  | q :: l, n, hn, hp, h => by
    obtain ⟨h1, h2⟩ := List.pairwise_cons.mp hp
    obtain ⟨a1, a2⟩ := h q List.mem_cons_self
    obtain ⟨b1, b2⟩ := odd_ls hf (l := l) (n := n + 2) (by omega) h2 fun x hx => by
      have := h1 x hx
      have := (h x (List.mem_cons_of_mem q hx)).2
      omega
    refine ⟨?_, Nat.mul_le_mul a1 b2⟩
    show f q + _ ≤ f n + _
    have := hf n q a1
    omega
theorem prod_sub {l m : List Nat} (h : l.Sublist m) (hm : ∀ x ∈ m, 1 ≤ x) : prod l ≤ prod m := by
  induction h with
  | slnil => exact Nat.le_refl _
  | @cons l m a _ ih =>
    refine Nat.le_trans (ih fun x hx => hm x (List.mem_cons_of_mem _ hx)) ?_
    exact Nat.le_mul_of_pos_left _ (hm a List.mem_cons_self)
  | @cons_cons l m a _ ih => exact Nat.mul_le_mul_left a (ih fun x hx => hm x (List.mem_cons_of_mem _ hx))
theorem prod_whole : ∀ {l : List (Nat × Nat)}, (∀ x ∈ l, Pr x.1 ∧ 1 ≤ x.2) → prod (l.map (·.1)) ≤ whole l
  | [], _ => Nat.le_refl _
  | x :: l, h => by
    obtain ⟨h1, h2⟩ := h x List.mem_cons_self
    have ih := prod_whole fun y hy => h y (List.mem_cons_of_mem x hy)
    show x.1 * _ ≤ x.1 ^ x.2 * whole l
    refine Nat.mul_le_mul ?_ ih
    calc x.1 = x.1 ^ 1 := (Nat.pow_one _).symm
      _ ≤ x.1 ^ x.2 := Nat.pow_le_pow_right h1.pos h2
/-! the end -/
def cost (b : Int) (q : Nat) : Int := ((70368744177664 / q : Nat) : Int) + b * (44722 * 8388608)
theorem qcost {b N : Int} {q : Nat} (hq : 1 ≤ q) (hb : 0 ≤ b) (h : (q : Int) * (b * N) ≤ 70368744177664 + q * (b * (44722 * 8388608))) : b * N ≤ cost b q := by
  unfold cost
  have h2 : (b * N - b * (44722 * 8388608)) * q ≤ 70368744177664 := by
    have : (b * N - b * (44722 * 8388608)) * q = q * (b * N) - q * (b * (44722 * 8388608)) := by grind
    omega
  have h3 := Int.le_ediv_of_mul_le (by omega : (0 : Int) < q) h2
  have h4 : ((70368744177664 / q : Nat) : Int) = (70368744177664 : Int) / q := by rw [Int.natCast_ediv]; rfl
  omega
theorem cost_anti {b : Int} {a c : Nat} (ha : 1 ≤ a) (h : a ≤ c) : cost b c ≤ cost b a := by
  unfold cost
  have : 70368744177664 / c ≤ 70368744177664 / a := Nat.div_le_div_left h ha
  have : ((70368744177664 / c : Nat) : Int) ≤ ((70368744177664 / a : Nat) : Int) := by exact_mod_cast this
  omega
theorem clash {p : Nat} {b : Int} (hb : b = 2 ∨ b = 3) {B0 : Nat → Bool} {B : Nat → Nat → Bool} {l : List Nat} (hl : l.Pairwise (· < ·)) (ho : ∀ q ∈ l, 5 ≤ q ∧ q % 2 = 1) (hw : prod l ≤ 1000000000)
    (h : ∀ a, 1 ≤ a → a < 2 * 8388608 → B0 a = true ∨ ∃ q ∈ l, B q a = true) (h0 : b * NB 8388608 B0 ≤ (b - 1) * 70368744177664 + b * (63246 * 8388608)) (hq : ∀ q ∈ l, b * NB 8388608 (B q) ≤ cost b q) : False := by
  have c : (70368744177664 : Int) ≤ NB 8388608 B0 + ls (fun q => NB 8388608 (B q)) l := cover h
  have hb0 : 0 ≤ b := by omega
  -- costs from 5 on: a stand-in that falls everywhere
  let f : Nat → Int := fun q => cost b (max q 1)
  have ff : ∀ a c, a ≤ c → f c ≤ f a := fun a c hac => cost_anti (by omega) (by omega)
  have fn : ∀ q, 0 ≤ f q := fun q => by
    show 0 ≤ cost b (max q 1)
    unfold cost
    have : (0 : Int) ≤ ((70368744177664 / max q 1 : Nat) : Int) := Int.natCast_nonneg _
    omega
  obtain ⟨o1, o2⟩ := odd_ls ff (n := 5) (by decide) hl ho
  have hlen : l.length ≤ 8 := Nat.le_of_not_lt fun z => by
    have := pf_mono (k := 9) (m := l.length) (n := 5) (by decide) z
    have e : pf 5 9 = 4583103525 := by decide +kernel
    omega
  have m1 := sf_mono fn (k := l.length) (m := 8) (n := 5) hlen
  have m2 : b * ls (fun q => NB 8388608 (B q)) l ≤ ls f l := by
    rw [ls_mul]
    refine ls_le fun q hm => ?_
    have := hq q hm
    have h5 := (ho q hm).1
    show _ ≤ cost b (max q 1)
    rw [Nat.max_eq_left (by omega)]
    exact this
  have m3 : b * (70368744177664 : Int) ≤ b * NB 8388608 B0 + b * ls (fun q => NB 8388608 (B q)) l := by
    rw [← Int.mul_add]
    exact Int.mul_le_mul_of_nonneg_left c hb0
  have m4 : sf f 5 8 = cost b 5 + (cost b 7 + (cost b 9 + (cost b 11 + (cost b 13 + (cost b 15 + (cost b 17 + (cost b 19 + 0))))))) := rfl
  rw [m4] at m1
  unfold cost at m1
  rw [show 70368744177664 / 5 = 14073748835532 from rfl, show 70368744177664 / 7 = 10052677739666 from rfl, show 70368744177664 / 9 = 7818749353073 from rfl, show 70368744177664 / 11 = 6397158561605 from rfl, show 70368744177664 / 13 = 5412980321358 from rfl, show 70368744177664 / 15 = 4691249611844 from rfl, show 70368744177664 / 17 = 4139337892803 from rfl, show 70368744177664 / 19 = 3703618114613 from rfl] at m1
  rcases hb with e | e
  · subst e
    omega
  · subst e
    omega
end NT

/-! # NT8: lfull p is at most 2 ^ 24 -/
set_option maxRecDepth 10000
namespace NT
theorem lb_pow {p e a k : Nat} : lb p e a ^ k % p = a ^ (e * k) % p := by
  unfold lb
  rw [← Nat.pow_mod, ← Nat.pow_mul]
theorem lfull_small {p : Nat} (hp : Pr p) (hB : p ≤ 1000000000) : lfull p ≤ 2 ^ 24 := by
  refine Nat.le_of_not_lt fun hlt => ?_
  obtain ⟨f1, f2, _, f4⟩ := lfull_is hp
  have hlt' : 16777216 < lfull p := hlt
  have hK : 2 * 8388608 < p := by omega
  have hN : 1 ≤ p - 1 := by omega
  have hl := part_is hN
  generalize part (p - 1) = l at hl f4
  have hodd : p % 2 = 1 := by
    rcases pr_odd hp with e | e
    · omega
    · exact e.2
  -- the primes from 5 on
  let qs : List Nat := (l.map (·.1)).filter fun q => decide (5 ≤ q)
  have hqs : ∀ q ∈ qs, 5 ≤ q ∧ Pr q ∧ q ∣ p - 1 ∧ q % 2 = 1 := fun q hm => by
    obtain ⟨h1, h2⟩ := List.mem_filter.mp hm
    have h5 : 5 ≤ q := of_decide_eq_true h2
    obtain ⟨x, hx, rfl⟩ := List.mem_map.mp h1
    have hq := (hl.pr x hx).1
    refine ⟨h5, hq, hl.dvd hx, ?_⟩
    rcases pr_odd hq with e | e
    · omega
    · exact e.2
  have hsub : qs.Sublist (l.map (·.1)) := List.filter_sublist
  have hup : qs.Pairwise (· < ·) := List.Pairwise.sublist hsub (List.pairwise_map.mpr hl.up)
  have hw : prod qs ≤ 1000000000 := by
    have h1 := prod_sub hsub fun x hx => by
      obtain ⟨y, hy, rfl⟩ := List.mem_map.mp hx
      exact (hl.pr y hy).1.pos
    have h2 := prod_whole hl.pr
    rw [hl.wh] at h2
    omega
  -- what fails where a is not full
  have hbad : ∀ a, 1 ≤ a → a < 2 * 8388608 → ∃ q, (q = 2 ∨ q = 3 ∧ 3 ∣ p - 1 ∨ q ∈ qs) ∧ a ^ ((p - 1) / q) % p = 1 := fun a h1 h2 => by
    have h3 := f4 a h1 (by omega)
    unfold FullBy at h3
    obtain ⟨x, hx⟩ := Classical.not_forall.mp h3
    obtain ⟨hm, hx⟩ := Classical.not_imp.mp hx
    refine ⟨x.1, ?_, Classical.not_not.mp hx⟩
    have hq := (hl.pr x hm).1
    by_cases h5 : 5 ≤ x.1
    · exact .inr (.inr (List.mem_filter.mpr ⟨List.mem_map.mpr ⟨x, hm, rfl⟩, decide_eq_true h5⟩))
    · have h2 := hq.two
      rcases pr_odd hq with e | e
      · exact .inl e
      · have e3 : x.1 = 3 := by omega
        exact .inr (.inl ⟨e3, e3 ▸ hl.dvd hm⟩)
  by_cases h3 : 3 ∣ p - 1
  · -- 6 divides
    obtain ⟨e, he⟩ : ∃ e, p - 1 = e * 6 := ⟨(p - 1) / 6, by omega⟩
    have hd : ∀ q ∈ qs, ∃ e', p - 1 = e' * (6 * q) := fun q hm => by
      obtain ⟨h5, hq, ⟨k, hk⟩, ho⟩ := hqs q hm
      have c2 : Nat.Coprime q 2 := hq.cop fun z => by have := Nat.le_of_dvd (by decide) z; omega
      have c3 : Nat.Coprime q 3 := hq.cop fun z => by have := Nat.le_of_dvd (by decide) z; omega
      have c6 : Nat.Coprime q 6 := Nat.Coprime.mul_right c2 c3
      have : 6 * q ∣ p - 1 := Nat.Coprime.mul_dvd_of_dvd_of_dvd c6.symm ⟨e, by omega⟩ ⟨k, hk⟩
      obtain ⟨e', h⟩ := this
      exact ⟨e', by rw [h, Nat.mul_comm]⟩
    have hd' : ∀ q, ∃ e', q ∈ qs → p - 1 = e' * (6 * q) := fun q => by
      by_cases h : q ∈ qs
      · obtain ⟨e', h'⟩ := hd q h
        exact ⟨e', fun _ => h'⟩
      · exact ⟨0, fun z => absurd z h⟩
    let E : Nat → Nat := fun q => Classical.choose (hd' q)
    have hE : ∀ q ∈ qs, p - 1 = E q * (6 * q) := fun q h => Classical.choose_spec (hd' q) h
    refine clash (p := p) (b := 3) (.inr rfl) (B0 := fun a => SA6 p (lb p e a)) (B := fun q a => Sq6 p q (lb p (E q) a)) hup (fun q h => ⟨(hqs q h).1, (hqs q h).2.2.2⟩) hw (fun a h1 h2 => ?_) ?_ fun q hm => ?_
    · cases hc : SA6 p (lb p e a) with
      | true => exact .inl rfl
      | false =>
        refine .inr ?_
        unfold SA6 at hc
        rw [Bool.or_eq_false_iff, lb_pow, lb_pow] at hc
        have n2 := of_decide_eq_false hc.1
        have n3 := of_decide_eq_false hc.2
        obtain ⟨q, hq, hz⟩ := hbad a h1 h2
        rcases hq with rfl | ⟨rfl, _⟩ | hq
        · rw [show (p - 1) / 2 = e * 3 by omega] at hz; exact absurd hz n2
        · rw [show (p - 1) / 3 = e * 2 by omega] at hz; exact absurd hz n3
        · refine ⟨q, hq, ?_⟩
          have h5 := (hqs q hq).1
          have hEq := hE q hq
          have k1 : (p - 1) / q = E q * 6 := by rw [hEq, ← Nat.mul_assoc, Nat.mul_div_cancel _ (by omega)]
          have k2 : E q * (3 * q) = e * 3 := by
            have : 2 * (E q * (3 * q)) = 2 * (e * 3) := by
              rw [show 2 * (e * 3) = e * 6 by omega, ← he, hEq, Nat.mul_left_comm, ← Nat.mul_assoc 2]
            omega
          have k3 : E q * (2 * q) = e * 2 := by
            have : 3 * (E q * (2 * q)) = 3 * (e * 2) := by
              rw [show 3 * (e * 2) = e * 6 by omega, ← he, hEq, Nat.mul_left_comm, ← Nat.mul_assoc 3]
            omega
          unfold Sq6
          rw [lb_pow, lb_pow, lb_pow, k2, k3, ← k1, decide_eq_true hz, decide_eq_false n2, decide_eq_false n3]
          rfl
    · have h := few hp he.symm hK (SA6 p) (setA6 hp) 15811
      have e1 : NS p e 8388608 (SA6 p) = NB 8388608 fun a => SA6 p (lb p e a) := rfl
      rw [e1] at h
      generalize NB 8388608 (fun a => SA6 p (lb p e a)) = N at h
      omega
    · have h5 := (hqs q hm).1
      have h := few hp (hE q hm).symm hK (Sq6 p q) (setq6 hp q) 22361
      have e1 : NS p (E q) 8388608 (Sq6 p q) = NB 8388608 fun a => Sq6 p q (lb p (E q) a) := rfl
      rw [e1] at h
      refine qcost (by omega) (by decide) ?_
      show (q : Int) * (3 * NB 8388608 fun a => Sq6 p q (lb p (E q) a)) ≤ _
      generalize NB 8388608 (fun a => Sq6 p q (lb p (E q) a)) = N at h ⊢
      have r1 : ((6 * q : Nat) : Int) * (8388608 : Nat) * ((p : Int) + (2 : Nat) * ((22361 : Nat) * (22361 : Nat))) ≤ ((6 * q : Nat) : Int) * (8388608 : Nat) * 2000028642 := Int.mul_le_mul_of_nonneg_left (by omega) (by omega)
      have r2 : ((6 * q : Nat) : Int) * N = 6 * (q * N) := by rw [Int.natCast_mul, Int.mul_assoc]; rfl
      have r3 : (q : Int) * (3 * N) = 3 * (q * N) := by rw [Int.mul_left_comm]
      rw [r2] at h
      rw [r3]
      generalize (q : Int) * N = M at h ⊢
      omega
  · -- 6 does not divide
    obtain ⟨e, he⟩ : ∃ e, p - 1 = e * 2 := ⟨(p - 1) / 2, by omega⟩
    have hd : ∀ q ∈ qs, ∃ e', p - 1 = e' * (2 * q) := fun q hm => by
      obtain ⟨h5, hq, ⟨k, hk⟩, ho⟩ := hqs q hm
      have c2 : Nat.Coprime q 2 := hq.cop fun z => by have := Nat.le_of_dvd (by decide) z; omega
      have : 2 * q ∣ p - 1 := Nat.Coprime.mul_dvd_of_dvd_of_dvd c2.symm ⟨e, by omega⟩ ⟨k, hk⟩
      obtain ⟨e', h⟩ := this
      exact ⟨e', by rw [h, Nat.mul_comm]⟩
    have hd' : ∀ q, ∃ e', q ∈ qs → p - 1 = e' * (2 * q) := fun q => by
      by_cases h : q ∈ qs
      · obtain ⟨e', h'⟩ := hd q h
        exact ⟨e', fun _ => h'⟩
      · exact ⟨0, fun z => absurd z h⟩
    let E : Nat → Nat := fun q => Classical.choose (hd' q)
    have hE : ∀ q ∈ qs, p - 1 = E q * (2 * q) := fun q h => Classical.choose_spec (hd' q) h
    refine clash (p := p) (b := 2) (.inl rfl) (B0 := fun a => SA2 p (lb p e a)) (B := fun q a => Sq2 p q (lb p (E q) a)) hup (fun q h => ⟨(hqs q h).1, (hqs q h).2.2.2⟩) hw (fun a h1 h2 => ?_) ?_ fun q hm => ?_
    · cases hc : SA2 p (lb p e a) with
      | true => exact .inl rfl
      | false =>
        refine .inr ?_
        unfold SA2 at hc
        rw [lb_pow] at hc
        have n2 := of_decide_eq_false hc
        obtain ⟨q, hq, hz⟩ := hbad a h1 h2
        rcases hq with rfl | ⟨rfl, z⟩ | hq
        · rw [show (p - 1) / 2 = e * 1 by omega] at hz; exact absurd hz n2
        · exact absurd z h3
        · refine ⟨q, hq, ?_⟩
          have h5 := (hqs q hq).1
          have hEq := hE q hq
          have k1 : (p - 1) / q = E q * 2 := by rw [hEq, ← Nat.mul_assoc, Nat.mul_div_cancel _ (by omega)]
          have k2 : E q * q = e * 1 := by
            have : 2 * (E q * q) = 2 * (e * 1) := by
              rw [show 2 * (e * 1) = e * 2 by omega, ← he, hEq, Nat.mul_left_comm]
            omega
          unfold Sq2
          rw [lb_pow, lb_pow, k2, ← k1, decide_eq_true hz, decide_eq_false n2]
          rfl
    · have h := few hp he.symm hK (SA2 p) (setA2 hp) 22361
      have e1 : NS p e 8388608 (SA2 p) = NB 8388608 fun a => SA2 p (lb p e a) := rfl
      rw [e1] at h
      generalize NB 8388608 (fun a => SA2 p (lb p e a)) = N at h
      omega
    · have h5 := (hqs q hm).1
      have h := few hp (hE q hm).symm hK (Sq2 p q) (setq2 hp q) 22361
      have e1 : NS p (E q) 8388608 (Sq2 p q) = NB 8388608 fun a => Sq2 p q (lb p (E q) a) := rfl
      rw [e1] at h
      refine qcost (by omega) (by decide) ?_
      show (q : Int) * (2 * NB 8388608 fun a => Sq2 p q (lb p (E q) a)) ≤ _
      generalize NB 8388608 (fun a => Sq2 p q (lb p (E q) a)) = N at h ⊢
      have r1 : ((2 * q : Nat) : Int) * (8388608 : Nat) * ((p : Int) + (1 : Nat) * ((22361 : Nat) * (22361 : Nat))) ≤ ((2 * q : Nat) : Int) * (8388608 : Nat) * 1500014321 := Int.mul_le_mul_of_nonneg_left (by omega) (by omega)
      have r2 : ((2 * q : Nat) : Int) * N = 2 * (q * N) := by rw [Int.natCast_mul, Int.mul_assoc]; rfl
      have r3 : (q : Int) * (2 * N) = 2 * (q * N) := by rw [Int.mul_left_comm]
      rw [r2] at h
      rw [r3]
      generalize (q : Int) * N = M at h ⊢
      omega
end NT

set_option maxRecDepth 100000
set_option maxHeartbeats 1000000
/-! # DL: a data-level weakest-precondition calculus over the hand layer: immutable data D, a store of mutable objects, no addresses in sight. -/
namespace DL
open PySem PySem.Spec PyProof.Rows L2
open PySem.W (Frag)

/-- immutable data -/
inductive D where
  | non | bl (b : Bool) | int (i : Int) | str (s : Str) | tup (xs : List D) | lst (xs : List D) | dic (ks : List Key) (vs : List D) | raw (x : V) | scr (ns : List Int)
  | exn (a : Addr) (dd : Option Addr) (fs : Option (List (Str × V)))
/-- a value of the data level: data, or the k-th mutable object -/
inductive W where
  | d (x : D) | p (k : Nat)
/-- a mutable object -/
inductive MO where
  | lst (xs : List W) | dic (kvs : List (Key × W)) | ins (C : Addr) (fs : List (Str × W)) | dead

mutual
inductive Rep (K : Frag) (G : Hp) : V → D → Prop
  | non : Rep K G .non .non
  | bl (b : Bool) : Rep K G (.bl b) (.bl b)
  | int (i : Int) : Rep K G (.int i) (.int i)
  | str (s : Str) : Rep K G (.str s) (.str s)
  | tup {a : Addr} {vs : List V} {ds : List D} : SqT K G a vs → RepL K G vs ds → Rep K G (.ref a) (.tup ds)
  | lst {a : Addr} {vs : List V} {ds : List D} : G a = some (.lst vs) → RepL K G vs ds → Rep K G (.ref a) (.lst ds)
  | scr {a : Addr} {ns : List Int} : SqL K G a (ns.map V.int) → Rep K G (.ref a) (.scr ns)
  | dic {a : Addr} {kvs : List (Key × V)} {ks : List Key} {ds : List D} : Rd G a (.dK kvs) → kvs.map (·.1) = ks → RepL K G (kvs.map (·.2)) ds → Rep K G (.ref a) (.dic ks ds)
  | raw (x : V) : Rep K G x (.raw x)
  | exn0 (a : Addr) : Rep K G (.ref a) (.exn a none none)
  | exn {a d : Addr} {fs : List (Str × V)} : G d = some (.xd fs) → Rep K G (.ref a) (.exn a (some d) (some fs))
inductive RepL (K : Frag) (G : Hp) : List V → List D → Prop
  | nil : RepL K G [] []
  | cons {v : V} {vs : List V} {d : D} {ds : List D} : Rep K G v d → RepL K G vs ds → RepL K G (v :: vs) (d :: ds)
end

section
variable {K : Frag} {G G' : Hp}
theorem Same.rd {H H' : Hp} {a : Addr} {u : HO} (e : Same H H') (h : Rd H a u) : Rd H' a u := by
  rcases h with h | ⟨o, h⟩
  · exact .inl (e a _ h)
  · exact .inr ⟨o, e a _ h⟩
theorem same_sqL {H H' : Hp} {a : Addr} {xs : List V} (e : Same H H') (h : SqL K H a xs) : SqL K H' a xs := by
  rcases h with h | h
  · exact .inl (Same.rd e h)
  · exact .inr h
theorem same_sqT {H H' : Hp} {a : Addr} {xs : List V} (e : Same H H') (h : SqT K H a xs) : SqT K H' a xs := by
  rcases h with h | h
  · exact .inl (Same.rd e h)
  · exact .inr h
mutual
theorem Rep.mono (e : Same G G') : ∀ (d : D) (v : V), Rep K G v d → Rep K G' v d
  | .non, _, h => by cases h; exact .non
  | .bl b, _, h => by cases h; exact .bl b
  | .int i, _, h => by cases h; exact .int i
  | .str s, _, h => by cases h; exact .str s
  | .tup ds, _, h => by cases h with | tup q r => exact .tup (same_sqT e q) (RepL.mono e ds _ r)
  | .lst ds, _, h => by cases h with | lst q r => exact .lst (e _ _ q) (RepL.mono e ds _ r)
  | .scr ns, _, h => by cases h with | scr q => exact .scr (same_sqL e q)
  | .dic ks ds, _, h => by cases h with | dic q k r => exact .dic (Same.rd e q) k (RepL.mono e ds _ r)
  | .raw x, _, h => by cases h; exact .raw x
  | .exn a dd fs, _, h => by
    cases h with
    | exn0 => exact .exn0 a
    | exn q => exact .exn (e _ _ q)
theorem RepL.mono (e : Same G G') : ∀ (ds : List D) (vs : List V), RepL K G vs ds → RepL K G' vs ds
  | [], _, h => by cases h; exact .nil
  | d :: ds, _, h => by cases h with | cons q r => exact .cons (Rep.mono e d _ q) (RepL.mono e ds _ r)
end
theorem RepL.length : ∀ {vs : List V} {ds : List D}, RepL K G vs ds → vs.length = ds.length
  | [], [], _ => rfl
  | _ :: _, _ :: _, h => by cases h with | cons _ r => exact congrArg (· + 1) r.length
theorem RepL.get : ∀ {vs : List V} {ds : List D} {i : Nat} {d : D}, RepL K G vs ds → ds[i]? = some d → ∃ v, vs[i]? = some v ∧ Rep K G v d
  | [], [], i, d, _, h => by simp at h
  | v :: vs, d' :: ds, 0, d, r, h => by
    cases r with
    | cons q r =>
      have e : d' = d := by simpa using h
      subst e
      exact ⟨v, rfl, q⟩
  | v :: vs, d' :: ds, i + 1, d, r, h => by
    cases r with
    | cons q r =>
      obtain ⟨u, e, z⟩ := RepL.get (i := i) r (by simpa using h)
      exact ⟨u, by simpa using e, z⟩
theorem RepL.append : ∀ {vs us : List V} {ds es : List D}, RepL K G vs ds → RepL K G us es → RepL K G (vs ++ us) (ds ++ es)
  | [], _, [], _, _, h => h
  | _ :: _, _, _ :: _, _, .cons q r, h => .cons q (RepL.append r h)
theorem RepL.take : ∀ {vs : List V} {ds : List D} (n : Nat), RepL K G vs ds → RepL K G (vs.take n) (ds.take n)
  | [], [], n, _ => by simpa using (RepL.nil : RepL K G [] [])
  | _ :: _, _ :: _, 0, _ => .nil
  | _ :: _, _ :: _, n + 1, .cons q r => .cons q (RepL.take n r)
theorem RepL.drop : ∀ {vs : List V} {ds : List D} (n : Nat), RepL K G vs ds → RepL K G (vs.drop n) (ds.drop n)
  | [], [], n, _ => by simpa using (RepL.nil : RepL K G [] [])
  | _ :: _, _ :: _, 0, h => h
  | _ :: _, _ :: _, n + 1, .cons _ r => RepL.drop n r
end

def WRep (K : Frag) (G : Hp) (α : List Addr) (v : V) : W → Prop
  | .d x => Rep K G v x
  | .p k => ∃ a, v = .ref a ∧ α[k]? = some a
abbrev WRepL (K : Frag) (G : Hp) (α : List Addr) : List V → List W → Prop := Paired (WRep K G α)
def MRep (K : Frag) (G : Hp) (α : List Addr) (H : Hp) (p : Addr) : MO → Prop
  | .lst xs => G p = none ∧ ∃ vs, H p = some (.lst vs) ∧ WRepL K G α vs xs
  | .dic kvs => G p = none ∧ ∃ ks, H p = some (.dK ks) ∧ Paired (fun a b => a.1 = b.1 ∧ WRep K G α a.2 b.2) ks kvs
  | .ins C fs => G p = none ∧ ∃ dx vs, H p = some (.ins C dx vs) ∧ Paired (fun a b => a.1 = b.1 ∧ WRep K G α a.2 b.2) vs fs
  | .dead => True
/-- α' goes on from α -/
def Le (α α' : List Addr) : Prop := ∃ β, α' = α ++ β
theorem Le.refl (α : List Addr) : Le α α := ⟨[], (List.append_nil α).symm⟩
theorem Le.trans {a b c : List Addr} (x : Le a b) (y : Le b c) : Le a c := by
  obtain ⟨u, rfl⟩ := x
  obtain ⟨w, rfl⟩ := y
  exact ⟨u ++ w, List.append_assoc a u w⟩
theorem Le.get {a b : List Addr} (x : Le a b) {k : Nat} {p : Addr} (h : a[k]? = some p) : b[k]? = some p := by
  obtain ⟨u, rfl⟩ := x
  rw [List.getElem?_append_left (List.getElem?_eq_some_iff.mp h).1]
  exact h
theorem Le.len {a b : List Addr} (x : Le a b) : a.length ≤ b.length := by
  obtain ⟨u, rfl⟩ := x
  rw [List.length_append]
  exact Nat.le_add_right _ _

section
variable {K : Frag} {G G' H H' : Hp} {α α' : List Addr}
theorem WRep.mono (e : Same G G') (l : Le α α') : ∀ {w : W} {v : V}, WRep K G α v w → WRep K G' α' v w
  | .d x, v, h => Rep.mono e x v h
  | .p k, v, ⟨a, q, r⟩ => ⟨a, q, l.get r⟩
theorem paired_mono {A B : Type} {R S : A → B → Prop} (h : ∀ a b, R a b → S a b) {l : List A} {m : List B} (p : Paired R l m) : Paired S l m := Paired.mapP p h
theorem WRepL.mono (e : Same G G') (l : Le α α') {vs : List V} {ws : List W} (h : WRepL K G α vs ws) : WRepL K G' α' vs ws := paired_mono (fun _ _ q => WRep.mono e l q) h
/-- data alone -/
theorem WRepL.data : ∀ {vs : List V} {ds : List D}, WRepL K G α vs (ds.map W.d) → RepL K G vs ds
  | [], [], _ => .nil
  | _ :: _, _ :: _, .cons q r => .cons q (WRepL.data r)
theorem WRepL.of : ∀ {vs : List V} {ds : List D}, RepL K G vs ds → WRepL K G α vs (ds.map W.d)
  | [], [], _ => .nil
  | _ :: _, _ :: _, .cons q r => .cons q (WRepL.of r)
theorem MRep.mono (e : Same G G') (l : Le α α') {p : Addr} (hg : G' p = none ∨ ∀ o, H p ≠ some o) (hh : H' p = H p) : ∀ {o : MO}, MRep K G α H p o → MRep K G' α' H' p o
  | .lst xs, ⟨g, vs, q, r⟩ => ⟨hg.elim id fun z => absurd q (z _), vs, hh.trans q, WRepL.mono e l r⟩
  | .dic kvs, ⟨g, ks, q, r⟩ => ⟨hg.elim id fun z => absurd q (z _), ks, hh.trans q, paired_mono (fun _ _ z => ⟨z.1, WRep.mono e l z.2⟩) r⟩
  | .ins C fs, ⟨g, dx, vs, q, r⟩ => ⟨hg.elim id fun z => absurd q (z _), dx, vs, hh.trans q, paired_mono (fun _ _ z => ⟨z.1, WRep.mono e l z.2⟩) r⟩
  | .dead, _ => trivial
end

structure RelM (K : Frag) (G H : Hp) (α : List Addr) (M : List MO) : Prop where
  gh : Same G H
  al : α.length = M.length
  nd : α.Nodup
  here : ∀ p ∈ α, H p ≠ none
  ob : ∀ (k : Nat) (o : MO), M[k]? = some o → ∃ p, α[k]? = some p ∧ MRep K G α H p o
abbrev DSt := List (Option W)
structure RelS (K : Frag) (G : Hp) (α : List Addr) (σ : L2.St) (δ : DSt) : Prop where
  len : σ.length = δ.length
  at_ : ∀ (i : Nat) (w : W), δ[i]? = some (some w) → ∃ v, σ[i]? = some (some v) ∧ WRep K G α v w
structure Rel (K : Frag) (G H : Hp) (α : List Addr) (σ : L2.St) (δ : DSt) (M : List MO) : Prop where
  m : RelM K G H α M
  s : RelS K G α σ δ

section
variable {K : Frag} {G G' H H' : Hp} {α α' : List Addr} {M M' : List MO} {σ : L2.St} {δ : DSt} {p : Addr} {o : HO}
theorem same_new (h : H p = none) : Same H (upd H p o) := fun b u e => by
  rw [upd_ne (ne_of_none e h)]
  exact e
theorem same_both (e : Same G H) : Same (upd G p o) (upd H p o) := fun b u q => by
  by_cases hb : b = p
  · subst hb
    rw [upd_same] at q ⊢
    exact q
  · rw [upd_ne hb] at q ⊢
    exact e b u q
theorem RelS.mono (e : Same G G') (l : Le α α') (r : RelS K G α σ δ) : RelS K G' α' σ δ :=
  ⟨r.len, fun i w h => let ⟨v, a, b⟩ := r.at_ i w h; ⟨v, a, WRep.mono e l b⟩⟩
theorem RelS.set (r : RelS K G α σ δ) (i : Nat) {v : V} {w : W} (h : WRep K G α v w) : RelS K G α (σ.set i (some v)) (δ.set i (some w)) := by
  refine ⟨by rw [List.length_set, List.length_set, r.len], fun j u e => ?_⟩
  by_cases hj : i = j
  · subst hj
    have hl : i < δ.length := by
      have := (List.getElem?_eq_some_iff.mp e).1
      rwa [List.length_set] at this
    rw [List.getElem?_set_self hl] at e
    have e' : w = u := Option.some.inj (Option.some.inj e)
    subst e'
    exact ⟨v, by rw [List.getElem?_set_self (by rw [r.len]; exact hl)], h⟩
  · rw [List.getElem?_set_ne hj] at e ⊢
    exact r.at_ j u e
/-- a new frozen object -/
theorem RelM.froz (r : RelM K G H α M) (hp : H p = none) : RelM K (upd G p o) (upd H p o) α M := by
  have sG : Same G (upd G p o) := same_new (by
    cases e : G p with
    | none => rfl
    | some u => rw [r.gh p u e] at hp; cases hp)
  refine ⟨same_both r.gh, r.al, r.nd, fun q hq z => r.here q hq ?_, fun k ob h => ?_⟩
  · by_cases e : q = p
    · rw [e]; exact hp
    · rw [upd_ne e] at z; exact z
  · obtain ⟨q, e1, e2⟩ := r.ob k ob h
    have hne : q ≠ p := fun z => r.here q (List.mem_of_getElem? e1) (by rw [z]; exact hp)
    refine ⟨q, e1, ?_⟩
    cases ob with
    | dead => trivial
    | lst xs => exact MRep.mono sG (Le.refl _) (.inl (by rw [upd_ne hne]; exact e2.1)) (upd_ne hne) e2
    | dic xs => exact MRep.mono sG (Le.refl _) (.inl (by rw [upd_ne hne]; exact e2.1)) (upd_ne hne) e2
    | ins C xs => exact MRep.mono sG (Le.refl _) (.inl (by rw [upd_ne hne]; exact e2.1)) (upd_ne hne) e2
theorem RelM.gnone (r : RelM K G H α M) (hp : H p = none) : G p = none := by
  cases e : G p with
  | none => rfl
  | some u => rw [r.gh p u e] at hp; cases hp
theorem Rel.froz (r : Rel K G H α σ δ M) (hp : H p = none) : Rel K (upd G p o) (upd H p o) α σ δ M :=
  ⟨r.m.froz hp, r.s.mono (same_new (r.m.gnone hp)) (Le.refl _)⟩
/-- untracked things come beside -/
theorem RelM.grow (r : RelM K G H α M) (e : Same H H') : RelM K G H' α M := by
  refine ⟨r.gh.trans e, r.al, r.nd, fun q hq z => ?_, fun k ob h => ?_⟩
  · cases x : H q with
    | none => exact r.here q hq x
    | some u => rw [e q u x] at z; cases z
  · obtain ⟨q, e1, e2⟩ := r.ob k ob h
    refine ⟨q, e1, ?_⟩
    cases ob with
    | dead => trivial
    | lst xs => obtain ⟨g, vs, a, b⟩ := e2; exact ⟨g, vs, e _ _ a, b⟩
    | dic xs => obtain ⟨g, vs, a, b⟩ := e2; exact ⟨g, vs, e _ _ a, b⟩
    | ins C xs => obtain ⟨g, dx, vs, a, b⟩ := e2; exact ⟨g, dx, vs, e _ _ a, b⟩
/-- a new mutable object -/
theorem RelM.make {mo : MO} (r : RelM K G H α M) (hp : H p = none) (h : MRep K G (α ++ [p]) (upd H p o) p mo) : RelM K G (upd H p o) (α ++ [p]) (M ++ [mo]) := by
  have l : Le α (α ++ [p]) := ⟨[p], rfl⟩
  have np : p ∉ α := fun z => r.here p z hp
  refine ⟨r.gh.trans (same_new hp), by rw [List.length_append, List.length_append, r.al]; rfl, ?_, fun q hq z => ?_, fun k ob hk => ?_⟩
  · refine List.nodup_append.mpr ⟨r.nd, by simp, fun a ha b hb => ?_⟩
    rw [List.mem_singleton] at hb
    subst hb
    exact fun z => np (z ▸ ha)
  · rcases List.mem_append.mp hq with h1 | h1
    · have hne : q ≠ p := fun z => np (z ▸ h1)
      rw [upd_ne hne] at z
      exact r.here q h1 z
    · rw [List.mem_singleton] at h1
      subst h1
      rw [upd_same] at z
      cases z
  · by_cases hlt : k < M.length
    · rw [List.getElem?_append_left hlt] at hk
      obtain ⟨q, e1, e2⟩ := r.ob k ob hk
      have hne : q ≠ p := fun z => np (z ▸ List.mem_of_getElem? e1)
      refine ⟨q, l.get e1, ?_⟩
      cases ob with
      | dead => trivial
      | lst xs => exact MRep.mono (Same.refl G) l (.inl e2.1) (upd_ne hne) e2
      | dic xs => exact MRep.mono (Same.refl G) l (.inl e2.1) (upd_ne hne) e2
      | ins C xs => exact MRep.mono (Same.refl G) l (.inl e2.1) (upd_ne hne) e2
    · rw [List.getElem?_append_right (by omega)] at hk
      have hk0 : k - M.length = 0 := by
        cases z : k - M.length with
        | zero => rfl
        | succ n => rw [z] at hk; simp at hk
      rw [hk0] at hk
      have e : mo = ob := by simpa using hk
      subst e
      refine ⟨p, ?_, h⟩
      rw [List.getElem?_append_right (by rw [r.al]; omega), r.al, hk0]
      rfl
/-- a mutable object is written -/
theorem RelM.write {k : Nat} {mo mo' : MO} (r : RelM K G H α M) (hk : M[k]? = some mo) (hd : mo ≠ .dead) (ha : α[k]? = some p) (h : MRep K G α (upd H p o) p mo') : RelM K G (upd H p o) α (M.set k mo') := by
  have gp : G p = none := by
    obtain ⟨q, e1, e2⟩ := r.ob k mo hk
    rw [ha] at e1
    cases e1
    cases mo with
    | dead => exact absurd rfl hd
    | lst xs => exact e2.1
    | dic xs => exact e2.1
    | ins C xs => exact e2.1
  refine ⟨fun b u e => ?_, by rw [List.length_set, r.al], r.nd, fun q hq z => ?_, fun j ob hj => ?_⟩
  · rw [upd_ne (ne_of_none e gp)]
    exact r.gh b u e
  · by_cases e : q = p
    · subst e; rw [upd_same] at z; cases z
    · rw [upd_ne e] at z; exact r.here q hq z
  · by_cases hjk : k = j
    · subst hjk
      have hl : k < M.length := (List.getElem?_eq_some_iff.mp hk).1
      rw [List.getElem?_set_self hl] at hj
      cases hj
      exact ⟨p, ha, h⟩
    · rw [List.getElem?_set_ne hjk] at hj
      obtain ⟨q, e1, e2⟩ := r.ob j ob hj
      have hne : q ≠ p := fun z => by
        subst z
        obtain ⟨a1, b1⟩ := List.getElem?_eq_some_iff.mp ha
        obtain ⟨a2, b2⟩ := List.getElem?_eq_some_iff.mp e1
        exact hjk ((List.getElem_inj r.nd).mp (b1.trans b2.symm))
      refine ⟨q, e1, ?_⟩
      cases ob with
      | dead => trivial
      | lst xs => exact MRep.mono (Same.refl G) (Le.refl _) (.inl e2.1) (upd_ne hne) e2
      | dic xs => exact MRep.mono (Same.refl G) (Le.refl _) (.inl e2.1) (upd_ne hne) e2
      | ins C xs => exact MRep.mono (Same.refl G) (Le.refl _) (.inl e2.1) (upd_ne hne) e2
/-- a mutable object is frozen: never written any more -/
theorem RelM.freeze {k : Nat} {mo : MO} (r : RelM K G H α M) (hk : M[k]? = some mo) (hd : mo ≠ .dead) (ha : α[k]? = some p) (hp : H p = some o) : RelM K (upd G p o) H α (M.set k .dead) := by
  have gp : G p = none := by
    obtain ⟨q, e1, e2⟩ := r.ob k mo hk
    rw [ha] at e1
    cases e1
    cases mo with
    | dead => exact absurd rfl hd
    | lst xs => exact e2.1
    | dic xs => exact e2.1
    | ins C xs => exact e2.1
  refine ⟨fun b u e => ?_, by rw [List.length_set, r.al], r.nd, r.here, fun j ob hj => ?_⟩
  · by_cases hb : b = p
    · subst hb; rw [upd_same] at e; cases e; exact hp
    · rw [upd_ne hb] at e; exact r.gh b u e
  · by_cases hjk : k = j
    · subst hjk
      have hl : k < M.length := (List.getElem?_eq_some_iff.mp hk).1
      rw [List.getElem?_set_self hl] at hj
      cases hj
      exact ⟨p, ha, trivial⟩
    · rw [List.getElem?_set_ne hjk] at hj
      obtain ⟨q, e1, e2⟩ := r.ob j ob hj
      have hne : q ≠ p := fun z => by
        subst z
        obtain ⟨a1, b1⟩ := List.getElem?_eq_some_iff.mp ha
        obtain ⟨a2, b2⟩ := List.getElem?_eq_some_iff.mp e1
        exact hjk ((List.getElem_inj r.nd).mp (b1.trans b2.symm))
      refine ⟨q, e1, ?_⟩
      cases ob with
      | dead => trivial
      | lst xs => exact MRep.mono (same_new gp) (Le.refl _) (.inl (by rw [upd_ne hne]; exact e2.1)) rfl e2
      | dic xs => exact MRep.mono (same_new gp) (Le.refl _) (.inl (by rw [upd_ne hne]; exact e2.1)) rfl e2
      | ins C xs => exact MRep.mono (same_new gp) (Le.refl _) (.inl (by rw [upd_ne hne]; exact e2.1)) rfl e2
end
end DL

set_option maxRecDepth 100000
set_option maxHeartbeats 1000000
/-! # DL2: the calculus: what an expression, a test, a statement comes to, at the data level -/
namespace DL
open PySem PySem.Spec PyProof.Rows L2
open PySem.W (Frag)

/-! ### the weakest readings -/
section
variable (X : Cx)
def wE (e : Expr) : TE := fun σ H Q => ∀ (pins : List (Addr × Obj)) (s : Shared), Inv X pins σ H s → wpAny (model X.prog X.w) X.A (eval e X.env) (EP X pins σ Q) X.xe s
def wT (e : Expr) : TT := fun σ H Q => ∀ (pins : List (Addr × Obj)) (s : Shared), Inv X pins σ H s → wpAny (model X.prog X.w) X.A (isTrue e X.env (eval e X.env)) (TP X pins σ Q) X.xe s
def wW (e : Expr) : TT := fun σ H Q => ∀ (whole : Sem Value) (pins : List (Addr × Obj)) (s : Shared), Inv X pins σ H s → wpAny (model X.prog X.w) X.A (isTrue e X.env whole) (TP X pins σ Q) X.xe s
def wA (es : List Expr) : TA := fun σ H Q => ∀ (pos : Pos) (pins : List (Addr × Obj)) (s : Shared), Inv X pins σ H s → wpAny (model X.prog X.w) X.A (spliced (backTo pos (starEach es X.env))) (AP X pins σ Q) X.xe s
def wS (st : Stmt) : TS := fun D σ H => ∀ (pins : List (Addr × Obj)) (s : Shared), Inv X pins σ H s → wpAny (model X.prog X.w) X.A (exec st X.env) (SP X pins D) X.xe s
def wB (sts : List Stmt) : TS := fun D σ H => ∀ (pins : List (Addr × Obj)) (s : Shared), Inv X pins σ H s → wpAny (model X.prog X.w) X.A (execs sts X.env) (SP X pins D) X.xe s
def wG (tg : Expr) : TG := fun v σ H Q => ∀ (pins : List (Addr × Obj)) (s : Shared) (u : Value), Inv X pins σ H s → RelV v u →
    wpAny (model X.prog X.w) X.A (assign tg X.env u) (fun _ s' => ∃ σ' H', Inv X pins σ' H' s' ∧ Q σ' H') X.xe s
end
section
variable {X : Cx} {e : Expr} {es : List Expr} {st : Stmt} {sts : List Stmt} {σ : L2.St} {H : Hp}
theorem pe_w : PE X e (wE X e) := ⟨fun pins s _ _ _ I h => h pins s I⟩
theorem pt_w : PT X e (wT X e) := ⟨fun pins s _ _ _ I h => h pins s I⟩
theorem pw_w : PW X e (wW X e) := ⟨fun wh pins s _ _ _ I h => h wh pins s I⟩
theorem pa_w : PA X es (wA X es) := ⟨fun pos pins s _ _ _ I h => h pos pins s I⟩
theorem ps_w : PS X st (wS X st) := ⟨fun pins s _ _ _ I h => h pins s I⟩
theorem pb_w : PSs X sts (wB X sts) := ⟨fun pins s _ _ _ I h => h pins s I⟩
theorem pg_w : PG X e (wG X e) := ⟨fun pins s _ _ _ u _ I r h => h pins s u I r⟩
theorem of_pe {t : TE} {Q : VK} (p : PE X e t) (h : t σ H Q) : wE X e σ H Q := fun pins s I => p.run pins s σ H Q I h
theorem of_pt {t : TT} {Q : Bool → Hp → Prop} (p : PT X e t) (h : t σ H Q) : wT X e σ H Q := fun pins s I => p.run pins s σ H Q I h
theorem of_pw {t : TT} {Q : Bool → Hp → Prop} (p : PW X e t) (h : t σ H Q) : wW X e σ H Q := fun wh pins s I => p.run wh pins s σ H Q I h
theorem of_pa {t : TA} {Q : List V → Hp → Prop} (p : PA X es t) (h : t σ H Q) : wA X es σ H Q := fun pos pins s I => p.run pos pins s σ H Q I h
theorem of_ps {t : TS} {D : Ends} (p : PS X st t) (h : t D σ H) : wS X st D σ H := fun pins s I => p.run pins s σ H D I h
theorem of_pb {t : TS} {D : Ends} (p : PSs X sts t) (h : t D σ H) : wB X sts D σ H := fun pins s I => p.run pins s σ H D I h
theorem of_pg {t : TG} {v : V} {Q : L2.St → Hp → Prop} (p : PG X e t) (h : t v σ H Q) : wG X e v σ H Q := fun pins s u I r => p.run pins s σ H v u Q I r h
theorem wE.mono {Q Q' : VK} (h : wE X e σ H Q) (k : ∀ v H', Q v H' → Q' v H') : wE X e σ H Q' := fun pins s I =>
  thn (h pins s I) fun _ _ ⟨v, H', J, r, q⟩ => ⟨v, H', J, r, k v H' q⟩
theorem wT.mono {Q Q' : Bool → Hp → Prop} (h : wT X e σ H Q) (k : ∀ b H', Q b H' → Q' b H') : wT X e σ H Q' := fun pins s I =>
  thn (h pins s I) fun _ _ ⟨H', J, q⟩ => ⟨H', J, k _ H' q⟩
theorem wW.mono {Q Q' : Bool → Hp → Prop} (h : wW X e σ H Q) (k : ∀ b H', Q b H' → Q' b H') : wW X e σ H Q' := fun wh pins s I =>
  thn (h wh pins s I) fun _ _ ⟨H', J, q⟩ => ⟨H', J, k _ H' q⟩
theorem wA.mono {Q Q' : List V → Hp → Prop} (h : wA X es σ H Q) (k : ∀ vs H', Q vs H' → Q' vs H') : wA X es σ H Q' := fun pos pins s I =>
  thn (h pos pins s I) fun _ _ ⟨v, H', J, r, q⟩ => ⟨v, H', J, r, k v H' q⟩
theorem wG.mono {v : V} {Q Q' : L2.St → Hp → Prop} (h : wG X e v σ H Q) (k : ∀ σ H', Q σ H' → Q' σ H') : wG X e v σ H Q' := fun pins s u I r =>
  thn (h pins s u I r) fun _ _ ⟨v, H', J, q⟩ => ⟨v, H', J, k _ H' q⟩
structure Ends.Imp (D D' : Ends) : Prop where
  nx : ∀ σ H, D.nx σ H → D'.nx σ H
  rt : ∀ v H, D.rt v H → D'.rt v H
  bk : ∀ σ H, D.bk σ H → D'.bk σ H
  ct : ∀ σ H, D.ct σ H → D'.ct σ H
theorem SP.imp {pins : List (Addr × Obj)} {D D' : Ends} (k : Ends.Imp D D') : ∀ {f : Flow} {s : Shared}, SP X pins D f s → SP X pins D' f s
  | .next, _, ⟨σ, H, I, q⟩ => ⟨σ, H, I, k.nx _ _ q⟩
  | .brk, _, ⟨σ, H, I, q⟩ => ⟨σ, H, I, k.bk _ _ q⟩
  | .cont, _, ⟨σ, H, I, q⟩ => ⟨σ, H, I, k.ct _ _ q⟩
  | .ret _, _, ⟨v, σ, H, I, r, q⟩ => ⟨v, σ, H, I, r, k.rt _ _ q⟩
theorem wS.mono {D D' : Ends} (h : wS X st D σ H) (k : Ends.Imp D D') : wS X st D' σ H := fun pins s I => thn (h pins s I) fun _ _ q => SP.imp k q
theorem wB.mono {D D' : Ends} (h : wB X sts D σ H) (k : Ends.Imp D D') : wB X sts D' σ H := fun pins s I => thn (h pins s I) fun _ _ q => SP.imp k q
end

/-! ### posts -/
abbrev WP := W → List MO → Prop
abbrev TPo := Bool → List MO → Prop
abbrev AP' := List W → List MO → Prop
abbrev SPo := DSt → List MO → Prop
/-- an exception: its class, its fields (none: no dict) -/
structure DX where
  cls : Value
  fs : Option (List (Str × V))
abbrev XPo := DX → DSt → List MO → Prop
structure DE where
  nx : SPo
  rt : WP
  bk : SPo := fun _ _ => False
  ct : SPo := fun _ _ => False
def ExRep (x : DX) (cls : Value) (dd : Option Addr) (G : Hp) : Prop := cls = x.cls ∧ match x.fs with
  | none => dd = none
  | some fs => ∃ d, dd = some d ∧ G d = some (.xd fs)
/-- further on: what was frozen stays, the store's addresses stay -/
structure Fw (G : Hp) (α : List Addr) (G' : Hp) (α' : List Addr) : Prop where
  g : Same G G'
  l : Le α α'
theorem Fw.refl (G : Hp) (α : List Addr) : Fw G α G α := ⟨Same.refl G, Le.refl α⟩
theorem Fw.trans {G G1 G2 : Hp} {α α1 α2 : List Addr} (a : Fw G α G1 α1) (b : Fw G1 α1 G2 α2) : Fw G α G2 α2 := ⟨a.g.trans b.g, a.l.trans b.l⟩
theorem WRep.fw {K : Frag} {G G' : Hp} {α α' : List Addr} {v : V} {w : W} (f : Fw G α G' α') (h : WRep K G α v w) : WRep K G' α' v w := WRep.mono f.g f.l h
theorem RelS.fw {K : Frag} {G G' : Hp} {α α' : List Addr} {σ : L2.St} {δ : DSt} (f : Fw G α G' α') (h : RelS K G α σ δ) : RelS K G' α' σ δ := h.mono f.g f.l
def DQ (K : Frag) (G : Hp) (α : List Addr) (σ : L2.St) (δ : DSt) (Φ : WP) : VK := fun v H' => ∃ w M' G' α', Φ w M' ∧ Fw G α G' α' ∧ Rel K G' H' α' σ δ M' ∧ WRep K G' α' v w
def DQT (K : Frag) (G : Hp) (α : List Addr) (σ : L2.St) (δ : DSt) (Φ : TPo) : Bool → Hp → Prop := fun b H' => ∃ M' G' α', Φ b M' ∧ Fw G α G' α' ∧ Rel K G' H' α' σ δ M'
def DQA (K : Frag) (G : Hp) (α : List Addr) (σ : L2.St) (δ : DSt) (Φ : AP') : List V → Hp → Prop := fun vs H' => ∃ ws M' G' α', Φ ws M' ∧ Fw G α G' α' ∧ Rel K G' H' α' σ δ M' ∧ WRepL K G' α' vs ws
def DQS (K : Frag) (G : Hp) (α : List Addr) (Φ : SPo) : L2.St → Hp → Prop := fun σ' H' => ∃ δ' M' G' α', Φ δ' M' ∧ Fw G α G' α' ∧ Rel K G' H' α' σ' δ' M'
def DQR (K : Frag) (G : Hp) (α : List Addr) (Φ : WP) : VK := fun v H' => ∃ w M' G' α', Φ w M' ∧ Fw G α G' α' ∧ RelM K G' H' α' M' ∧ WRep K G' α' v w
def DQE (K : Frag) (G : Hp) (α : List Addr) (E : DE) : Ends := { nx := DQS K G α E.nx, rt := DQR K G α E.rt, bk := DQS K G α E.bk, ct := DQS K G α E.ct }
def XC (K : Frag) (W : WX) (Ξ : XPo) (G : Hp) (α : List Addr) : Prop := ∀ x δ' M' σ' G' α' H' cls dd, Ξ x δ' M' → Fw G α G' α' → Rel K G' H' α' σ' δ' M' → ExRep x cls dd G' → W cls dd σ' H'
theorem XC.fw {K : Frag} {W : WX} {Ξ : XPo} {G G' : Hp} {α α' : List Addr} (f : Fw G α G' α') (x : XC K W Ξ G α) : XC K W Ξ G' α' :=
  fun y δ' M' σ' G2 α2 H' cls dd a b c d => x y δ' M' σ' G2 α2 H' cls dd a (f.trans b) c d
section
variable {K : Frag} {G G' H H' : Hp} {α α' : List Addr} {σ : L2.St} {δ : DSt} {v : V}
theorem DQ.fw {Φ : WP} (f : Fw G α G' α') (h : DQ K G' α' σ δ Φ v H') : DQ K G α σ δ Φ v H' := let ⟨w, M', G2, α2, a, b, c, d⟩ := h; ⟨w, M', G2, α2, a, f.trans b, c, d⟩
theorem DQT.fw {Φ : TPo} {b : Bool} (f : Fw G α G' α') (h : DQT K G' α' σ δ Φ b H') : DQT K G α σ δ Φ b H' := let ⟨M', G2, α2, a, b, c⟩ := h; ⟨M', G2, α2, a, f.trans b, c⟩
theorem DQS.fw {Φ : SPo} (f : Fw G α G' α') (h : DQS K G' α' Φ σ H') : DQS K G α Φ σ H' := let ⟨δ', M', G2, α2, a, b, c⟩ := h; ⟨δ', M', G2, α2, a, f.trans b, c⟩
theorem DQR.fw {Φ : WP} (f : Fw G α G' α') (h : DQR K G' α' Φ v H') : DQR K G α Φ v H' := let ⟨w, M', G2, α2, a, b, c, d⟩ := h; ⟨w, M', G2, α2, a, f.trans b, c, d⟩
theorem DQE.fw {E : DE} (f : Fw G α G' α') : Ends.Imp (DQE K G' α' E) (DQE K G α E) := ⟨fun _ _ h => DQS.fw f h, fun _ _ h => DQR.fw f h, fun _ _ h => DQS.fw f h, fun _ _ h => DQS.fw f h⟩
end

/-! ### the judgements -/
section
variable (X : Cx)
def dE (e : Expr) (δ : DSt) (M : List MO) (Φ : WP) (Ξ : XPo) : Prop := ∀ W, Takes X W → ∀ G α σ H, Rel X.K G H α σ δ M → XC X.K W Ξ G α → wE X e σ H (DQ X.K G α σ δ Φ)
def dT (e : Expr) (δ : DSt) (M : List MO) (Φ : TPo) (Ξ : XPo) : Prop := ∀ W, Takes X W → ∀ G α σ H, Rel X.K G H α σ δ M → XC X.K W Ξ G α → wT X e σ H (DQT X.K G α σ δ Φ)
def dW (e : Expr) (δ : DSt) (M : List MO) (Φ : TPo) (Ξ : XPo) : Prop := ∀ W, Takes X W → ∀ G α σ H, Rel X.K G H α σ δ M → XC X.K W Ξ G α → wW X e σ H (DQT X.K G α σ δ Φ)
def dA (es : List Expr) (δ : DSt) (M : List MO) (Φ : AP') (Ξ : XPo) : Prop := ∀ W, Takes X W → ∀ G α σ H, Rel X.K G H α σ δ M → XC X.K W Ξ G α → wA X es σ H (DQA X.K G α σ δ Φ)
def dS (st : Stmt) (δ : DSt) (M : List MO) (E : DE) (Ξ : XPo) : Prop := ∀ W, Takes X W → ∀ G α σ H, Rel X.K G H α σ δ M → XC X.K W Ξ G α → wS X st (DQE X.K G α E) σ H
def dB (sts : List Stmt) (δ : DSt) (M : List MO) (E : DE) (Ξ : XPo) : Prop := ∀ W, Takes X W → ∀ G α σ H, Rel X.K G H α σ δ M → XC X.K W Ξ G α → wB X sts (DQE X.K G α E) σ H
/-- a target takes w -/
def dG (tg : Expr) (w : W) (δ : DSt) (M : List MO) (Φ : SPo) : Prop := ∀ G α σ H v, Rel X.K G H α σ δ M → WRep X.K G α v w → wG X tg v σ H (DQS X.K G α Φ)
/-- a value without more ado -/
def dV (e : Expr) (δ : DSt) (M : List MO) (w : W) : Prop := ∀ Φ Ξ, Φ w M → dE X e δ M Φ Ξ
end
section
variable {X : Cx} {e a b c : Expr} {es : List Expr} {st : Stmt} {sts : List Stmt} {δ : DSt} {M : List MO} {Φ Φ' : WP} {Ξ Ξ' : XPo} {pos : Pos} {w : W}
theorem dE.run (h : dE X e δ M Φ Ξ) {W : WX} (tk : Takes X W) {G : Hp} {α : List Addr} {σ : L2.St} {H : Hp} (r : Rel X.K G H α σ δ M) (x : XC X.K W Ξ G α) {Q : VK}
    (k : ∀ w M' G' α' v H', Φ w M' → Fw G α G' α' → Rel X.K G' H' α' σ δ M' → WRep X.K G' α' v w → Q v H') : wE X e σ H Q :=
  (h W tk G α σ H r x).mono fun v H' ⟨w, M', G', α', p, f, r', q⟩ => k w M' G' α' v H' p f r' q
theorem dT.run {Φ : TPo} (h : dT X e δ M Φ Ξ) {W : WX} (tk : Takes X W) {G : Hp} {α : List Addr} {σ : L2.St} {H : Hp} (r : Rel X.K G H α σ δ M) (x : XC X.K W Ξ G α) {Q : Bool → Hp → Prop}
    (k : ∀ b M' G' α' H', Φ b M' → Fw G α G' α' → Rel X.K G' H' α' σ δ M' → Q b H') : wT X e σ H Q :=
  (h W tk G α σ H r x).mono fun b H' ⟨M', G', α', p, f, r'⟩ => k b M' G' α' H' p f r'
theorem dW.run {Φ : TPo} (h : dW X e δ M Φ Ξ) {W : WX} (tk : Takes X W) {G : Hp} {α : List Addr} {σ : L2.St} {H : Hp} (r : Rel X.K G H α σ δ M) (x : XC X.K W Ξ G α) {Q : Bool → Hp → Prop}
    (k : ∀ b M' G' α' H', Φ b M' → Fw G α G' α' → Rel X.K G' H' α' σ δ M' → Q b H') : wW X e σ H Q :=
  (h W tk G α σ H r x).mono fun b H' ⟨M', G', α', p, f, r'⟩ => k b M' G' α' H' p f r'
theorem dA.run {Φ : AP'} (h : dA X es δ M Φ Ξ) {W : WX} (tk : Takes X W) {G : Hp} {α : List Addr} {σ : L2.St} {H : Hp} (r : Rel X.K G H α σ δ M) (x : XC X.K W Ξ G α) {Q : List V → Hp → Prop}
    (k : ∀ ws M' G' α' vs H', Φ ws M' → Fw G α G' α' → Rel X.K G' H' α' σ δ M' → WRepL X.K G' α' vs ws → Q vs H') : wA X es σ H Q :=
  (h W tk G α σ H r x).mono fun vs H' ⟨ws, M', G', α', p, f, r', q⟩ => k ws M' G' α' vs H' p f r' q
theorem dE.imp (h : dE X e δ M Φ Ξ) (k : ∀ w M, Φ w M → Φ' w M) : dE X e δ M Φ' Ξ := fun W tk G α σ H r x =>
  h.run tk r x fun w M' G' α' v H' p f r' q => ⟨w, M', G', α', k _ _ p, f, r', q⟩
theorem dV.ev (h : dV X e δ M w) (p : Φ w M) : dE X e δ M Φ Ξ := h Φ Ξ p

/-! ### names, constants -/
theorem dv_name {i : Nat} {x : Str} (hi : δ[i]? = some (some w)) (hN : X.N[i]? = some x := by rfl) (hv : Vis X.env.scope x := by first | exact Or.inl rfl | exact Or.inr (Or.inl rfl) | exact Or.inr (Or.inr rfl)) (hd : (x == ("__debug__" : Str)) = false := by decide)
    (hcd : (x == ("__classdict__" : Str)) = false := by decide) : dV X (.Name x pos) δ M w := fun Φ Ξ p W tk G α σ H r xc => by
  obtain ⟨v, h1, h2⟩ := r.s.at_ i w hi
  exact of_pe (pe_var hN hv hd hcd) ⟨v, h1, w, M, G, α, p, Fw.refl _ _, r, h2⟩
theorem dv_int {i : Int} {j : Nat} : dV X (.Constant (.int i) j pos) δ M (.d (.int i)) := fun Φ Ξ p W tk G α σ H r xc => of_pe pe_int ⟨_, M, G, α, p, Fw.refl _ _, r, .int i⟩
theorem dv_bl {i : Bool} {j : Nat} : dV X (.Constant (.bool i) j pos) δ M (.d (.bl i)) := fun Φ Ξ p W tk G α σ H r xc => of_pe pe_bl ⟨_, M, G, α, p, Fw.refl _ _, r, .bl i⟩
theorem dv_non {j : Nat} : dV X (.Constant .none j pos) δ M (.d .non) := fun Φ Ξ p W tk G α σ H r xc => of_pe pe_non ⟨_, M, G, α, p, Fw.refl _ _, r, .non⟩
theorem dv_str {i : Str} {j : Nat} : dV X (.Constant (.str i) j pos) δ M (.d (.str i)) := fun Φ Ξ p W tk G α σ H r xc => of_pe pe_str ⟨_, M, G, α, p, Fw.refl _ _, r, .str i⟩
/-- a module's constant, a def, a class -/
theorem dv_glob {x : Str} {v : V} {u : Value} (hm : X.mg x = some u) (q : RelV v u) (hg : Gl X x := by rfl) (hd : (x == ("__debug__" : Str)) = false := by decide) : dV X (.Name x pos) δ M (.d (.raw v)) := fun Φ Ξ p W tk G α σ H r xc =>
  of_pe (pe_glob hg hm q hd) ⟨_, M, G, α, p, Fw.refl _ _, r, .raw v⟩
theorem dv_globI {x : Str} {i : Int} {t : Tok} (hm : X.mg x = some (.int i t)) (hg : Gl X x := by rfl) (hd : (x == ("__debug__" : Str)) = false := by decide) : dV X (.Name x pos) δ M (.d (.int i)) := fun Φ Ξ p W tk G α σ H r xc =>
  of_pe (pe_glob (v := .int i) hg hm ⟨t, rfl⟩ hd) ⟨_, M, G, α, p, Fw.refl _ _, r, .int i⟩
theorem dv_globS {x : Str} {i : Str} {t : Tok} (hm : X.mg x = some (.str i t)) (hg : Gl X x := by rfl) (hd : (x == ("__debug__" : Str)) = false := by decide) : dV X (.Name x pos) δ M (.d (.str i)) := fun Φ Ξ p W tk G α σ H r xc =>
  of_pe (pe_glob (v := .str i) hg hm ⟨t, rfl⟩ hd) ⟨_, M, G, α, p, Fw.refl _ _, r, .str i⟩
theorem dv_bltn {x : Str} {v : V} {u : Value} (hm : X.mg x = none) (hv : bootBuiltins x = some u) (q : RelV v u) (hg : Gl X x := by rfl) (hn : x ≠ "__name__" := by decide) (hd : (x == ("__debug__" : Str)) = false := by decide) : dV X (.Name x pos) δ M (.d (.raw v)) := fun Φ Ξ p W tk G α σ H r xc =>
  of_pe (pe_bltn hg hm hv q hn hd) ⟨_, M, G, α, p, Fw.refl _ _, r, .raw v⟩

/-! ### operators -/
/-- what an operator comes to on two values -/
def ROp (K : Frag) (r : R2) (x y : W) (M : List MO) (Φ : WP) : Prop := ∀ G α σ δ H vx vy Q, Rel K G H α σ δ M → WRep K G α vx x → WRep K G α vy y → (∀ v H', DQ K G α σ δ Φ v H' → Q v H') → r vx vy H Q
theorem dE_bin {t : TE → TE → TE} (ht : ∀ ta tb, PE X a ta → PE X b tb → PE X e (t ta tb)) {r : R2} (hr : ∀ ta tb, t ta tb = tOp r ta tb) (h : dE X a δ M (fun x M1 => dE X b δ M1 (fun y M2 => ROp X.K r x y M2 Φ) Ξ) Ξ) : dE X e δ M Φ Ξ := fun W tk G α σ H rl xc => by
  refine of_pe (ht _ _ pe_w pe_w) ?_
  rw [hr]
  refine h.run tk rl xc fun x M1 G1 α1 vx H1 p1 f1 r1 q1 => ?_
  refine p1.run tk r1 (xc.fw f1) fun y M2 G2 α2 vy H2 p2 f2 r2 q2 => ?_
  exact p2 G2 α2 σ δ H2 vx vy _ r2 (q1.fw f2) q2 fun v H' z => DQ.fw (f1.trans f2) z
theorem dE_op {op : Operator} {r : R2} (ho : OpR X (binaryOp op) r) (h : dE X a δ M (fun x M1 => dE X b δ M1 (fun y M2 => ROp X.K r x y M2 Φ) Ξ) Ξ) : dE X (.BinOp a op b pos) δ M Φ Ξ :=
  dE_bin (t := tOp r) (fun _ _ pa pb => pe_op ho pa pb) (fun _ _ => rfl) h
theorem dE_cmp {op : CmpOp} {r : R2} (ho : OpR X (compareOp op) r) (hm : behindInMarks op b = false) (h : dE X a δ M (fun x M1 => dE X b δ M1 (fun y M2 => ROp X.K r x y M2 Φ) Ξ) Ξ) : dE X (.Compare a [op] [b] pos) δ M Φ Ξ :=
  dE_bin (t := tOp r) (fun _ _ pa pb => pe_cmpR ho pa pb hm) (fun _ _ => rfl) h
theorem dv_op {op : Operator} {r : R2} {x y : W} (ho : OpR X (binaryOp op) r) (ha : dV X a δ M x) (hb : dV X b δ M y) (h : ∀ Φ : WP, Φ w M → ROp X.K r x y M Φ) : dV X (.BinOp a op b pos) δ M w := fun Φ Ξ p => dE_op ho (ha.ev (hb.ev (h Φ p)))
theorem dv_cmp {op : CmpOp} {r : R2} {x y : W} (ho : OpR X (compareOp op) r) (hm : behindInMarks op b = false) (ha : dV X a δ M x) (hb : dV X b δ M y) (h : ∀ Φ : WP, Φ w M → ROp X.K r x y M Φ) : dV X (.Compare a [op] [b] pos) δ M w := fun Φ Ξ p => dE_cmp ho hm (ha.ev (hb.ev (h Φ p)))
theorem wint {K : Frag} {G : Hp} {α : List Addr} {v : V} {i : Int} (h : WRep K G α v (.d (.int i))) : v = .int i := by
  have h' : Rep K G v (.int i) := h
  cases h'; rfl
theorem wstr {K : Frag} {G : Hp} {α : List Addr} {v : V} {i : Str} (h : WRep K G α v (.d (.str i))) : v = .str i := by
  have h' : Rep K G v (.str i) := h
  cases h'; rfl
theorem wbl {K : Frag} {G : Hp} {α : List Addr} {v : V} {i : Bool} (h : WRep K G α v (.d (.bl i))) : v = .bl i := by
  have h' : Rep K G v (.bl i) := h
  cases h'; rfl
theorem wnon {K : Frag} {G : Hp} {α : List Addr} {v : V} (h : WRep K G α v (.d .non)) : v = .non := by
  have h' : Rep K G v .non := h
  cases h'; rfl
theorem wraw {K : Frag} {G : Hp} {α : List Addr} {v x : V} (h : WRep K G α v (.d (.raw x))) : v = x := by
  have h' : Rep K G v (.raw x) := h
  cases h'; rfl
theorem rop0 {g : Int → Int → V} {i j : Int} {z : D} (hz : ∀ K G, Rep K G (g i j) z) {K : Frag} {M : List MO} {Φ : WP} (p : Φ (.d z) M) : ROp K (rI0 g) (.d (.int i)) (.d (.int j)) M Φ := fun G α σ δ H vx vy Q r h1 h2 k =>
  ⟨i, j, wint h1, wint h2, k _ _ ⟨_, M, G, α, p, Fw.refl _ _, r, hz K G⟩⟩
theorem ropC {C : Int → Int → Prop} {g : Int → Int → V} {i j : Int} {z : D} (hc : C i j) (hz : ∀ K G, Rep K G (g i j) z) {K : Frag} {M : List MO} {Φ : WP} (p : Φ (.d z) M) : ROp K (rI C g) (.d (.int i)) (.d (.int j)) M Φ := fun G α σ δ H vx vy Q r h1 h2 k =>
  ⟨i, j, wint h1, wint h2, hc, k _ _ ⟨_, M, G, α, p, Fw.refl _ _, r, hz K G⟩⟩
variable {i j : Int}
theorem rAddI {K : Frag} (p : Φ (.d (.int (i + j))) M) : ROp K (rI0 fun i j => .int (i + j)) (.d (.int i)) (.d (.int j)) M Φ := rop0 (fun _ _ => .int _) p
theorem dv_add (ha : dV X a δ M (.d (.int i))) (hb : dV X b δ M (.d (.int j))) : dV X (.BinOp a .Add b pos) δ M (.d (.int (i + j))) := dv_op op_add ha hb fun _ p => rop0 (fun _ _ => .int _) p
theorem dv_sub (ha : dV X a δ M (.d (.int i))) (hb : dV X b δ M (.d (.int j))) : dV X (.BinOp a .Sub b pos) δ M (.d (.int (i - j))) := dv_op op_sub ha hb fun _ p => rop0 (fun _ _ => .int _) p
theorem dv_mul (hc : CMulW i j) (ha : dV X a δ M (.d (.int i))) (hb : dV X b δ M (.d (.int j))) : dV X (.BinOp a .Mult b pos) δ M (.d (.int (i * j))) := dv_op op_mulW ha hb fun _ p => ropC hc (fun _ _ => .int _) p
theorem dv_div (hc : CDivW i j) (ha : dV X a δ M (.d (.int i))) (hb : dV X b δ M (.d (.int j))) : dV X (.BinOp a .FloorDiv b pos) δ M (.d (.int (i / j))) := dv_op op_fdivW ha hb fun _ p => ropC hc (fun _ _ => .int _) p
theorem dv_mod (hc : 0 < j) (ha : dV X a δ M (.d (.int i))) (hb : dV X b δ M (.d (.int j))) : dV X (.BinOp a .Mod b pos) δ M (.d (.int (i % j))) := dv_op op_mod ha hb fun _ p => ropC (C := fun _ j => 0 < j) hc (fun _ _ => .int _) p
theorem dv_pow (hc : CPow i j) (ha : dV X a δ M (.d (.int i))) (hb : dV X b δ M (.d (.int j))) : dV X (.BinOp a .Pow b pos) δ M (.d (.int (i ^ j.toNat))) := dv_op op_pow ha hb fun _ p => ropC hc (fun _ _ => .int _) p
theorem dv_neg (ha : dV X a δ M (.d (.int i))) : dV X (.UnaryOp .USub a pos) δ M (.d (.int (-i))) := fun Φ Ξ p W tk G α σ H rl xc =>
  of_pe (pe_un un_neg pe_w) ((ha.ev (Φ := fun w M' => w = .d (.int i) ∧ M' = M) (Ξ := Ξ) ⟨rfl, rfl⟩).run tk rl xc fun x M1 G1 α1 vx H1 p1 f1 r1 q1 => by
    obtain ⟨e1, e2⟩ := p1
    subst e1 e2
    exact ⟨i, wint q1, _, _, G1, α1, p, f1, r1, .int _⟩)
theorem dv_lt (ha : dV X a δ M (.d (.int i))) (hb : dV X b δ M (.d (.int j))) : dV X (.Compare a [.Lt] [b] pos) δ M (.d (.bl (decide (i < j)))) := dv_cmp op_lt (nomark _) ha hb fun _ p => rop0 (fun _ _ => .bl _) p
theorem dv_le (ha : dV X a δ M (.d (.int i))) (hb : dV X b δ M (.d (.int j))) : dV X (.Compare a [.LtE] [b] pos) δ M (.d (.bl (decide (i ≤ j)))) := dv_cmp op_le (nomark _) ha hb fun _ p => rop0 (fun _ _ => .bl _) p
theorem dv_gt (ha : dV X a δ M (.d (.int i))) (hb : dV X b δ M (.d (.int j))) : dV X (.Compare a [.Gt] [b] pos) δ M (.d (.bl (decide (j < i)))) := dv_cmp op_gt (nomark _) ha hb fun _ p => rop0 (fun _ _ => .bl _) p
theorem dv_ge (ha : dV X a δ M (.d (.int i))) (hb : dV X b δ M (.d (.int j))) : dV X (.Compare a [.GtE] [b] pos) δ M (.d (.bl (decide (j ≤ i)))) := dv_cmp op_ge (nomark _) ha hb fun _ p => rop0 (fun _ _ => .bl _) p
/-- == of scalars -/
def D.sc : D → Option V
  | .non => some .non | .bl b => some (.bl b) | .int i => some (.int i) | .str s => some (.str s) | _ => none
theorem sc_of {K : Frag} {G : Hp} {α : List Addr} {v u : V} : ∀ {x : D}, x.sc = some u → WRep K G α v (.d x) → v = u
  | .non, h, r => by cases h; exact wnon r
  | .bl b, h, r => by cases h; exact wbl r
  | .int i, h, r => by cases h; exact wint r
  | .str s, h, r => by cases h; exact wstr r
theorem dv_eq {x y : D} {u v : V} (ha : dV X a δ M (.d x)) (hb : dV X b δ M (.d y)) (hx : x.sc = some u := by rfl) (hy : y.sc = some v := by rfl) (hs : scal u v = true := by rfl) : dV X (.Compare a [.Eq] [b] pos) δ M (.d (.bl (decide (u = v)))) :=
  dv_cmp op_eq (nomark _) ha hb fun Φ p G α σ δ' H vx vy Q r h1 h2 k => by
    have e1 := sc_of hx h1
    have e2 := sc_of hy h2
    subst e1 e2
    exact ⟨hs, k _ _ ⟨_, M, G, α, p, Fw.refl _ _, r, .bl _⟩⟩
theorem dv_ne {x y : D} {u v : V} (ha : dV X a δ M (.d x)) (hb : dV X b δ M (.d y)) (hx : x.sc = some u := by rfl) (hy : y.sc = some v := by rfl) (hs : scal u v = true := by rfl) : dV X (.Compare a [.NotEq] [b] pos) δ M (.d (.bl (!decide (u = v)))) :=
  dv_cmp op_ne (nomark _) ha hb fun Φ p G α σ δ' H vx vy Q r h1 h2 k => by
    have e1 := sc_of hx h1
    have e2 := sc_of hy h2
    subst e1 e2
    exact ⟨hs, k _ _ ⟨_, M, G, α, p, Fw.refl _ _, r, .bl _⟩⟩
theorem dv_to {w' : W} (h : dV X e δ M w) (q : w = w') : dV X e δ M w' := q ▸ h
theorem dec_intV (i j : Int) : decide (V.int i = V.int j) = decide (i = j) := by simp
theorem dv_eqI (ha : dV X a δ M (.d (.int i))) (hb : dV X b δ M (.d (.int j))) : dV X (.Compare a [.Eq] [b] pos) δ M (.d (.bl (decide (i = j)))) := dv_to (dv_eq ha hb) (by rw [dec_intV])
theorem dv_neI (ha : dV X a δ M (.d (.int i))) (hb : dV X b δ M (.d (.int j))) : dV X (.Compare a [.NotEq] [b] pos) δ M (.d (.bl (!decide (i = j)))) := dv_to (dv_ne ha hb) (by rw [dec_intV])

/-! ### tests -/
theorem dT_val {Φ : TPo} (h : dE X e δ M (fun x M1 => ∃ k, x = .d (.bl k) ∧ Φ k M1) Ξ) (he : ∀ whole, isTrue e X.env whole = (do let v ← whole; standAt e.pos; holding [v] (truthy v)) := by intro _; rfl) : dT X e δ M Φ Ξ := fun W tk G α σ H rl xc =>
  of_pt (pt_val pe_w he) (h.run tk rl xc fun x M1 G1 α1 vx H1 p1 f1 r1 q1 => by
    obtain ⟨k, e1, p⟩ := p1
    subst e1
    exact ⟨k, wbl q1, M1, G1, α1, p, f1, r1⟩)
theorem dT_cmp {Φ : TPo} {op : CmpOp} {r : R2} (ho : OpR X (compareOp op) r) (hm : behindInMarks op b = false) (h : dE X a δ M (fun x M1 => dE X b δ M1 (fun y M2 => ROp X.K r x y M2 (fun z M3 => ∃ k, z = .d (.bl k) ∧ Φ k M3)) Ξ) Ξ) : dT X (.Compare a [op] [b] pos) δ M Φ Ξ := fun W tk G α σ H rl xc => by
  refine of_pt (pt_cmpR ho pe_w pe_w hm) ?_
  refine h.run tk rl xc fun x M1 G1 α1 vx H1 p1 f1 r1 q1 => ?_
  refine p1.run tk r1 (xc.fw f1) fun y M2 G2 α2 vy H2 p2 f2 r2 q2 => ?_
  refine p2 G2 α2 σ δ H2 vx vy _ r2 (q1.fw f2) q2 fun v H' z => ?_
  obtain ⟨w, M', G', α', ⟨k, e1, p⟩, f, r', q⟩ := z
  subst e1
  exact ⟨k, wbl q, M', G', α', p, (f1.trans f2).trans f, r'⟩
/-- a test whose answer is known -/
def dTV (X : Cx) (e : Expr) (δ : DSt) (M : List MO) (k : Bool) : Prop := ∀ (Φ : TPo) Ξ, Φ k M → dT X e δ M Φ Ξ
theorem dTV.tv {Φ : TPo} {k : Bool} (h : dTV X e δ M k) (p : Φ k M) : dT X e δ M Φ Ξ := h Φ Ξ p
theorem dt_val {k : Bool} (h : dV X e δ M (.d (.bl k))) (he : ∀ whole, isTrue e X.env whole = (do let v ← whole; standAt e.pos; holding [v] (truthy v)) := by intro _; rfl) : dTV X e δ M k := fun Φ Ξ p => dT_val (h.ev ⟨k, rfl, p⟩) he
theorem dt_cmp {op : CmpOp} {r : R2} {x y : W} {k : Bool} (ho : OpR X (compareOp op) r) (hm : behindInMarks op b = false) (ha : dV X a δ M x) (hb : dV X b δ M y) (h : ∀ Φ : WP, Φ (.d (.bl k)) M → ROp X.K r x y M Φ) : dTV X (.Compare a [op] [b] pos) δ M k := fun Φ Ξ p => dT_cmp ho hm (ha.ev (hb.ev (h _ ⟨k, rfl, p⟩)))
theorem dt_lt (ha : dV X a δ M (.d (.int i))) (hb : dV X b δ M (.d (.int j))) : dTV X (.Compare a [.Lt] [b] pos) δ M (decide (i < j)) := dt_cmp op_lt (nomark _) ha hb fun _ p => rop0 (fun _ _ => .bl _) p
theorem dt_le (ha : dV X a δ M (.d (.int i))) (hb : dV X b δ M (.d (.int j))) : dTV X (.Compare a [.LtE] [b] pos) δ M (decide (i ≤ j)) := dt_cmp op_le (nomark _) ha hb fun _ p => rop0 (fun _ _ => .bl _) p
theorem dt_gt (ha : dV X a δ M (.d (.int i))) (hb : dV X b δ M (.d (.int j))) : dTV X (.Compare a [.Gt] [b] pos) δ M (decide (j < i)) := dt_cmp op_gt (nomark _) ha hb fun _ p => rop0 (fun _ _ => .bl _) p
theorem dt_ge (ha : dV X a δ M (.d (.int i))) (hb : dV X b δ M (.d (.int j))) : dTV X (.Compare a [.GtE] [b] pos) δ M (decide (j ≤ i)) := dt_cmp op_ge (nomark _) ha hb fun _ p => rop0 (fun _ _ => .bl _) p
theorem dt_to {k k' : Bool} (h : dTV X e δ M k) (q : k = k') : dTV X e δ M k' := q ▸ h
theorem dt_eq {x y : D} {u v : V} (ha : dV X a δ M (.d x)) (hb : dV X b δ M (.d y)) (hx : x.sc = some u := by rfl) (hy : y.sc = some v := by rfl) (hs : scal u v = true := by rfl) : dTV X (.Compare a [.Eq] [b] pos) δ M (decide (u = v)) :=
  dt_cmp op_eq (nomark _) ha hb fun Φ p G α σ δ' H vx vy Q r h1 h2 k => by
    have e1 := sc_of hx h1
    have e2 := sc_of hy h2
    subst e1 e2
    exact ⟨hs, k _ _ ⟨_, M, G, α, p, Fw.refl _ _, r, .bl _⟩⟩
theorem dt_ne {x y : D} {u v : V} (ha : dV X a δ M (.d x)) (hb : dV X b δ M (.d y)) (hx : x.sc = some u := by rfl) (hy : y.sc = some v := by rfl) (hs : scal u v = true := by rfl) : dTV X (.Compare a [.NotEq] [b] pos) δ M (!decide (u = v)) :=
  dt_cmp op_ne (nomark _) ha hb fun Φ p G α σ δ' H vx vy Q r h1 h2 k => by
    have e1 := sc_of hx h1
    have e2 := sc_of hy h2
    subst e1 e2
    exact ⟨hs, k _ _ ⟨_, M, G, α, p, Fw.refl _ _, r, .bl _⟩⟩
theorem dt_eqI (ha : dV X a δ M (.d (.int i))) (hb : dV X b δ M (.d (.int j))) : dTV X (.Compare a [.Eq] [b] pos) δ M (decide (i = j)) := dt_to (dt_eq ha hb) (dec_intV i j)
theorem dt_neI (ha : dV X a δ M (.d (.int i))) (hb : dV X b δ M (.d (.int j))) : dTV X (.Compare a [.NotEq] [b] pos) δ M (!decide (i = j)) := dt_to (dt_ne ha hb) (by rw [dec_intV])
theorem dT_not {Φ : TPo} (h : dT X a δ M (fun k M1 => Φ (!k) M1) Ξ) : dT X (.UnaryOp .Not a pos) δ M Φ Ξ := fun W tk G α σ H rl xc =>
  of_pt (pt_not pt_w) (h.run tk rl xc fun k M1 G1 α1 H1 p1 f1 r1 => ⟨M1, G1, α1, p1, f1, r1⟩)
theorem dt_not {k : Bool} (h : dTV X a δ M k) : dTV X (.UnaryOp .Not a pos) δ M (!k) := fun Φ Ξ p => dT_not (h.tv p)
theorem dT_of {Φ : TPo} (h : dW X e δ M Φ Ξ) : dT X e δ M Φ Ξ := fun W tk G α σ H rl xc pins s I => h W tk G α σ H rl xc _ pins s I
theorem dW_and1 {Φ : TPo} (h : dT X a δ M Φ Ξ) : dW X (.BoolOp .And [a] pos) δ M Φ Ξ := fun W tk G α σ H rl xc => of_pw (pw_and1 pt_w) (h W tk G α σ H rl xc)
theorem dW_or1 {Φ : TPo} (h : dT X a δ M Φ Ξ) : dW X (.BoolOp .Or [a] pos) δ M Φ Ξ := fun W tk G α σ H rl xc => of_pw (pw_or1 pt_w) (h W tk G α σ H rl xc)
theorem dW_and {Φ : TPo} (h : dT X a δ M (fun k M1 => (k = true → dW X (.BoolOp .And (b :: es) pos) δ M1 Φ Ξ) ∧ (k = false → Φ false M1)) Ξ) : dW X (.BoolOp .And (a :: b :: es) pos) δ M Φ Ξ := fun W tk G α σ H rl xc =>
  of_pw (pw_and pt_w pw_w) (h.run tk rl xc fun k M1 G1 α1 H1 p1 f1 r1 => by
    cases k with
    | true =>
      show wW X _ σ H1 _
      exact (p1.1 rfl).run tk r1 (xc.fw f1) fun k2 M2 G2 α2 H2 p2 f2 r2 => ⟨M2, G2, α2, p2, f1.trans f2, r2⟩
    | false => exact ⟨M1, G1, α1, p1.2 rfl, f1, r1⟩)
theorem dW_or {Φ : TPo} (h : dT X a δ M (fun k M1 => (k = false → dW X (.BoolOp .Or (b :: es) pos) δ M1 Φ Ξ) ∧ (k = true → Φ true M1)) Ξ) : dW X (.BoolOp .Or (a :: b :: es) pos) δ M Φ Ξ := fun W tk G α σ H rl xc =>
  of_pw (pw_or pt_w pw_w) (h.run tk rl xc fun k M1 G1 α1 H1 p1 f1 r1 => by
    cases k with
    | false =>
      show wW X _ σ H1 _
      exact (p1.1 rfl).run tk r1 (xc.fw f1) fun k2 M2 G2 α2 H2 p2 f2 r2 => ⟨M2, G2, α2, p2, f1.trans f2, r2⟩
    | true => exact ⟨M1, G1, α1, p1.2 rfl, f1, r1⟩)
/-- a and b and ..: known answers (the later ones under the earlier) -/
def dWV (X : Cx) (e : Expr) (δ : DSt) (M : List MO) (k : Bool) : Prop := ∀ (Φ : TPo) Ξ, Φ k M → dW X e δ M Φ Ξ
theorem dt_w {k : Bool} (h : dWV X e δ M k) : dTV X e δ M k := fun Φ Ξ p => dT_of (h Φ Ξ p)
theorem dw_and1 {k : Bool} (h : dTV X a δ M k) : dWV X (.BoolOp .And [a] pos) δ M k := fun Φ Ξ p => dW_and1 (h.tv p)
theorem dw_or1 {k : Bool} (h : dTV X a δ M k) : dWV X (.BoolOp .Or [a] pos) δ M k := fun Φ Ξ p => dW_or1 (h.tv p)
theorem dw_and {k l : Bool} (h : dTV X a δ M k) (h2 : k = true → dWV X (.BoolOp .And (b :: es) pos) δ M l) : dWV X (.BoolOp .And (a :: b :: es) pos) δ M (k && l) := fun Φ Ξ p => dW_and (h.tv ⟨fun e => h2 e Φ Ξ (by subst e; exact p), fun e => by subst e; exact p⟩)
theorem dw_or {k l : Bool} (h : dTV X a δ M k) (h2 : k = false → dWV X (.BoolOp .Or (b :: es) pos) δ M l) : dWV X (.BoolOp .Or (a :: b :: es) pos) δ M (k || l) := fun Φ Ξ p => dW_or (h.tv ⟨fun e => h2 e Φ Ξ (by subst e; exact p), fun e => by subst e; exact p⟩)
/-! as values -/
theorem dE_one {op : BoolOp} (h : dE X a δ M Φ Ξ) : dE X (.BoolOp op [a] pos) δ M Φ Ξ := fun W tk G α σ H rl xc => of_pe (pe_one pe_w) (h W tk G α σ H rl xc)
theorem dE_and (h : dE X a δ M (fun x M1 => ∃ k, x = .d (.bl k) ∧ (k = true → dE X (.BoolOp .And (b :: es) pos) δ M1 Φ Ξ) ∧ (k = false → Φ (.d (.bl false)) M1)) Ξ) : dE X (.BoolOp .And (a :: b :: es) pos) δ M Φ Ξ := fun W tk G α σ H rl xc =>
  of_pe (pe_and pe_w pe_w) (h.run tk rl xc fun x M1 G1 α1 v H1 p1 f1 r1 q1 => by
    obtain ⟨k, e1, p2, p3⟩ := p1
    subst e1
    refine ⟨k, wbl q1, ?_⟩
    cases k with
    | true =>
      show wE X _ σ H1 _
      exact (p2 rfl).run tk r1 (xc.fw f1) fun k2 M2 G2 α2 v2 H2 p2 f2 r2 q2 => ⟨_, M2, G2, α2, p2, f1.trans f2, r2, q2⟩
    | false => exact ⟨_, M1, G1, α1, p3 rfl, f1, r1, .bl _⟩)
theorem dE_or (h : dE X a δ M (fun x M1 => ∃ k, x = .d (.bl k) ∧ (k = false → dE X (.BoolOp .Or (b :: es) pos) δ M1 Φ Ξ) ∧ (k = true → Φ (.d (.bl true)) M1)) Ξ) : dE X (.BoolOp .Or (a :: b :: es) pos) δ M Φ Ξ := fun W tk G α σ H rl xc =>
  of_pe (pe_or pe_w pe_w) (h.run tk rl xc fun x M1 G1 α1 v H1 p1 f1 r1 q1 => by
    obtain ⟨k, e1, p2, p3⟩ := p1
    subst e1
    refine ⟨k, wbl q1, ?_⟩
    cases k with
    | false =>
      show wE X _ σ H1 _
      exact (p2 rfl).run tk r1 (xc.fw f1) fun k2 M2 G2 α2 v2 H2 p2 f2 r2 q2 => ⟨_, M2, G2, α2, p2, f1.trans f2, r2, q2⟩
    | true => exact ⟨_, M1, G1, α1, p3 rfl, f1, r1, .bl _⟩)
theorem dv_one {op : BoolOp} (h : dV X a δ M w) : dV X (.BoolOp op [a] pos) δ M w := fun Φ Ξ p => dE_one (h.ev p)
theorem dv_and {k l : Bool} (h : dV X a δ M (.d (.bl k))) (h2 : k = true → dV X (.BoolOp .And (b :: es) pos) δ M (.d (.bl l))) : dV X (.BoolOp .And (a :: b :: es) pos) δ M (.d (.bl (k && l))) := fun Φ Ξ p => dE_and (h.ev ⟨k, rfl, fun e => (h2 e).ev (by subst e; exact p), fun e => by subst e; exact p⟩)
theorem dv_or {k l : Bool} (h : dV X a δ M (.d (.bl k))) (h2 : k = false → dV X (.BoolOp .Or (b :: es) pos) δ M (.d (.bl l))) : dV X (.BoolOp .Or (a :: b :: es) pos) δ M (.d (.bl (k || l))) := fun Φ Ξ p => dE_or (h.ev ⟨k, rfl, fun e => (h2 e).ev (by subst e; exact p), fun e => by subst e; exact p⟩)
theorem dE_not (h : dE X a δ M (fun x M1 => ∃ k, x = .d (.bl k) ∧ Φ (.d (.bl (!k))) M1) Ξ) : dE X (.UnaryOp .Not a pos) δ M Φ Ξ := fun W tk G α σ H rl xc =>
  of_pe (pe_not pe_w) (h.run tk rl xc fun x M1 G1 α1 v H1 p1 f1 r1 q1 => by
    obtain ⟨k, e1, p⟩ := p1
    subst e1
    exact ⟨k, wbl q1, _, M1, G1, α1, p, f1, r1, .bl _⟩)
theorem dv_not {k : Bool} (h : dV X a δ M (.d (.bl k))) : dV X (.UnaryOp .Not a pos) δ M (.d (.bl (!k))) := fun Φ Ξ p => dE_not (h.ev ⟨k, rfl, p⟩)
theorem dE_if (h : dT X c δ M (fun k M1 => (k = true → dE X a δ M1 Φ Ξ) ∧ (k = false → dE X b δ M1 Φ Ξ)) Ξ) : dE X (.IfExp c a b pos) δ M Φ Ξ := fun W tk G α σ H rl xc =>
  of_pe (pe_ifExp pt_w pe_w pe_w) (h.run tk rl xc fun k M1 G1 α1 H1 p1 f1 r1 => by
    cases k with
    | true =>
      show wE X _ σ H1 _
      exact (p1.1 rfl).run tk r1 (xc.fw f1) fun k2 M2 G2 α2 v2 H2 p2 f2 r2 q2 => ⟨_, M2, G2, α2, p2, f1.trans f2, r2, q2⟩
    | false =>
      show wE X _ σ H1 _
      exact (p1.2 rfl).run tk r1 (xc.fw f1) fun k2 M2 G2 α2 v2 H2 p2 f2 r2 q2 => ⟨_, M2, G2, α2, p2, f1.trans f2, r2, q2⟩)

/-! ### argument lists, displays -/
theorem dA_nil {Φ : AP'} (p : Φ [] M) : dA X [] δ M Φ Ξ := fun W tk G α σ H rl xc => of_pa pa_nil ⟨[], M, G, α, p, Fw.refl _ _, rl, .nil⟩
theorem dA_cons {Φ : AP'} (h : dE X e δ M (fun x M1 => dA X es δ M1 (fun ws M2 => Φ (x :: ws) M2) Ξ) Ξ) (hs : starEach (e :: es) X.env = (false, eval e X.env) :: starEach es X.env := by rfl) : dA X (e :: es) δ M Φ Ξ := fun W tk G α σ H rl xc =>
  of_pa (pa_cons pe_w pa_w hs) (h.run tk rl xc fun x M1 G1 α1 v H1 p1 f1 r1 q1 =>
    p1.run tk r1 (xc.fw f1) fun ws M2 G2 α2 vs H2 p2 f2 r2 q2 => ⟨_, M2, G2, α2, p2, f1.trans f2, r2, .cons (q1.fw f2) q2⟩)
def dAV (X : Cx) (es : List Expr) (δ : DSt) (M : List MO) (ws : List W) : Prop := ∀ (Φ : AP') Ξ, Φ ws M → dA X es δ M Φ Ξ
theorem dAV.av {Φ : AP'} {ws : List W} (h : dAV X es δ M ws) (p : Φ ws M) : dA X es δ M Φ Ξ := h Φ Ξ p
theorem da_nil : dAV X [] δ M [] := fun Φ Ξ p => dA_nil p
theorem da_cons {ws : List W} (h : dV X e δ M w) (h2 : dAV X es δ M ws) (hs : starEach (e :: es) X.env = (false, eval e X.env) :: starEach es X.env := by rfl) : dAV X (e :: es) δ M (w :: ws) := fun Φ Ξ p => dA_cons (h.ev (h2.av p)) hs
/-- a tuple of data -/
theorem dE_tup {k : Nat} (h : dA X es δ M (fun ws M1 => ∃ ds, ws = ds.map W.d ∧ ds.length ≤ 1000 ∧ Φ (.d (.tup ds)) M1) Ξ) : dE X (.Tuple es k pos) δ M Φ Ξ := fun W tk G α σ H rl xc =>
  of_pe (pe_tup pa_w) (h.run tk rl xc fun ws M1 G1 α1 vs H1 p1 f1 r1 q1 => by
    obtain ⟨ds, e1, hl, p⟩ := p1
    subst e1
    have q := q1.data
    refine ⟨by rw [q.length]; exact Nat.le_trans hl (by decide), fun a ha => ?_⟩
    have s1 : Same G1 (upd G1 a (.tup vs)) := same_new (r1.m.gnone ha)
    exact ⟨_, M1, _, α1, p, f1.trans ⟨s1, Le.refl _⟩, r1.froz ha, .tup (SqT.of upd_same) (RepL.mono s1 _ _ q)⟩)
theorem dv_tup {k : Nat} {ds : List D} (h : dAV X es δ M (ds.map W.d)) (hl : ds.length ≤ 1000 := by exact Nat.le_of_ble_eq_true rfl) : dV X (.Tuple es k pos) δ M (.d (.tup ds)) := fun Φ Ξ p => dE_tup (h.av ⟨ds, rfl, hl, p⟩)
/-- a list of data, never changed -/
theorem dE_lst (h : dA X es δ M (fun ws M1 => ∃ ds, ws = ds.map W.d ∧ ds.length ≤ 1000 ∧ Φ (.d (.lst ds)) M1) Ξ) : dE X (.List es pos) δ M Φ Ξ := fun W tk G α σ H rl xc =>
  of_pe (pe_lst pa_w) (h.run tk rl xc fun ws M1 G1 α1 vs H1 p1 f1 r1 q1 => by
    obtain ⟨ds, e1, hl, p⟩ := p1
    subst e1
    have q := q1.data
    refine ⟨by rw [q.length]; exact Nat.le_trans hl (by decide), fun a ha => ?_⟩
    have s1 : Same G1 (upd G1 a (.lst vs)) := same_new (r1.m.gnone ha)
    exact ⟨_, M1, _, α1, p, f1.trans ⟨s1, Le.refl _⟩, r1.froz ha, .lst upd_same (RepL.mono s1 _ _ q)⟩)
theorem dv_lst {ds : List D} (h : dAV X es δ M (ds.map W.d)) (hl : ds.length ≤ 1000 := by exact Nat.le_of_ble_eq_true rfl) : dV X (.List es pos) δ M (.d (.lst ds)) := fun Φ Ξ p => dE_lst (h.av ⟨ds, rfl, hl, p⟩)
/-- a list that may be changed -/
theorem dE_lstO (h : dA X es δ M (fun ws M1 => ws.length ≤ 1000 ∧ Φ (.p M1.length) (M1 ++ [.lst ws])) Ξ) : dE X (.List es pos) δ M Φ Ξ := fun W tk G α σ H rl xc =>
  of_pe (pe_lst pa_w) (h.run tk rl xc fun ws M1 G1 α1 vs H1 p1 f1 r1 q1 => by
    obtain ⟨hl, p⟩ := p1
    refine ⟨by rw [q1.length]; exact Nat.le_trans hl (by decide), fun a ha => ?_⟩
    have l : Le α1 (α1 ++ [a]) := ⟨[a], rfl⟩
    refine ⟨_, _, G1, α1 ++ [a], p, f1.trans ⟨Same.refl _, l⟩, ⟨r1.m.make ha ⟨r1.m.gnone ha, vs, upd_same, WRepL.mono (Same.refl _) l q1⟩, r1.s.mono (Same.refl _) l⟩, a, rfl, ?_⟩
    rw [← r1.m.al, List.getElem?_append_right (Nat.le_refl _), Nat.sub_self]
    rfl)
/-- what was filled is frozen -/
theorem dE_freeze (h : dE X e δ M (fun x M1 => ∃ k ds, x = .p k ∧ M1[k]? = some (.lst (ds.map W.d)) ∧ Φ (.d (.lst ds)) (M1.set k .dead)) Ξ) : dE X e δ M Φ Ξ := fun W tk G α σ H rl xc =>
  h.run tk rl xc fun x M1 G1 α1 v H1 p1 f1 r1 q1 => by
    obtain ⟨k, ds, e1, hk, p⟩ := p1
    subst e1
    obtain ⟨a, e1, ha⟩ := q1
    subst e1
    obtain ⟨a', ha', gp, vs, hv, q⟩ := r1.m.ob k _ hk
    rw [ha] at ha'
    cases ha'
    have s1 : Same G1 (upd G1 a (.lst vs)) := same_new gp
    exact ⟨_, _, _, α1, p, f1.trans ⟨s1, Le.refl _⟩, ⟨r1.m.freeze hk (fun z => nomatch z) ha hv, r1.s.mono s1 (Le.refl _)⟩, .lst upd_same (RepL.mono s1 _ _ q.data)⟩
end
end DL

set_option maxRecDepth 100000
set_option maxHeartbeats 1000000
/-! # DL3: statements, loops, calls, defs -/
namespace DL
open PySem PySem.Spec PyProof.Rows L2
open PySem.W (Frag)

structure XOk (X : Cx) : Prop where
  calm : X.calm = true
  nd : X.N.Nodup
  po : PassesOwn (model X.prog X.w) X.A X.env X.xe

section
variable {X : Cx} {e a b c tg : Expr} {es : List Expr} {st : Stmt} {sts body : List Stmt} {δ : DSt} {M : List MO} {Φ : WP} {E : DE} {Ξ : XPo} {pos : Pos} {w : W}
theorem dS.run (h : dS X st δ M E Ξ) {W : WX} (tk : Takes X W) {G : Hp} {α : List Addr} {σ : L2.St} {H : Hp} (r : Rel X.K G H α σ δ M) (x : XC X.K W Ξ G α) {D : Ends} (k : Ends.Imp (DQE X.K G α E) D) : wS X st D σ H := (h W tk G α σ H r x).mono k
theorem dB.run (h : dB X sts δ M E Ξ) {W : WX} (tk : Takes X W) {G : Hp} {α : List Addr} {σ : L2.St} {H : Hp} (r : Rel X.K G H α σ δ M) (x : XC X.K W Ξ G α) {D : Ends} (k : Ends.Imp (DQE X.K G α E) D) : wB X sts D σ H := (h W tk G α σ H r x).mono k
theorem Imp.refl (D : Ends) : Ends.Imp D D := ⟨fun _ _ h => h, fun _ _ h => h, fun _ _ h => h, fun _ _ h => h⟩
theorem Imp.trans {A B C : Ends} (f : Ends.Imp A B) (g : Ends.Imp B C) : Ends.Imp A C := ⟨fun _ _ h => g.nx _ _ (f.nx _ _ h), fun _ _ h => g.rt _ _ (f.rt _ _ h), fun _ _ h => g.bk _ _ (f.bk _ _ h), fun _ _ h => g.ct _ _ (f.ct _ _ h)⟩
structure DE.Imp (E E' : DE) : Prop where
  nx : ∀ δ M, E.nx δ M → E'.nx δ M
  rt : ∀ w M, E.rt w M → E'.rt w M
  bk : ∀ δ M, E.bk δ M → E'.bk δ M
  ct : ∀ δ M, E.ct δ M → E'.ct δ M
theorem DE.Imp.refl (E : DE) : DE.Imp E E := ⟨fun _ _ h => h, fun _ _ h => h, fun _ _ h => h, fun _ _ h => h⟩
theorem DQE.imp {K : Frag} {G : Hp} {α : List Addr} {E E' : DE} (k : DE.Imp E E') : Ends.Imp (DQE K G α E) (DQE K G α E') :=
  ⟨fun _ _ ⟨a, b, c, d, p, q⟩ => ⟨a, b, c, d, k.nx _ _ p, q⟩, fun _ _ ⟨a, b, c, d, p, q⟩ => ⟨a, b, c, d, k.rt _ _ p, q⟩, fun _ _ ⟨a, b, c, d, p, q⟩ => ⟨a, b, c, d, k.bk _ _ p, q⟩, fun _ _ ⟨a, b, c, d, p, q⟩ => ⟨a, b, c, d, k.ct _ _ p, q⟩⟩
theorem dB.imp {E' : DE} (h : dB X sts δ M E Ξ) (k : DE.Imp E E') : dB X sts δ M E' Ξ := fun W tk G α σ H r x => h.run tk r x (DQE.imp k)
theorem dS.imp {E' : DE} (h : dS X st δ M E Ξ) (k : DE.Imp E E') : dS X st δ M E' Ξ := fun W tk G α σ H r x => h.run tk r x (DQE.imp k)

theorem dB_nil (p : E.nx δ M) : dB X [] δ M E Ξ := fun W tk G α σ H r x => of_pb pss_nil ⟨δ, M, G, α, p, Fw.refl _ _, r⟩
theorem dB_cons (h : dS X st δ M { E with nx := fun δ' M' => dB X sts δ' M' E Ξ } Ξ) : dB X (st :: sts) δ M E Ξ := fun W tk G α σ H r x =>
  of_pb (pss_cons ps_w pb_w) (h.run tk r x ⟨fun σ' H' ⟨δ', M', G', α', p, f, r'⟩ => p.run tk r' (x.fw f) (DQE.fw f), fun _ _ h => h, fun _ _ h => h, fun _ _ h => h⟩)
/-- the last statement -/
theorem dB_one (h : dS X st δ M E Ξ) : dB X [st] δ M E Ξ := dB_cons (h.imp ⟨fun _ _ p => dB_nil p, fun _ _ p => p, fun _ _ p => p, fun _ _ p => p⟩)
theorem dS_pass (p : E.nx δ M) : dS X (.Pass pos) δ M E Ξ := fun W tk G α σ H r x => of_ps ps_pass ⟨δ, M, G, α, p, Fw.refl _ _, r⟩
theorem dS_break (p : E.bk δ M) : dS X (.Break pos) δ M E Ξ := fun W tk G α σ H r x => of_ps ps_break ⟨δ, M, G, α, p, Fw.refl _ _, r⟩
theorem dS_continue (p : E.ct δ M) : dS X (.Continue pos) δ M E Ξ := fun W tk G α σ H r x => of_ps ps_continue ⟨δ, M, G, α, p, Fw.refl _ _, r⟩
theorem dS_expr (h : dE X e δ M (fun _ M1 => E.nx δ M1) Ξ) (hs : swapsWith e none pos.line X.env = pure false := by rfl) : dS X (.Expr e pos) δ M E Ξ := fun W tk G α σ H r x =>
  of_ps (ps_expr pe_w hs) (h.run tk r x fun w M1 G1 α1 v H1 p1 f1 r1 q1 => ⟨δ, M1, G1, α1, p1, f1, r1⟩)
theorem dS_ret (h : dE X e δ M E.rt Ξ) : dS X (.Return (some e) pos) δ M E Ξ := fun W tk G α σ H r x =>
  of_ps (ps_ret pe_w) (h.run tk r x fun w M1 G1 α1 v H1 p1 f1 r1 q1 => ⟨w, M1, G1, α1, p1, f1, r1.m, q1⟩)
theorem dS_if (h : dT X c δ M (fun k M1 => (k = true → dB X body δ M1 E Ξ) ∧ (k = false → dB X sts δ M1 E Ξ)) Ξ) : dS X (.If c body sts pos) δ M E Ξ := fun W tk G α σ H r x =>
  of_ps (ps_if pt_w pb_w pb_w) (h.run tk r x fun k M1 G1 α1 H1 p1 f1 r1 => by
    cases k with
    | true => exact (p1.1 rfl).run tk r1 (x.fw f1) (DQE.fw f1)
    | false => exact (p1.2 rfl).run tk r1 (x.fw f1) (DQE.fw f1))
/-- an if whose answer is k -/
theorem ds_if {k : Bool} (h : dTV X c δ M k) (h1 : k = true → dB X body δ M E Ξ) (h2 : k = false → dB X sts δ M E Ξ) : dS X (.If c body sts pos) δ M E Ξ := dS_if (h.tv ⟨h1, h2⟩)
theorem dS_set {i : Nat} {x : Str} {pos' : Pos} (h : dE X e δ M (fun w M1 => E.nx (δ.set i (some w)) M1) Ξ) (hN : X.N.Nodup) (hi : X.N[i]? = some x := by rfl) (hx : Loc X.env.scope x := by first | exact Or.inl rfl | exact Or.inr rfl)
    (hs : swapsWith e (some (.Name x pos')) pos.line X.env = pure false := by rfl) (hf : X.fn x = true ∨ X.env.scope.names.lookup x = some .local := by first | exact .inl rfl | exact .inr rfl) : dS X (.Assign [.Name x pos'] e pos) δ M E Ξ := fun W tk G α σ H r xc =>
  of_ps (ps_set hN hi hx pe_w hs hf) (h.run tk r xc fun w M1 G1 α1 v H1 p1 f1 r1 q1 => ⟨_, M1, G1, α1, p1, f1, r1.m, r1.s.set i q1⟩)
/-- any target -/
theorem dS_asg (h : dE X e δ M (fun w M1 => dG X tg w δ M1 E.nx) Ξ) (hs : swapsWithSole [tg] e pos.line X.env = pure false := by rfl) (hw : swappedStores [tg] e X.env = pure none := by rfl) (h1 : (assignEach [tg] X.env).map (·.2) = [assign tg X.env] := by rfl) : dS X (.Assign [tg] e pos) δ M E Ξ := fun W tk G α σ H r xc =>
  of_ps (ps_asg pe_w pg_w hs hw h1) (h.run tk r xc fun w M1 G1 α1 v H1 p1 f1 r1 q1 => (p1 G1 α1 σ H1 v r1 q1).mono fun σ' H' z => DQS.fw f1 z)
/-- targets -/
theorem dg_name {i : Nat} {x : Str} {Φ : SPo} (p : Φ (δ.set i (some w)) M) (hN : X.N.Nodup) (hi : X.N[i]? = some x := by rfl) (hx : Loc X.env.scope x := by first | exact Or.inl rfl | exact Or.inr rfl)
    (hf : X.fn x = true ∨ X.env.scope.names.lookup x = some .local := by first | exact .inl rfl | exact .inr rfl) : dG X (.Name x pos) w δ M Φ := fun G α σ H v r q =>
  of_pg (pg_name hN hi hx hf) ⟨_, M, G, α, p, Fw.refl _ _, r.m, r.s.set i q⟩
/-- targets one after another, for data -/
def dGs (X : Cx) (es : List Expr) (ds : List D) (δ : DSt) (M : List MO) (Φ : SPo) : Prop := ∀ G α σ H vs, Rel X.K G H α σ δ M → RepL X.K G vs ds → ∀ (pins : List (Addr × Obj)) (s : Shared) (us : List Value), Inv X pins σ H s → Vals vs us →
  wpAny (model X.prog X.w) X.A (assignInOrder ((assignEach es X.env).map (·.2)) us) (fun _ s' => ∃ σ' H', Inv X pins σ' H' s' ∧ DQS X.K G α Φ σ' H') X.xe s
theorem dgs_nil {Φ : SPo} (p : Φ δ M) : dGs X [] [] δ M Φ := fun G α σ H vs r q pins s us I rv => by
  cases q
  cases rv
  exact assignInOrder_nil ⟨σ, H, I, δ, M, G, α, p, Fw.refl _ _, r⟩
theorem dgs_cons {Φ : SPo} {d : D} {ds : List D} (h : dG X e (.d d) δ M (fun δ' M' => dGs X es ds δ' M' Φ)) (hs : (assignEach (e :: es) X.env).map (·.2) = assign e X.env :: (assignEach es X.env).map (·.2) := by rfl) : dGs X (e :: es) (d :: ds) δ M Φ := fun G α σ H vs r q pins s us I rv => by
  cases q with
  | cons q1 q2 =>
    cases rv with
    | cons rv rr =>
      rw [hs]
      refine assignInOrder_cons (thn ((h G α σ H _ r q1) pins s _ I rv) fun _ s1 ⟨σ1, H1, I1, δ', M', G', α', p, f, r'⟩ => ?_)
      refine thn (p G' α' σ1 H1 _ r' (RepL.mono f.g _ _ q2) pins s1 _ I1 rr) fun _ s2 ⟨σ2, H2, I2, z⟩ => ⟨σ2, H2, I2, DQS.fw f z⟩
theorem dg_tup {Φ : SPo} {ds : List D} {k n : Nat} (hc : X.calm = true) (h : dGs X es ds δ M Φ) (hl : ds.length = n := by rfl) (hn : (assignEach es X.env).length = n := by rfl) (hst : (assignEach es X.env).findIdx? (·.1) = none := by rfl) : dG X (.Tuple es k pos) (.d (.tup ds)) δ M Φ := fun G α σ H v r q => by
  have q' : Rep X.K G v (.tup ds) := q
  cases q' with
  | @tup a vs _ hs hr =>
    refine of_pg (pg_tup (t := fun vs' σ' H' Q => vs' = vs ∧ σ' = σ ∧ H' = H ∧ Q = DQS X.K G α Φ) hc ⟨fun pins s σ' H' vs' us Q I rv hq => ?_⟩ hn hst) ⟨a, vs, rfl, same_sqT r.m.gh hs, by rw [hr.length]; exact hl, rfl, rfl, rfl, rfl⟩
    obtain ⟨e1, e2, e3, e4⟩ := hq
    subst e1 e2 e3 e4
    exact h G α σ' H' vs' r hr pins s us I rv
/-- a, b = x, y -/
theorem dS_par {i j : Nat} {x y : Str} {px py pt : Pos} {kt k2 : Nat} {pt2 : Pos} (h : dA X [a, b] δ M (fun ws M1 => ∃ u v, ws = [u, v] ∧ E.nx ((δ.set i (some u)).set j (some v)) M1) Ξ) (hk : XOk X) (hi : X.N[i]? = some x := by rfl) (hj : X.N[j]? = some y := by rfl) (hij : i ≠ j := by decide)
    (hx : X.env.scope.names.lookup x = some .local := by rfl) (hy : X.env.scope.names.lookup y = some .local := by rfl)
    (hw : swappedStores [.Tuple [.Name x px, .Name y py] kt pt] (.Tuple [a, b] k2 pt2) X.env = pure (some [x, y]) := by rfl)
    (hs : swapsWithSole [.Tuple [.Name x px, .Name y py] kt pt] (.Tuple [a, b] k2 pt2) pos.line X.env = pure false := by rfl) :
    dS X (.Assign [.Tuple [.Name x px, .Name y py] kt pt] (.Tuple [a, b] k2 pt2) pos) δ M E Ξ := fun W tk G α σ H r xc =>
  of_ps (ps_par hk.calm hk.nd hi hj hij hx hy pa_w hw hs) (h.run tk r xc fun ws M1 G1 α1 vs H1 p1 f1 r1 q1 => by
    obtain ⟨u, v, e1, p⟩ := p1
    subst e1
    cases q1 with
    | cons q1 q2 =>
      cases q2 with
      | cons q2 q3 =>
        cases q3
        exact ⟨_, _, rfl, _, M1, G1, α1, p, f1, r1.m, (r1.s.set i q1).set j q2⟩)

/-! ### while, for -/
theorem dS_while (hk : XOk X) (I : Nat → SPo) (m0 : Nat) (h0 : I m0 δ M)
    (hs : ∀ m δ M, I m δ M → dT X c δ M (fun k M1 => (k = true → dB X body δ M1 { nx := fun δ' M' => ∃ m', m' < m ∧ I m' δ' M', ct := fun δ' M' => ∃ m', m' < m ∧ I m' δ' M', bk := E.nx, rt := E.rt } Ξ) ∧ (k = false → E.nx δ M1)) Ξ) : dS X (.While c body [] pos) δ M E Ξ := fun W tk G α σ H r xc => by
  refine of_ps (ps_while hk.po pt_w pb_w) ?_
  refine ⟨fun m σ' H' => DQS X.K G α (I m) σ' H', ⟨m0, δ, M, G, α, h0, Fw.refl _ _, r⟩, fun m σ1 H1 ⟨δ1, M1, G1, α1, i1, f1, r1⟩ => ?_⟩
  refine (hs m δ1 M1 i1).run tk r1 (xc.fw f1) fun k M2 G2 α2 H2 p2 f2 r2 => ?_
  cases k with
  | true =>
    refine ⟨fun σ' H' => ∃ m', m' < m ∧ DQS X.K G α (I m') σ' H', fun σ' H' z => z, ?_⟩
    have ff := f1.trans f2
    exact (p2.1 rfl).run tk r2 (xc.fw ff) ⟨fun σ' H' ⟨δ', M', G', α', ⟨m', hm, i'⟩, f', r'⟩ => ⟨m', hm, δ', M', G', α', i', ff.trans f', r'⟩, fun v H' z => DQR.fw ff z, fun σ' H' z => DQS.fw ff z,
      fun σ' H' ⟨δ', M', G', α', ⟨m', hm, i'⟩, f', r'⟩ => ⟨m', hm, δ', M', G', α', i', ff.trans f', r'⟩⟩
  | false => exact ⟨_, _, _, _, p2.2 rfl, f1.trans f2, r2⟩

/-- what is walked as a list, as a tuple -/
inductive IsLst (M : List MO) : W → List W → Prop
  | d (ds : List D) : IsLst M (.d (.lst ds)) (ds.map W.d)
  | scr (ns : List Int) : IsLst M (.d (.scr ns)) (ns.map fun n => W.d (.int n))
  | p {k : Nat} {ws : List W} : M[k]? = some (.lst ws) → IsLst M (.p k) ws
inductive IsTup : W → List W → Prop
  | d (ds : List D) : IsTup (.d (.tup ds)) (ds.map W.d)
theorem IsLst.at_ {M : List MO} {K : Frag} {G H : Hp} {α : List Addr} {v : V} {w : W} {ws : List W} (l : IsLst M w ws) (r : RelM K G H α M) (q : WRep K G α v w) : ∃ a vs, v = .ref a ∧ SqL K H a vs ∧ WRepL K G α vs ws := by
  cases l with
  | d ds =>
    have q' : Rep K G v (.lst ds) := q
    cases q' with
    | lst hs hr => exact ⟨_, _, rfl, SqL.of (r.gh _ _ hs), WRepL.of hr⟩
  | scr ns =>
    have q' : Rep K G v (.scr ns) := q
    cases q' with
    | scr hs =>
      refine ⟨_, _, rfl, same_sqL r.gh hs, ?_⟩
      clear q r hs
      induction ns with
      | nil => exact .nil
      | cons n ns ih => exact .cons (.int n) ih
  | p hk =>
    obtain ⟨a, e1, ha⟩ := q
    obtain ⟨a', ha', gp, vs, hv, z⟩ := r.ob _ _ hk
    rw [ha] at ha'
    cases ha'
    exact ⟨a, vs, e1, SqL.of hv, z⟩
theorem IsTup.at_ {K : Frag} {M : List MO} {G H : Hp} {α : List Addr} {v : V} {w : W} {ws : List W} (l : IsTup w ws) (r : RelM K G H α M) (q : WRep K G α v w) : ∃ a vs, v = .ref a ∧ SqT K H a vs ∧ WRepL K G α vs ws := by
  cases l with
  | d ds =>
    have q' : Rep K G v (.tup ds) := q
    cases q' with
    | tup hs hr => exact ⟨_, _, rfl, same_sqT r.gh hs, WRepL.of hr⟩
theorem Paired.get' {A B : Type} {R : A → B → Prop} : ∀ {l : List A} {m : List B} {i : Nat} {y : B}, Paired R l m → m[i]? = some y → ∃ x, l[i]? = some x ∧ R x y
  | _, _, _, _, .nil, h => by simp at h
  | _, _, 0, _, .cons q _, h => by
    have e := Option.some.inj (h : some _ = some _)
    subst e
    exact ⟨_, rfl, q⟩
  | _, _, i + 1, _, .cons _ t, h => by
    obtain ⟨x, e, q⟩ := Paired.get' (i := i) t (by simpa using h)
    exact ⟨x, by simpa using e, q⟩
/-- a for's way through: items ws, invariant I by the turn -/
structure ForP (X : Cx) (tg : Expr) (body : List Stmt) (E : DE) (Ξ : XPo) (n : Nat) (it : Nat → Option W) (I : Nat → SPo) : Prop where
  turn : ∀ i x δ M, i < n → it i = some x → I i δ M → dG X tg x δ M (fun δ1 M1 => dB X body δ1 M1 { nx := I (i + 1), ct := I (i + 1), bk := E.nx, rt := E.rt } Ξ)
  done : ∀ δ M, I n δ M → E.nx δ M
theorem for_body {n : Nat} {it : Nat → Option W} {I : Nat → SPo} (P : ForP X tg body E Ξ n it I) {W : WX} (tk : Takes X W) {G G1 : Hp} {α α1 : List Addr} {σ : L2.St} {H : Hp} {i : Nat} {x : DL.W} {v : V} (hi : i < n) (hx : it i = some x) {δ1 : DSt} {M1 : List MO} (i1 : I i δ1 M1) (f1 : Fw G α G1 α1) (r1 : Rel X.K G1 H α1 σ δ1 M1) (q : WRep X.K G1 α1 v x) (xc : XC X.K W Ξ G α) :
    wG X tg v σ H (fun σ2 H2 => wB X body { nx := DQS X.K G α (I (i + 1)), rt := (DQE X.K G α E).rt, ct := DQS X.K G α (I (i + 1)), bk := DQS X.K G α E.nx } σ2 H2) :=
  (P.turn i x δ1 M1 hi hx i1 G1 α1 σ H v r1 q).mono fun σ2 H2 ⟨δ2, M2, G2, α2, p2, f2, r2⟩ =>
    p2.run tk r2 (xc.fw (f1.trans f2)) ⟨fun _ _ z => DQS.fw (f1.trans f2) z, fun _ _ z => DQR.fw (f1.trans f2) z, fun _ _ z => DQS.fw (f1.trans f2) z, fun _ _ z => DQS.fw (f1.trans f2) z⟩
theorem dS_forL {it : Expr} (hk : XOk X) (h : dE X it δ M (fun w M1 => ∃ (ws : List W) (I : Nat → SPo), (∀ i δ M, i ≤ ws.length → I i δ M → IsLst M w ws) ∧ I 0 δ M1 ∧ ForP X tg body E Ξ ws.length (fun i => ws[i]?) I) Ξ) (hs : ∀ x, foldedSetIterable it X.env x = pure x := by intro _; rfl) : dS X (.For tg it body [] pos) δ M E Ξ := fun W tk G α σ H r xc => by
  refine of_ps (ps_for hk.po hk.calm (pi_list pe_w) pg_w pb_w hs) (h.run tk r xc fun w M1 G1 α1 v H1 p1 f1 r1 q1 => ?_)
  obtain ⟨ws, I, hl, i0, P⟩ := p1
  obtain ⟨a, vs, e1, hsq, _⟩ := (hl 0 δ M1 (Nat.zero_le _) i0).at_ r1.m q1
  subst e1
  refine ⟨a, rfl, ⟨vs, hsq⟩, fun i m σ' H' => m = ws.length - i ∧ i ≤ ws.length ∧ DQS X.K G1 α1 (I i) σ' H', ⟨ws.length, by simp, Nat.zero_le _, δ, M1, G1, α1, i0, Fw.refl _ _, r1⟩, ?_⟩
  rintro i m σ2 H2 ⟨rfl, hi, δ2, M2, G2, α2, i2, f2, r2⟩
  obtain ⟨a', vs2, e2, hsq2, rep2⟩ := (hl i δ2 M2 hi i2).at_ r2.m (q1.fw f2)
  cases e2
  by_cases hlt : i < ws.length
  · obtain ⟨x, ex, rx⟩ := Paired.get' rep2 (List.getElem?_eq_getElem hlt)
    refine .inr ⟨⟨vs2, x, hsq2, ex⟩, fun σ' H' => DQS X.K G1 α1 (I (i + 1)) σ' H', fun σ' H' z => ⟨ws.length - (i + 1), by omega, rfl, hlt, z⟩, fun y H' hy => ?_⟩
    obtain ⟨eH, fy⟩ := hy
    subst eH
    have ey := fy vs2 hsq2
    rw [ex] at ey
    cases ey
    refine (for_body P tk hlt (List.getElem?_eq_getElem hlt) i2 f2 r2 rx (xc.fw f1)).mono fun σ3 H3 z => z.mono ⟨fun _ _ z => z, fun _ _ z => DQR.fw f1 z, fun _ _ z => DQS.fw f1 z, fun _ _ z => z⟩
  · have e : i = ws.length := by omega
    subst e
    refine .inl ⟨⟨vs2, hsq2, by rw [Paired.length rep2]; exact Nat.le_refl _⟩, δ2, M2, G2, α2, P.done _ _ i2, f1.trans f2, r2⟩
theorem dS_forT {it : Expr} (hk : XOk X) (h : dE X it δ M (fun w M1 => ∃ (ds : List D) (I : Nat → SPo), w = .d (.tup ds) ∧ I 0 δ M1 ∧ ForP X tg body E Ξ ds.length (fun i => (ds[i]?).map W.d) I) Ξ) (hs : ∀ x, foldedSetIterable it X.env x = pure x := by intro _; rfl) : dS X (.For tg it body [] pos) δ M E Ξ := fun W tk G α σ H r xc => by
  refine of_ps (ps_for hk.po hk.calm (pi_tup pe_w) pg_w pb_w hs) (h.run tk r xc fun w M1 G1 α1 v H1 p1 f1 r1 q1 => ?_)
  obtain ⟨ds, I, e1, i0, P⟩ := p1
  subst e1
  have q' : Rep X.K G1 v (.tup ds) := q1
  cases q' with
  | @tup a vs _ hsq hr =>
  have hsq1 : SqT X.K H1 a vs := same_sqT r1.m.gh hsq
  refine ⟨a, rfl, ⟨vs, hsq1⟩, fun i m σ' H' => m = ds.length - i ∧ i ≤ ds.length ∧ DQS X.K G1 α1 (I i) σ' H', ⟨ds.length, by simp, Nat.zero_le _, δ, M1, G1, α1, i0, Fw.refl _ _, r1⟩, ?_⟩
  rintro i m σ2 H2 ⟨rfl, hi, δ2, M2, G2, α2, i2, f2, r2⟩
  have hsq2 : SqT X.K H2 a vs := same_sqT r2.m.gh (same_sqT f2.g hsq)
  by_cases hlt : i < ds.length
  · obtain ⟨x, ex, rx⟩ := RepL.get hr (List.getElem?_eq_getElem hlt)
    refine .inr ⟨⟨vs, x, hsq2, ex⟩, fun σ' H' => DQS X.K G1 α1 (I (i + 1)) σ' H', fun σ' H' z => ⟨ds.length - (i + 1), by omega, rfl, hlt, z⟩, fun y H' hy => ?_⟩
    obtain ⟨eH, fy⟩ := hy
    subst eH
    have ey := fy vs hsq2
    rw [ex] at ey
    cases ey
    refine (for_body P tk hlt (x := .d ds[i]) (by rw [List.getElem?_eq_getElem hlt]; rfl) i2 f2 r2 (Rep.mono f2.g _ _ rx) (xc.fw f1)).mono fun σ3 H3 z => z.mono ⟨fun _ _ z => z, fun _ _ z => DQR.fw f1 z, fun _ _ z => DQS.fw f1 z, fun _ _ z => z⟩
  · have e : i = ds.length := by omega
    subst e
    refine .inl ⟨⟨vs, hsq2, by rw [hr.length]; exact Nat.le_refl _⟩, δ2, M2, G2, α2, P.done _ _ i2, f1.trans f2, r2⟩
theorem forR_core {lo hi : Int} {I : Nat → SPo} {W : WX} (tk : Takes X W) {G : Hp} {α : List Addr} (xc : XC X.K W Ξ G α) {G1 : Hp} {α1 : List Addr} {σ : L2.St} {H1 : Hp} {M1 : List MO} (f1 : Fw G α G1 α1) (r1 : Rel X.K G1 H1 α1 σ δ M1) (i0 : I 0 δ M1)
    (P : ForP X tg body E Ξ (hi - lo).toNat (fun i => some (.d (.int (lo + i)))) I) :
    ∃ W : Nat → Nat → L2.St → Hp → Prop, (∃ m, W 0 m σ H1) ∧ ∀ i m σ H, W i m σ H → ((Itr lo (hi - lo).toNat).stop i H ∧ (DQE X.K G α E).nx σ H) ∨ ((Itr lo (hi - lo).toNat).go i H ∧ ∃ N : L2.St → Hp → Prop, (∀ σ' H', N σ' H' → ∃ m', m' < m ∧ W (i + 1) m' σ' H') ∧ ∀ x H', (Itr lo (hi - lo).toNat).yld i H x H' →
      wG X tg x σ H' fun σ2 H2 => wB X body { DQE X.K G α E with nx := N, ct := N, bk := (DQE X.K G α E).nx } σ2 H2) := by
  refine ⟨fun i m σ' H' => m = (hi - lo).toNat - i ∧ i ≤ (hi - lo).toNat ∧ DQS X.K G1 α1 (I i) σ' H', ⟨(hi - lo).toNat, by simp, Nat.zero_le _, δ, M1, G1, α1, i0, Fw.refl _ _, r1⟩, ?_⟩
  rintro i m σ2 H2 ⟨rfl, hle, δ2, M2, G2, α2, i2, f2, r2⟩
  by_cases hlt : i < (hi - lo).toNat
  · refine .inr ⟨hlt, fun σ' H' => DQS X.K G1 α1 (I (i + 1)) σ' H', fun σ' H' z => ⟨(hi - lo).toNat - (i + 1), by omega, rfl, hlt, z⟩, fun y H' hy => ?_⟩
    obtain ⟨eH, ey⟩ := hy
    subst eH ey
    refine (for_body P tk hlt rfl i2 f2 r2 (v := .int (lo + i)) (.int _) (xc.fw f1)).mono fun σ3 H3 z => z.mono ⟨fun _ _ z => z, fun _ _ z => DQR.fw f1 z, fun _ _ z => DQS.fw f1 z, fun _ _ z => z⟩
  · have e : i = (hi - lo).toNat := by omega
    subst e
    exact .inl ⟨Nat.le_refl _, δ2, M2, G2, α2, P.done _ _ i2, f1.trans f2, r2⟩
theorem dS_forR1 {p p2 : Pos} (hk : XOk X) (hm : X.mg "range" = none) (h : dE X a δ M (fun w M1 => ∃ (n : Int) (I : Nat → SPo), w = .d (.int n) ∧ -(2 ^ 62) ≤ n ∧ n < 2 ^ 62 ∧ I 0 δ M1 ∧ ForP X tg body E Ξ (n - 0).toNat (fun i => some (.d (.int (0 + i)))) I) Ξ)
    (hg : Gl X "range" := by rfl) (hse : starEach [a] X.env = [(false, eval a X.env)] := by rfl) (hs : ∀ x, foldedSetIterable (.Call (.Name "range" p) [a] [] p2) X.env x = pure x := by intro _; rfl) : dS X (.For tg (.Call (.Name "range" p) [a] [] p2) body [] pos) δ M E Ξ := fun W tk G α σ H r xc => by
  refine of_ps (ps_for hk.po hk.calm (pi_range1 hg hm (pa_cons pe_w pa_nil (by rw [hse]; rfl)) hse) pg_w pb_w hs) (h.run tk r xc fun w M1 G1 α1 v H1 p1 f1 r1 q1 => ?_)
  obtain ⟨n, I, e1, n1, n2, i0, P⟩ := p1
  subst e1
  refine ⟨n, by rw [wint q1], n1, n2, ?_⟩
  have z := forR_core (lo := 0) (hi := n) tk xc f1 r1 i0 P
  rw [show n - 0 = n by omega] at z
  exact z
theorem dS_forR2 {p p2 : Pos} (hk : XOk X) (hm : X.mg "range" = none) (h : dE X a δ M (fun w M1 => dE X b δ M1 (fun u M2 => ∃ (lo hi : Int) (I : Nat → SPo), w = .d (.int lo) ∧ u = .d (.int hi) ∧ (-(2 ^ 62) ≤ lo ∧ lo < 2 ^ 62 ∧ -(2 ^ 62) ≤ hi ∧ hi < 2 ^ 62) ∧ I 0 δ M2 ∧ ForP X tg body E Ξ (hi - lo).toNat (fun i => some (.d (.int (lo + i)))) I) Ξ) Ξ)
    (hg : Gl X "range" := by rfl) (hse : starEach [a, b] X.env = [(false, eval a X.env), (false, eval b X.env)] := by rfl) (hse2 : starEach [b] X.env = [(false, eval b X.env)] := by rfl) (hs : ∀ x, foldedSetIterable (.Call (.Name "range" p) [a, b] [] p2) X.env x = pure x := by intro _; rfl) : dS X (.For tg (.Call (.Name "range" p) [a, b] [] p2) body [] pos) δ M E Ξ := fun W tk G α σ H r xc => by
  refine of_ps (ps_for hk.po hk.calm (pi_range2 hg hm (pa_cons pe_w (pa_cons pe_w pa_nil (by rw [hse2]; rfl)) (by rw [hse, hse2])) hse hse2) pg_w pb_w hs) (h.run tk r xc fun w M1 G1 α1 v H1 p1 f1 r1 q1 => p1.run tk r1 (xc.fw f1) fun u M2 G2 α2 v2 H2 p2 f2 r2 q2 => ?_)
  obtain ⟨lo, hi, I, e1, e2, hb, i0, P⟩ := p2
  subst e1 e2
  exact ⟨lo, hi, by rw [wint q1, wint q2], hb, forR_core tk xc (f1.trans f2) r2 i0 P⟩
end

/-! ### calls of one's own defs -/
abbrev XR := DX → List MO → Prop
abbrev FSpec := List W → List MO → WP → XR → Prop
def spD (K : Frag) (ps : FSpec) : Sp := fun vs H Q E => ∃ (G : Hp) (α : List Addr) (ws : List W) (M : List MO) (Φ : WP) (Ξ : XR), RelM K G H α M ∧ WRepL K G α vs ws ∧ ps ws M Φ Ξ ∧ (∀ v H', DQR K G α Φ v H' → Q v H') ∧
  (∀ x M' G' α' H' cls dd, Ξ x M' → Fw G α G' α' → RelM K G' H' α' M' → ExRep x cls dd G' → E cls dd H')
structure Callee (P : Program) (w : World) (K : Frag) (mg : Str → Option Value) (base : Heap) (k : Nat) (x : Str) (ps : List Str) (sp : FSpec) : Prop where
  ex : ∃ f fd, mg x = some (.ref f) ∧ PySem.W.keepIn K (.ref f) = true ∧ Binds K fd ps [] ∧ FnOk P w K mg base (L2.CX P w) k f fd ps (spD K sp)
theorem Callee.mono {P : Program} {w : World} {K : Frag} {mg : Str → Option Value} {base : Heap} {j k : Nat} {x : Str} {ps : List Str} {sp : FSpec} (c : Callee P w K mg base j x ps sp) (h : j ≤ k) : Callee P w K mg base k x ps sp :=
  let ⟨f, fd, a, b, d, e⟩ := c.ex; ⟨f, fd, a, b, d, e.mono h⟩
theorem Callee.imp {P : Program} {w : World} {K : Frag} {mg : Str → Option Value} {base : Heap} {k : Nat} {x : Str} {ps : List Str} {sp sp' : FSpec} (c : Callee P w K mg base k x ps sp) (h : ∀ ws M Φ Ξ, sp' ws M Φ Ξ → sp ws M Φ Ξ) : Callee P w K mg base k x ps sp' :=
  let ⟨f, fd, a, b, d, e⟩ := c.ex; ⟨f, fd, a, b, d, e.imp fun _ _ _ _ ⟨G, α, ws, M, Φ, Ξ, p, q, r, s, t⟩ => ⟨G, α, ws, M, Φ, Ξ, p, q, h _ _ _ _ r, s, t⟩⟩
section
variable {X : Cx} {e : Expr} {es : List Expr} {δ : DSt} {M : List MO} {Φ : WP} {Ξ : XPo} {pos p : Pos}
theorem dE_call {k : Nat} {x : Str} {ps : List Str} {sp : FSpec} (C : Callee X.prog X.w X.K X.mg X.base k x ps sp) (hr : Room k X.A) (h : dA X (e :: es) δ M (fun ws M1 => sp ws M1 Φ (fun y M2 => Ξ y δ M2)) Ξ) (hg : Gl X x := by rfl) (hdb : (x == ("__debug__" : Str)) = false := by decide)
    (he : starEach (e :: es) X.env = (false, eval e X.env) :: starEach es X.env := by rfl) (hpl : (backTo pos (starEach es X.env)).any (·.1) = false := by rfl) : dE X (.Call (.Name x p) (e :: es) [] pos) δ M Φ Ξ := fun W tk G α σ H r xc => by
  obtain ⟨f, fd, hm, hkp, hb, F⟩ := C.ex
  refine of_pe (pe_callS F hr hg hm hkp hb (fun σ => passAt tk σ) pa_w hdb he hpl) (h.run tk r xc fun ws M1 G1 α1 vs H1 p1 f1 r1 q1 => ?_)
  refine ⟨G1, α1, ws, M1, Φ, _, r1.m, q1, p1, fun v H' ⟨w, M', G', α', a, f, b, c⟩ => ⟨w, M', G', α', a, f1.trans f, ⟨b, r1.s.fw f⟩, c⟩, fun y M' G' α' H' cls dd a f b c => ?_⟩
  exact xc y δ M' σ G' α' H' cls dd a (f1.trans f) ⟨b, r1.s.fw f⟩ c
theorem dv_call {k : Nat} {x : Str} {ps : List Str} {sp : FSpec} {ws : List W} {w : W} (C : Callee X.prog X.w X.K X.mg X.base k x ps sp) (hr : Room k X.A) (ha : dAV X (e :: es) δ M ws) (h : ∀ Φ Ξ, Φ w M → sp ws M Φ Ξ) (hg : Gl X x := by rfl) (hdb : (x == ("__debug__" : Str)) = false := by decide)
    (he : starEach (e :: es) X.env = (false, eval e X.env) :: starEach es X.env := by rfl) (hpl : (backTo pos (starEach es X.env)).any (·.1) = false := by rfl) : dV X (.Call (.Name x p) (e :: es) [] pos) δ M w := fun Φ Ξ q => dE_call C hr (ha.av (h Φ _ q)) hg hdb he hpl
/-! ### calls of builtins -/
def RCall (K : Frag) (r : List V → Hp → VK → Prop) (ws : List W) (M : List MO) (Φ : WP) : Prop := ∀ G α σ δ H vs Q, Rel K G H α σ δ M → WRepL K G α vs ws → (∀ v H', DQ K G α σ δ Φ v H' → Q v H') → r vs H Q
theorem dE_callB {x : Str} {id : String} {r : List V → Hp → VK → Prop} (hc : CallR X (.builtin id) r) (hm : X.mg x = none) (hv : bootBuiltins x = some (.builtin id)) (h : dA X (e :: es) δ M (fun ws M1 => RCall X.K r ws M1 Φ) Ξ) (hg : Gl X x := by rfl) (hn : x ≠ "__name__" := by decide) (hdb : (x == ("__debug__" : Str)) = false := by decide)
    (he : starEach (e :: es) X.env = (false, eval e X.env) :: starEach es X.env := by rfl) (hpl : (backTo pos (starEach es X.env)).any (·.1) = false := by rfl) : dE X (.Call (.Name x p) (e :: es) [] pos) δ M Φ Ξ := fun W tk G α σ H rl xc =>
  of_pe (pe_callB hc hg hm hv pa_w hn hdb he hpl) (h.run tk rl xc fun ws M1 G1 α1 vs H1 p1 f1 r1 q1 => p1 G1 α1 σ δ H1 vs _ r1 q1 fun v H' z => DQ.fw f1 z)
theorem dE_callTy {x : Str} {T : String} {r : List V → Hp → VK → Prop} (hc : CallR X (.type T) r) (hm : X.mg x = none) (hv : bootBuiltins x = some (.type T)) (h : dA X (e :: es) δ M (fun ws M1 => RCall X.K r ws M1 Φ) Ξ) (hg : Gl X x := by rfl) (hn : x ≠ "__name__" := by decide) (hdb : (x == ("__debug__" : Str)) = false := by decide)
    (he : starEach (e :: es) X.env = (false, eval e X.env) :: starEach es X.env := by rfl) (hpl : (backTo pos (starEach es X.env)).any (·.1) = false := by rfl) : dE X (.Call (.Name x p) (e :: es) [] pos) δ M Φ Ξ := fun W tk G α σ H rl xc =>
  of_pe (pe_callTy hc hg hm hv pa_w hn hdb he hpl) (h.run tk rl xc fun ws M1 G1 α1 vs H1 p1 f1 r1 q1 => p1 G1 α1 σ δ H1 vs _ r1 q1 fun v H' z => DQ.fw f1 z)
end

/-! ### a def keeps its promise -/
def W.below (n : Nat) : W → Prop
  | .d _ => True
  | .p k => k < n
def MO.below (n : Nat) : MO → Prop
  | .lst xs => ∀ w ∈ xs, w.below n
  | .dic kvs => ∀ p ∈ kvs, p.2.below n
  | .ins _ fs => ∀ p ∈ fs, p.2.below n
  | .dead => True
/-- what the store mentions stands in it -/
def Clo (M : List MO) : Prop := ∀ o ∈ M, o.below M.length
theorem WRep.below {K : Frag} {G : Hp} {α : List Addr} {v : V} : ∀ {w : W}, WRep K G α v w → w.below α.length
  | .d _, _ => trivial
  | .p k, ⟨a, _, h⟩ => (List.getElem?_eq_some_iff.mp h).1
theorem Paired.memR {A B : Type} {R : A → B → Prop} : ∀ {l : List A} {m : List B}, Paired R l m → ∀ y ∈ m, ∃ x ∈ l, R x y
  | _, _, .nil, y, h => by cases h
  | _, _, .cons q t, y, h => by
    rcases List.mem_cons.mp h with e | h
    · subst e; exact ⟨_, List.mem_cons_self, q⟩
    · obtain ⟨x, hx, r⟩ := Paired.memR t y h
      exact ⟨x, List.mem_cons_of_mem _ hx, r⟩
theorem MRep.below {K : Frag} {G H : Hp} {α : List Addr} {p : Addr} : ∀ {o : MO}, MRep K G α H p o → o.below α.length
  | .lst xs, ⟨_, vs, _, r⟩ => fun w hw => let ⟨_, _, q⟩ := Paired.memR r w hw; WRep.below q
  | .dic kvs, ⟨_, ks, _, r⟩ => fun w hw => let ⟨_, _, q⟩ := Paired.memR r w hw; WRep.below q.2
  | .ins C fs, ⟨_, dx, vs, _, r⟩ => fun w hw => let ⟨_, _, q⟩ := Paired.memR r w hw; WRep.below q.2
  | .dead, _ => trivial
theorem RelM.clo {K : Frag} {G H : Hp} {α : List Addr} {M : List MO} (r : RelM K G H α M) : Clo M := fun o ho => by
  obtain ⟨k, hk, e⟩ := List.mem_iff_getElem.mp ho
  obtain ⟨p, _, q⟩ := r.ob k o (by rw [List.getElem?_eq_getElem hk, e])
  rw [← r.al]
  exact q.below
theorem WRep.cut {K : Frag} {G : Hp} {α β : List Addr} {v : V} : ∀ {w : W}, w.below α.length → WRep K G (α ++ β) v w → WRep K G α v w
  | .d _, _, h => h
  | .p k, hb, ⟨a, e, h⟩ => ⟨a, e, by rw [List.getElem?_append_left hb] at h; exact h⟩
theorem paired_cut {A B : Type} {R S : A → B → Prop} : ∀ {l : List A} {m : List B}, Paired R l m → (∀ x, ∀ y ∈ m, R x y → S x y) → Paired S l m
  | _, _, .nil, _ => .nil
  | _, _, .cons q t, h => .cons (h _ _ List.mem_cons_self q) (paired_cut t fun x y hy => h x y (List.mem_cons_of_mem _ hy))
theorem MRep.cut {K : Frag} {G H : Hp} {α β : List Addr} {p : Addr} : ∀ {o : MO}, o.below α.length → MRep K G (α ++ β) H p o → MRep K G α H p o
  | .lst xs, hb, ⟨g, vs, e, r⟩ => ⟨g, vs, e, paired_cut r fun _ y hy q => WRep.cut (hb y hy) q⟩
  | .dic kvs, hb, ⟨g, vs, e, r⟩ => ⟨g, vs, e, paired_cut r fun _ y hy q => ⟨q.1, WRep.cut (hb y hy) q.2⟩⟩
  | .ins C fs, hb, ⟨g, dx, vs, e, r⟩ => ⟨g, dx, vs, e, paired_cut r fun _ y hy q => ⟨q.1, WRep.cut (hb y hy) q.2⟩⟩
  | .dead, _, _ => trivial
theorem RelM.cut {K : Frag} {G H : Hp} {α β : List Addr} {M N : List MO} (r : RelM K G H (α ++ β) (M ++ N)) (hl : α.length = M.length) (c : Clo M) : RelM K G H α M := by
  refine ⟨r.gh, hl, r.nd.sublist (List.sublist_append_left _ _), fun p hp => r.here p (List.mem_append_left _ hp), fun k o h => ?_⟩
  have hk : k < M.length := (List.getElem?_eq_some_iff.mp h).1
  obtain ⟨p, e, q⟩ := r.ob k o (by rw [List.getElem?_append_left hk]; exact h)
  rw [List.getElem?_append_left (by rw [hl]; exact hk)] at e
  exact ⟨p, e, MRep.cut (by rw [hl]; exact c o (List.mem_of_getElem? h)) q⟩
/-- the end of a body: the store, less what the body leaves behind unused -/
def Ret (Φ : WP) (n : Nat) : WP := fun w Mf => ∃ M' g, Mf = M' ++ g ∧ n ≤ M'.length ∧ Clo M' ∧ w.below M'.length ∧ Φ w M'
def RetX (Ξ : XR) (n : Nat) : DX → List MO → Prop := fun x Mf => ∃ M' g, Mf = M' ++ g ∧ n ≤ M'.length ∧ Clo M' ∧ Ξ x M'
theorem Ret.of {Φ : WP} {M g : List MO} {d : D} (c : Clo M) (p : Φ (.d d) M) : Ret Φ M.length (.d d) (M ++ g) := ⟨M, g, rfl, Nat.le_refl _, c, trivial, p⟩
theorem Ret.of0 {Φ : WP} {M : List MO} {d : D} (c : Clo M) (p : Φ (.d d) M) : Ret Φ M.length (.d d) M := ⟨M, [], (List.append_nil M).symm, Nat.le_refl _, c, trivial, p⟩
theorem RetX.of {Ξ : XR} {M g : List MO} {x : DX} (c : Clo M) (p : Ξ x M) : RetX Ξ M.length x (M ++ g) := ⟨M, g, rfl, Nat.le_refl _, c, p⟩
theorem RetX.of0 {Ξ : XR} {M : List MO} {x : DX} (c : Clo M) (p : Ξ x M) : RetX Ξ M.length x M := ⟨M, [], (List.append_nil M).symm, Nat.le_refl _, c, p⟩
theorem cut_at {α α' : List Addr} {M M' g : List MO} {K : Frag} {G H : Hp} (l : Le α α') (hl : α.length = M.length) (r : RelM K G H α' (M' ++ g)) (hn : M.length ≤ M'.length) (c : Clo M') : ∃ α1, Le α α1 ∧ Le α1 α' ∧ RelM K G H α1 M' ∧ α1.length = M'.length := by
  have hA : α'.length = (M' ++ g).length := r.al
  rw [List.length_append] at hA
  have e : α' = α'.take M'.length ++ α'.drop M'.length := (List.take_append_drop _ _).symm
  have l1 : (α'.take M'.length).length = M'.length := by rw [List.length_take]; omega
  refine ⟨α'.take M'.length, ?_, ⟨_, e⟩, ?_, l1⟩
  · obtain ⟨u, rfl⟩ := l
    refine ⟨u.take (M'.length - α.length), ?_⟩
    rw [List.take_append, List.take_of_length_le (by omega)]
  · rw [e] at r
    exact r.cut l1 c
abbrev bodyX (P : Program) (w : World) (K : Frag) (mg : Str → Option Value) (base : Heap) (N : List Str) (qual : Str) (st : Stmt) (f : Addr) (cdv : Value) (A : Around) (outer : List Env) (s : Shared) (H : Hp) (E : XK) : Cx := cxOf (L2.CX P w) P w K mg base N qual (defScope st) f cdv A outer s H E
theorem fnok_of {P : Program} {w : World} {K : Frag} {mg : Str → Option Value} {base : Heap} {x qual : Str} {st : Stmt} {f : Addr} {fd : FuncData} {N ps : List Str} {k : Nat} {sp : FSpec} (F : Fun K x qual st f fd) (S : FnScope N ps (defScope st))
    (hlen : ∀ ws M Φ Ξ, sp ws M Φ Ξ → ws.length = ps.length)
    (hbody : ∀ (cdv : Value) (A : Around) (outer : List Env) (s : Shared) (H : Hp) (E : XK), Room k (A.deeper (envOfC qual (defScope st) s.heap.objs.size f cdv)) → XOk (bodyX P w K mg base N qual st f cdv A outer s H E) → ∀ ws M Φ Ξ, Clo M → sp ws M Φ Ξ →
      dB (bodyX P w K mg base N qual st f cdv A outer s H E) (defBody st) (ws.map some ++ List.replicate (N.length - ws.length) none) M { nx := fun _ M' => Ret Φ M.length (.d .non) M', rt := Ret Φ M.length } (fun y _ M' => RetX Ξ M.length y M')) : FnOk P w K mg base (L2.CX P w) (k + 1) f fd ps (spD K sp) := by
  refine F.okX S (fun vs H Q E h => ?_) (fun cdv A outer s H vs Q E hr h => ?_)
  · obtain ⟨G, α, ws, M, Φ, Ξ, r, q, p, _⟩ := h
    rw [Paired.length q]
    exact hlen _ _ _ _ p
  · obtain ⟨G, α, ws, M, Φ, Ξ, r, q, p, kQ, kE⟩ := h
    have hk : XOk (bodyX P w K mg base N qual st f cdv A outer s H E) := ⟨rfl, S.nd, passes_of rfl⟩
    refine ⟨wB _ (defBody st), pb_w, ?_⟩
    have hw := Paired.length q
    have rs : RelS K G α (L2.start N vs) (ws.map some ++ List.replicate (N.length - ws.length) none) := by
      refine ⟨by unfold L2.start; rw [List.length_append, List.length_append, List.length_map, List.length_map, List.length_replicate, List.length_replicate, hw], fun i u e => ?_⟩
      unfold L2.start
      by_cases hi : i < ws.length
      · rw [List.getElem?_append_left (by simpa using hi), List.getElem?_map, List.getElem?_eq_getElem hi] at e
        have e' : ws[i] = u := Option.some.inj (Option.some.inj e)
        obtain ⟨v, ev, rv⟩ := Paired.get' q (List.getElem?_eq_getElem hi)
        rw [e'] at rv
        refine ⟨v, ?_, rv⟩
        rw [List.getElem?_append_left (by simpa [hw] using hi), List.getElem?_map, ev]
        rfl
      · rw [List.getElem?_append_right (by simpa using hi), List.getElem?_replicate] at e
        split at e <;> cases e
    have fin : ∀ v w Mf G' α' H', Ret Φ M.length w Mf → Fw G α G' α' → RelM K G' H' α' Mf → WRep K G' α' v w → Q v H' := fun v w Mf G' α' H' z f r' q' => by
      obtain ⟨M', g', e1, hn, c, hb, ph⟩ := z
      subst e1
      obtain ⟨α1, l1, l2, r1, hl1⟩ := cut_at f.l r.al r' hn c
      obtain ⟨β, eβ⟩ := l2
      subst eβ
      exact kQ v H' ⟨w, M', G', α1, ph, ⟨f.g, l1⟩, r1, WRep.cut (by rw [hl1]; exact hb) q'⟩
    refine (hbody cdv A outer s H E hr hk ws M Φ Ξ r.clo p (fun cls dd _ H' => E cls dd H') (takes_of rfl rfl rfl rfl) G α _ H ⟨r, rs⟩ ?_).mono ?_
    · intro y δ' Mf σ' G' α' H' cls dd z f r' ex
      obtain ⟨M', g', e1, hn, c, ph⟩ := z
      subst e1
      obtain ⟨α1, l1, l2, r1, hl1⟩ := cut_at f.l r.al r'.m hn c
      exact kE y M' G' α1 H' cls dd ph ⟨f.g, l1⟩ r1 ex
    · refine ⟨fun σ' H' ⟨δ', Mf, G', α', z, f, r'⟩ => fin _ _ _ _ _ _ z f r'.m .non, fun v H' ⟨w, Mf, G', α', z, f, r', q'⟩ => fin v w Mf G' α' H' z f r' q', fun _ _ ⟨_, _, _, _, z, _⟩ => z.elim, fun _ _ ⟨_, _, _, _, z, _⟩ => z.elim⟩
theorem callee_of {P : Program} {w : World} {K : Frag} {mg : Str → Option Value} {base : Heap} {x qual : Str} {st : Stmt} {f : Addr} {fd : FuncData} {N ps : List Str} {k : Nat} {sp : FSpec} (F : Fun K x qual st f fd) (g : mg x = some (.ref f)) (b : Binds K fd ps []) (S : FnScope N ps (defScope st))
    (hlen : ∀ ws M Φ Ξ, sp ws M Φ Ξ → ws.length = ps.length)
    (hbody : ∀ (cdv : Value) (A : Around) (outer : List Env) (s : Shared) (H : Hp) (E : XK), Room k (A.deeper (envOfC qual (defScope st) s.heap.objs.size f cdv)) → XOk (bodyX P w K mg base N qual st f cdv A outer s H E) → ∀ ws M Φ Ξ, Clo M → sp ws M Φ Ξ →
      dB (bodyX P w K mg base N qual st f cdv A outer s H E) (defBody st) (ws.map some ++ List.replicate (N.length - ws.length) none) M { nx := fun _ M' => Ret Φ M.length (.d .non) M', rt := Ret Φ M.length } (fun y _ M' => RetX Ξ M.length y M')) : Callee P w K mg base (k + 1) x ps sp := ⟨f, fd, g, F.kp, b, fnok_of F S hlen hbody⟩
end DL

set_option maxRecDepth 100000
set_option maxHeartbeats 1000000
/-! # DL4: subscripts, slices, builtins, comprehensions -/
namespace DL
open PySem PySem.Spec PyProof.Rows L2
open PySem.W (Frag)

/-! ### len, subscripts -/
theorem atI_rel {A B : Type} {R : A → B → Prop} {xs : List A} {ys : List B} (r : Paired R xs ys) {i : Int} {y : B} (h : atI ys i = some y) : ∃ x, atI xs i = some x ∧ R x y := by
  unfold atI at h ⊢
  rw [Paired.length r]
  cases e : ixN ys.length i with
  | none => rw [e] at h; cases h
  | some j =>
    rw [e] at h
    exact Paired.get' r (show ys[j]? = some y from h)
section
variable {X : Cx} {e a b : Expr} {es : List Expr} {δ : DSt} {M : List MO} {Φ : WP} {Ξ : XPo} {pos p : Pos} {w u : W}
theorem dE_ix {r : R2} (hr : IxR X r) (h : dE X a δ M (fun x M1 => dE X b δ M1 (fun y M2 => ROp X.K r x y M2 Φ) Ξ) Ξ) (hs : PlainIx b := by exact fun _ _ => rfl) : dE X (.Subscript a b pos) δ M Φ Ξ :=
  dE_bin (t := tOp r) (fun _ _ pa pb => pe_ix hr pa pb hs) (fun _ _ => rfl) h
theorem rixL {K : Frag} {ws : List W} {i : Int} (l : IsLst M w ws) (h : atI ws i = some u) (q : Φ u M) : ROp K (rIxL K) w (.d (.int i)) M Φ := fun G α σ δ H vx vy Q r h1 h2 k => by
  obtain ⟨a, vs, e1, hs, rep⟩ := l.at_ r.m h1
  obtain ⟨x, ex, rx⟩ := atI_rel rep h
  exact ⟨a, vs, i, x, e1, wint h2, hs, ex, k _ _ ⟨u, M, G, α, q, Fw.refl _ _, r, rx⟩⟩
theorem rixT {K : Frag} {ws : List W} {i : Int} (l : IsTup w ws) (h : atI ws i = some u) (q : Φ u M) : ROp K (rIxT K) w (.d (.int i)) M Φ := fun G α σ δ H vx vy Q r h1 h2 k => by
  obtain ⟨a, vs, e1, hs, rep⟩ := l.at_ r.m h1
  obtain ⟨x, ex, rx⟩ := atI_rel rep h
  exact ⟨a, vs, i, x, e1, wint h2, hs, ex, k _ _ ⟨u, M, G, α, q, Fw.refl _ _, r, rx⟩⟩
theorem rixS {K : Frag} {z : Str} {i : Int} {c : Nat} (hz : z.length ≤ sizeLine) (h : atI z.cps.toList i = some c) (q : Φ (.d (.str ⟨#[c]⟩)) M) : ROp K rIxS (.d (.str z)) (.d (.int i)) M Φ := fun G α σ δ H vx vy Q r h1 h2 k =>
  ⟨z, i, c, wstr h1, wint h2, hz, h, k _ _ ⟨_, M, G, α, q, Fw.refl _ _, r, .str _⟩⟩
theorem dv_ixL {ws : List W} {i : Int} (ha : dV X a δ M w) (l : IsLst M w ws) (hb : dV X b δ M (.d (.int i))) (h : atI ws i = some u) (hs : PlainIx b := by exact fun _ _ => rfl) : dV X (.Subscript a b pos) δ M u := fun Φ Ξ q => dE_ix ix_list (ha.ev (hb.ev (rixL l h q))) hs
theorem dv_ixT {ds : List D} {d : D} {i : Int} (ha : dV X a δ M (.d (.tup ds))) (hb : dV X b δ M (.d (.int i))) (h : atI ds i = some d) (hs : PlainIx b := by exact fun _ _ => rfl) : dV X (.Subscript a b pos) δ M (.d d) := fun Φ Ξ q => dE_ix ix_tup (ha.ev (hb.ev (rixT (.d ds) (by
  unfold atI at h ⊢
  rw [List.length_map]
  cases e : ixN ds.length i with
  | none => rw [e] at h; cases h
  | some j => rw [e] at h; show (ds.map W.d)[j]? = _; rw [List.getElem?_map, show ds[j]? = some d from h]; rfl) q))) hs
theorem dv_ixD {ds : List D} {d : D} {i : Int} (ha : dV X a δ M (.d (.lst ds))) (hb : dV X b δ M (.d (.int i))) (h : atI ds i = some d) (hs : PlainIx b := by exact fun _ _ => rfl) : dV X (.Subscript a b pos) δ M (.d d) := dv_ixL ha (.d ds) hb (by
  unfold atI at h ⊢
  rw [List.length_map]
  cases e : ixN ds.length i with
  | none => rw [e] at h; cases h
  | some j => rw [e] at h; show (ds.map W.d)[j]? = _; rw [List.getElem?_map, show ds[j]? = some d from h]; rfl) hs
theorem dv_ixS {z : Str} {i : Int} {c : Nat} (ha : dV X a δ M (.d (.str z))) (hb : dV X b δ M (.d (.int i))) (hz : z.length ≤ sizeLine) (h : atI z.cps.toList i = some c) (hs : PlainIx b := by exact fun _ _ => rfl) : dV X (.Subscript a b pos) δ M (.d (.str ⟨#[c]⟩)) := fun Φ Ξ q => dE_ix ix_str (ha.ev (hb.ev (rixS hz h q))) hs

/-! ### calls of builtins with known values -/
def RCV (K : Frag) (r : List V → Hp → VK → Prop) (ws : List W) (M : List MO) (w : W) : Prop := ∀ Φ : WP, Φ w M → RCall K r ws M Φ
theorem dv_callB {x : Str} {id : String} {r : List V → Hp → VK → Prop} {ws : List W} (hc : CallR X (.builtin id) r) (hm : X.mg x = none) (hv : bootBuiltins x = some (.builtin id)) (ha : dAV X (e :: es) δ M ws) (h : RCV X.K r ws M w) (hg : Gl X x := by rfl) (hn : x ≠ "__name__" := by decide) (hdb : (x == ("__debug__" : Str)) = false := by decide)
    (he : starEach (e :: es) X.env = (false, eval e X.env) :: starEach es X.env := by rfl) (hpl : (backTo pos (starEach es X.env)).any (·.1) = false := by rfl) : dV X (.Call (.Name x p) (e :: es) [] pos) δ M w := fun Φ Ξ q => dE_callB hc hm hv (ha.av (h Φ q)) hg hn hdb he hpl
theorem dv_callTy {x : Str} {T : String} {r : List V → Hp → VK → Prop} {ws : List W} (hc : CallR X (.type T) r) (hm : X.mg x = none) (hv : bootBuiltins x = some (.type T)) (ha : dAV X (e :: es) δ M ws) (h : RCV X.K r ws M w) (hg : Gl X x := by rfl) (hn : x ≠ "__name__" := by decide) (hdb : (x == ("__debug__" : Str)) = false := by decide)
    (he : starEach (e :: es) X.env = (false, eval e X.env) :: starEach es X.env := by rfl) (hpl : (backTo pos (starEach es X.env)).any (·.1) = false := by rfl) : dV X (.Call (.Name x p) (e :: es) [] pos) δ M w := fun Φ Ξ q => dE_callTy hc hm hv (ha.av (h Φ q)) hg hn hdb he hpl
theorem w1 {K : Frag} {G : Hp} {α : List Addr} {vs : List V} {w : W} (h : WRepL K G α vs [w]) : ∃ v, vs = [v] ∧ WRep K G α v w := by
  cases h with
  | cons q r => cases r; exact ⟨_, rfl, q⟩
theorem w2 {K : Frag} {G : Hp} {α : List Addr} {vs : List V} {w u : W} (h : WRepL K G α vs [w, u]) : ∃ v x, vs = [v, x] ∧ WRep K G α v w ∧ WRep K G α x u := by
  cases h with
  | cons q r =>
    obtain ⟨x, e, z⟩ := w1 r
    subst e
    exact ⟨_, _, rfl, q, z⟩
theorem rc_lenL {K : Frag} {ws : List W} (l : IsLst M w ws ∨ IsTup w ws) : RCV K (fun xs H Q => ∃ p ys, xs = [.ref p] ∧ (SqL K H p ys ∨ SqT K H p ys) ∧ Q (.int ys.length) H) [w] M (.d (.int ws.length)) := fun Φ q G α σ δ H vs Q r h1 k => by
  obtain ⟨v, e1, z⟩ := w1 h1
  subst e1
  rcases l with l | l
  · obtain ⟨a, ys, e1, hs, rep⟩ := l.at_ r.m z
    subst e1
    exact ⟨a, ys, rfl, .inl hs, k _ _ ⟨_, M, G, α, q, Fw.refl _ _, r, by rw [Paired.length rep]; exact .int _⟩⟩
  · obtain ⟨a, ys, e1, hs, rep⟩ := l.at_ r.m z
    subst e1
    exact ⟨a, ys, rfl, .inr hs, k _ _ ⟨_, M, G, α, q, Fw.refl _ _, r, by rw [Paired.length rep]; exact .int _⟩⟩
theorem dv_len {ws : List W} (hm : X.mg "len" = none) (ha : dV X e δ M w) (l : IsLst M w ws ∨ IsTup w ws) (hg : Gl X "len" := by rfl) (he : starEach [e] X.env = (false, eval e X.env) :: starEach [] X.env := by rfl) : dV X (.Call (.Name "len" p) [e] [] pos) δ M (.d (.int ws.length)) :=
  dv_callB call_len_seq hm PySem.boot_len (da_cons ha da_nil he) (rc_lenL l) hg (by decide) (by decide) he (by rfl)
theorem dv_lenT {ds : List D} (hm : X.mg "len" = none) (ha : dV X e δ M (.d (.tup ds))) (hg : Gl X "len" := by rfl) (he : starEach [e] X.env = (false, eval e X.env) :: starEach [] X.env := by rfl) : dV X (.Call (.Name "len" p) [e] [] pos) δ M (.d (.int ds.length)) :=
  dv_to (dv_len hm ha (.inr (.d ds)) hg he) (by rw [List.length_map])
theorem dv_lenD {ds : List D} (hm : X.mg "len" = none) (ha : dV X e δ M (.d (.lst ds))) (hg : Gl X "len" := by rfl) (he : starEach [e] X.env = (false, eval e X.env) :: starEach [] X.env := by rfl) : dV X (.Call (.Name "len" p) [e] [] pos) δ M (.d (.int ds.length)) :=
  dv_to (dv_len hm ha (.inl (.d ds)) hg he) (by rw [List.length_map])
theorem dv_lenS {z : Str} (hm : X.mg "len" = none) (ha : dV X e δ M (.d (.str z))) (hz : z.length ≤ sizeLine) (hg : Gl X "len" := by rfl) (he : starEach [e] X.env = (false, eval e X.env) :: starEach [] X.env := by rfl) : dV X (.Call (.Name "len" p) [e] [] pos) δ M (.d (.int z.length)) :=
  dv_callB call_len_str hm PySem.boot_len (da_cons ha da_nil he) (fun Φ q G α σ δ H vs Q r h1 k => by
    obtain ⟨v, e1, y⟩ := w1 h1
    exact ⟨z, by rw [e1, wstr y], hz, k _ _ ⟨_, M, G, α, q, Fw.refl _ _, r, .int _⟩⟩) hg (by decide) (by decide) he (by rfl)
theorem dv_int1 {i : Int} (hm : X.mg "int" = none) (ha : dV X e δ M (.d (.int i))) (hg : Gl X "int" := by rfl) (he : starEach [e] X.env = (false, eval e X.env) :: starEach [] X.env := by rfl) : dV X (.Call (.Name "int" p) [e] [] pos) δ M (.d (.int i)) :=
  dv_callTy call_int1 hm PyProof.Rows.boot_int (da_cons ha da_nil he) (fun Φ q G α σ δ H vs Q r h1 k => by
    obtain ⟨v, e1, y⟩ := w1 h1
    exact .inl ⟨i, by rw [e1, wint y], k _ _ ⟨_, M, G, α, q, Fw.refl _ _, r, .int _⟩⟩) hg (by decide) (by decide) he (by rfl)
theorem dv_intb {i : Bool} (hm : X.mg "int" = none) (ha : dV X e δ M (.d (.bl i))) (hg : Gl X "int" := by rfl) (he : starEach [e] X.env = (false, eval e X.env) :: starEach [] X.env := by rfl) : dV X (.Call (.Name "int" p) [e] [] pos) δ M (.d (.int (if i then 1 else 0))) :=
  dv_callTy call_int1 hm PyProof.Rows.boot_int (da_cons ha da_nil he) (fun Φ q G α σ δ H vs Q r h1 k => by
    obtain ⟨v, e1, y⟩ := w1 h1
    exact .inr ⟨i, by rw [e1, wbl y], k _ _ ⟨_, M, G, α, q, Fw.refl _ _, r, .int _⟩⟩) hg (by decide) (by decide) he (by rfl)
theorem dv_abs {i : Int} (hm : X.mg "abs" = none) (ha : dV X e δ M (.d (.int i))) (hg : Gl X "abs" := by rfl) (he : starEach [e] X.env = (false, eval e X.env) :: starEach [] X.env := by rfl) : dV X (.Call (.Name "abs" p) [e] [] pos) δ M (.d (.int (if i < 0 then -i else i))) :=
  dv_callB call_abs hm (by decide +kernel) (da_cons ha da_nil he) (fun Φ q G α σ δ H vs Q r h1 k => by
    obtain ⟨v, e1, y⟩ := w1 h1
    exact ⟨i, by rw [e1, wint y], k _ _ ⟨_, M, G, α, q, Fw.refl _ _, r, .int _⟩⟩) hg (by decide) (by decide) he (by rfl)
/-! isinstance -/
/-- the type's name -/
inductive WTy (M : List MO) : W → String → Prop
  | non : WTy M (.d .non) "NoneType"
  | bl (b : Bool) : WTy M (.d (.bl b)) "bool"
  | int (b : Int) : WTy M (.d (.int b)) "int"
  | str (b : Str) : WTy M (.d (.str b)) "str"
  | tup (b : List D) : WTy M (.d (.tup b)) "tuple"
  | lst (b : List D) : WTy M (.d (.lst b)) "list"
  | dic (k : List Key) (b : List D) : WTy M (.d (.dic k b)) "dict"
  | pl {k : Nat} {ws : List W} : M[k]? = some (.lst ws) → WTy M (.p k) "list"
  | pd {k : Nat} {ws : List (Key × W)} : M[k]? = some (.dic ws) → WTy M (.p k) "dict"
theorem WTy.x {K : Frag} {G H : Hp} {α : List Addr} {v : V} {w : W} {T : String} (t : WTy M w T) (r : RelM K G H α M) (q : WRep K G α v w) : TyX K H v (.type T) := by
  cases t with
  | non => rw [wnon q]; exact .base .non
  | bl b => rw [wbl q]; exact .base (.bl b)
  | int b => rw [wint q]; exact .base (.int b)
  | str b => rw [wstr q]; exact .base (.str b)
  | tup b =>
    have q' : Rep K G v (.tup b) := q
    cases q' with
    | tup hs _ =>
      rcases hs with (hs | ⟨o, hs⟩) | ⟨o, its, n, e, c, _⟩
      · exact .base (.tup (r.gh _ _ hs))
      · exact .fTuple (r.gh _ _ hs)
      · exact .kTuple e c
  | lst b =>
    have q' : Rep K G v (.lst b) := q
    cases q' with
    | lst hs _ => exact .base (.lst (r.gh _ _ hs))
  | dic ks b =>
    have q' : Rep K G v (.dic ks b) := q
    cases q' with
    | dic hs _ _ =>
      rcases hs with hs | ⟨o, hs⟩
      · exact .base (.dK (r.gh _ _ hs))
      · exact .fDict (r.gh _ _ hs)
  | pl hk =>
    obtain ⟨a, e1, ha⟩ := q
    obtain ⟨a', ha', _, vs, hv, _⟩ := r.ob _ _ hk
    rw [ha] at ha'; cases ha'
    subst e1
    exact .base (.lst hv)
  | pd hk =>
    obtain ⟨a, e1, ha⟩ := q
    obtain ⟨a', ha', _, vs, hv, _⟩ := r.ob _ _ hk
    rw [ha] at ha'; cases ha'
    subst e1
    exact .base (.dK hv)
theorem rc_isi {K : Frag} {T C : String} {k : Bool} (t : WTy M w T) (h : kitB T C = some k) : RCV K (rIsi K) [w, .d (.raw (.ty C))] M (.d (.bl k)) := fun Φ q G α σ δ H vs Q r h1 kk => by
  obtain ⟨v, c, e1, y1, y2⟩ := w2 h1
  exact ⟨v, .ty C, _, _, k, by rw [e1, wraw y2], .ty C, t.x r.m y1, kit_ty h, kk _ _ ⟨_, M, G, α, q, Fw.refl _ _, r, .bl _⟩⟩
theorem dv_isi {a : Expr} {T C : String} {k : Bool} (hm : X.mg "isinstance" = none) (ha : dV X e δ M w) (hb : dV X a δ M (.d (.raw (.ty C)))) (t : WTy M w T) (h : kitB T C = some k := by decide +kernel) (hg : Gl X "isinstance" := by rfl) (he : starEach [e, a] X.env = (false, eval e X.env) :: starEach [a] X.env := by rfl) (he2 : starEach [a] X.env = (false, eval a X.env) :: starEach [] X.env := by rfl)
    (hpl : (backTo pos (starEach [a] X.env)).any (·.1) = false := by rfl) : dV X (.Call (.Name "isinstance" p) [e, a] [] pos) δ M (.d (.bl k)) :=
  dv_callB call_isi hm PyProof.Rows.boot_isinstance (da_cons ha (da_cons hb da_nil he2) he) (rc_isi t h) hg (by decide) (by decide) he hpl
/-- a builtin class as a value -/
theorem dv_ty {x : Str} {T : String} (hm : X.mg x = none) (hv : bootBuiltins x = some (.type T)) (hg : Gl X x := by rfl) (hn : x ≠ "__name__" := by decide) (hd : (x == ("__debug__" : Str)) = false := by decide) : dV X (.Name x pos) δ M (.d (.raw (.ty T))) := dv_bltn hm hv rfl hg hn hd

/-! any, all of a list of truths -/
theorem repL_map {K : Frag} {G : Hp} {A : Type} {f : A → D} {g : A → V} (h : ∀ v x, Rep K G v (f x) → v = g x) : ∀ {vs : List V} {xs : List A}, RepL K G vs (xs.map f) → vs = xs.map g
  | [], [], _ => rfl
  | _ :: _, x :: xs, .cons q r => by rw [h _ x q, repL_map h r]; rfl
theorem repL_int {K : Frag} {G : Hp} {vs : List V} {xs : List Int} (r : RepL K G vs (xs.map D.int)) : vs = xs.map V.int := repL_map (fun v x q => by cases q; rfl) r
theorem repL_bl {K : Frag} {G : Hp} {vs : List V} {xs : List Bool} (r : RepL K G vs (xs.map D.bl)) : vs = xs.map V.bl := repL_map (fun v x q => by cases q; rfl) r
theorem repL_str {K : Frag} {G : Hp} {vs : List V} {xs : List Str} (r : RepL K G vs (xs.map D.str)) : vs = xs.map V.str := repL_map (fun v x q => by cases q; rfl) r
theorem repL_of {K : Frag} {G : Hp} {A : Type} {f : A → D} {g : A → V} (h : ∀ x, Rep K G (g x) (f x)) : ∀ (xs : List A), RepL K G (xs.map g) (xs.map f)
  | [] => .nil
  | x :: xs => .cons (h x) (repL_of h xs)
/-- a list in data, as it stands in the heap -/
theorem lstD {K : Frag} {G H : Hp} {α : List Addr} {v : V} {ds : List D} (r : RelM K G H α M) (q : WRep K G α v (.d (.lst ds))) : ∃ a vs, v = .ref a ∧ H a = some (.lst vs) ∧ RepL K G vs ds := by
  have q' : Rep K G v (.lst ds) := q
  cases q' with
  | lst hs hr => exact ⟨_, _, rfl, r.gh _ _ hs, hr⟩
theorem tupD {K : Frag} {G H : Hp} {α : List Addr} {v : V} {ds : List D} (r : RelM K G H α M) (q : WRep K G α v (.d (.tup ds))) : ∃ a vs, v = .ref a ∧ SqT K H a vs ∧ RepL K G vs ds := by
  have q' : Rep K G v (.tup ds) := q
  cases q' with
  | tup hs hr => exact ⟨_, _, rfl, same_sqT r.gh hs, hr⟩
theorem rc_any {K : Frag} {bs : List Bool} : RCV K (rAny K) [.d (.lst (bs.map D.bl))] M (.d (.bl (bs.any id))) := fun Φ q G α σ δ H vs Q r h1 k => by
  obtain ⟨v, e1, y⟩ := w1 h1
  obtain ⟨a, us, e2, hs, rep⟩ := lstD r.m y
  rw [repL_bl rep] at hs
  exact ⟨a, bs, by rw [e1, e2], SqL.of hs, k _ _ ⟨_, M, G, α, q, Fw.refl _ _, r, .bl _⟩⟩
theorem rc_all {K : Frag} {bs : List Bool} : RCV K (rAll K) [.d (.lst (bs.map D.bl))] M (.d (.bl (bs.all id))) := fun Φ q G α σ δ H vs Q r h1 k => by
  obtain ⟨v, e1, y⟩ := w1 h1
  obtain ⟨a, us, e2, hs, rep⟩ := lstD r.m y
  rw [repL_bl rep] at hs
  exact ⟨a, bs, by rw [e1, e2], SqL.of hs, k _ _ ⟨_, M, G, α, q, Fw.refl _ _, r, .bl _⟩⟩
theorem dv_any {bs : List Bool} (hk : XOk X) (hm : X.mg "any" = none) (ha : dV X e δ M (.d (.lst (bs.map D.bl)))) (hg : Gl X "any" := by rfl) (he : starEach [e] X.env = (false, eval e X.env) :: starEach [] X.env := by rfl) : dV X (.Call (.Name "any" p) [e] [] pos) δ M (.d (.bl (bs.any id))) :=
  dv_callB (cr_any hk.calm) hm (by decide +kernel) (da_cons ha da_nil he) rc_any hg (by decide) (by decide) he (by rfl)
theorem dv_all {bs : List Bool} (hk : XOk X) (hm : X.mg "all" = none) (ha : dV X e δ M (.d (.lst (bs.map D.bl)))) (hg : Gl X "all" := by rfl) (he : starEach [e] X.env = (false, eval e X.env) :: starEach [] X.env := by rfl) : dV X (.Call (.Name "all" p) [e] [] pos) δ M (.d (.bl (bs.all id))) :=
  dv_callB (cr_all hk.calm) hm (by decide +kernel) (da_cons ha da_nil he) rc_all hg (by decide) (by decide) he (by rfl)
/-- tuple(a list of data) -/
theorem dv_tuple {ds : List D} (hm : X.mg "tuple" = none) (ha : dV X e δ M (.d (.lst ds))) (hg : Gl X "tuple" := by rfl) (he : starEach [e] X.env = (false, eval e X.env) :: starEach [] X.env := by rfl) : dV X (.Call (.Name "tuple" p) [e] [] pos) δ M (.d (.tup ds)) :=
  dv_callTy call_tuple_of hm PyProof.Rows.boot_tuple (da_cons ha da_nil he) (fun Φ q G α σ δ H vs Q r h1 k => by
    obtain ⟨v, e1, y⟩ := w1 h1
    obtain ⟨a, us, e2, hs, rep⟩ := lstD r.m y
    refine ⟨a, us, by rw [e1, e2], .inl ⟨SqL.of hs, fun l hl => k _ _ ?_⟩⟩
    have s1 : Same G (upd G l (.tup us)) := same_new (r.m.gnone hl)
    exact ⟨_, M, _, α, q, ⟨s1, Le.refl _⟩, r.froz hl, .tup (SqT.of upd_same) (RepL.mono s1 _ _ rep)⟩) hg (by decide) (by decide) he (by rfl)
/-! ### xs + ys of data, xs.append -/
theorem dv_cat {ds es' : List D} (ha : dV X a δ M (.d (.lst ds))) (hb : dV X b δ M (.d (.lst es'))) (hl : ds.length + es'.length ≤ sizeLine) : dV X (.BinOp a .Add b pos) δ M (.d (.lst (ds ++ es'))) :=
  dv_op op_cat ha hb fun Φ q G α σ δ H vx vy Q r h1 h2 k => by
    obtain ⟨a1, v1, e1, hv1, r1⟩ := lstD r.m h1
    obtain ⟨a2, v2, e2, hv2, r2⟩ := lstD r.m h2
    refine ⟨a1, a2, v1, v2, e1, e2, hv1, hv2, by rw [r1.length, r2.length]; exact hl, fun p hp => k _ _ ?_⟩
    have s1 : Same G (upd G p (.lst (v1 ++ v2))) := same_new (r.m.gnone hp)
    exact ⟨_, M, _, α, q, ⟨s1, Le.refl _⟩, r.froz hp, .lst upd_same (RepL.mono s1 _ _ (r1.append r2))⟩
theorem paired_append {A B : Type} {R : A → B → Prop} : ∀ {xs ys : List A} {us ws : List B}, Paired R xs us → Paired R ys ws → Paired R (xs ++ ys) (us ++ ws)
  | _, _, _, _, .nil, s => s
  | _, _, _, _, .cons r t, s => .cons r (paired_append t s)
/-- o.append(e) -/
theorem dE_append {o : Expr} {apos : Pos} (h : dE X o δ M (fun x M1 => ∃ k, x = .p k ∧ (∃ ws1, M1[k]? = some (.lst ws1)) ∧ dE X e δ M1 (fun y M2 => ∃ ws, M2[k]? = some (.lst ws) ∧ ws.length < sizeLine ∧ Φ (.d .non) (M2.set k (.lst (ws ++ [y])))) Ξ) Ξ)
    (hbase : attributeBase o "append" X.env (eval o X.env) = eval o X.env := by rfl)
    (hfew : ((backTo pos (starEach [e] X.env)).all (fun x => !x.1) && (backToKw pos (keywordEach [] X.env)).all (fun x => x.1.isSome)
      && decide (([e] : List Expr).length + ([] : List Keyword).length + (if ([] : List Keyword).isEmpty then 0 else 1) < 30)) = true := by rfl)
    (hline : (apos.endLine == pos.line) = true := by rfl) (hs : starEach [e] X.env = (false, eval e X.env) :: starEach [] X.env := by rfl) (hplain : (backTo pos (starEach [] X.env)).any (·.1) = false := by rfl) :
    dE X (.Call (.Attribute o "append" apos) [e] [] pos) δ M Φ Ξ := fun W tk G α σ H r xc => by
  refine of_pe (pe_bm PySem.F.plainAttrs_list PySem.F.slot_list_append PySem.F.type_list_append mt_append pe_w (pa_cons pe_w pa_nil hs) hbase hfew hline hs hplain) ?_
  refine h.run tk r xc fun x M1 G1 α1 vx H1 p1 f1 r1 q1 => ?_
  obtain ⟨k, e1, ⟨ws1, hk1⟩, p1⟩ := p1
  subst e1
  obtain ⟨a, e1, ha⟩ := q1
  subst e1
  refine ⟨?_, p1.run tk r1 (xc.fw f1) fun y M2 G2 α2 vy H2 p2 f2 r2 q2 => ?_⟩
  · obtain ⟨a', ha', gp, vs, hv, z⟩ := r1.m.ob _ _ hk1
    rw [ha] at ha'; cases ha'
    exact .inl ⟨rfl, vs, SqL.of hv⟩
  · obtain ⟨ws, hk, hl, ph⟩ := p2
    have ha2 := f2.l.get ha
    obtain ⟨a', ha', gp, vs, hv, z⟩ := r2.m.ob _ _ hk
    rw [ha2] at ha'; cases ha'
    refine ⟨a, vs, vy, rfl, rfl, hv, by rw [Paired.length z]; exact hl, _, _, G2, α2, ph, f1.trans f2, ⟨r2.m.write hk (fun z => nomatch z) ha2 ?_, r2.s⟩, .non⟩
    exact ⟨gp, _, upd_same, paired_append z (.cons q2 .nil)⟩
end
end DL

set_option maxRecDepth 100000
set_option maxHeartbeats 1000000
/-! # DL5: slices, what is walked, for, comprehensions -/
namespace DL
open PySem PySem.Spec PyProof.Rows L2
open PySem.W (Frag)

/-! ### slices -/
def wO (X : Cx) (e : Option Expr) : TO := fun σ H Q => ∀ (pins : List (Addr × Obj)) (s : Shared), Inv X pins σ H s → wpAny (model X.prog X.w) X.A (evalPart e X.env) (fun u s' => ∃ o H', Inv X pins σ H' s' ∧ IsPart u o ∧ Q o H') X.xe s
theorem po_w {X : Cx} {e : Option Expr} : PO X e (wO X e) := ⟨fun pins s _ _ _ I h => h pins s I⟩
def dO (X : Cx) (e : Option Expr) (δ : DSt) (M : List MO) (Φ : Option Int → List MO → Prop) (Ξ : XPo) : Prop := ∀ W, Takes X W → ∀ G α σ H, Rel X.K G H α σ δ M → XC X.K W Ξ G α → wO X e σ H (fun o H' => ∃ M' G' α', Φ o M' ∧ Fw G α G' α' ∧ Rel X.K G' H' α' σ δ M')
section
variable {X : Cx} {e a b : Expr} {δ : DSt} {M : List MO} {Φ : WP} {Ξ : XPo} {pos p p2 : Pos} {w u : W}
theorem dO_none {Φ : Option Int → List MO → Prop} (q : Φ none M) : dO X none δ M Φ Ξ := fun W tk G α σ H r xc pins s I => (po_none.run pins s σ H _ I ⟨M, G, α, q, Fw.refl _ _, r⟩)
theorem dO_some {Φ : Option Int → List MO → Prop} (h : dE X e δ M (fun w M1 => ∃ i, w = .d (.int i) ∧ Φ (some i) M1) Ξ) : dO X (some e) δ M Φ Ξ := fun W tk G α σ H r xc pins s I =>
  (po_some pe_w).run pins s σ H _ I (h.run tk r xc fun w M1 G1 α1 v H1 p1 f1 r1 q1 => by
    obtain ⟨i, e1, p⟩ := p1
    subst e1
    exact ⟨i, wint q1, M1, G1, α1, p, f1, r1⟩)
def RSl (K : Frag) (r : V → Option Int → Option Int → Hp → VK → Prop) (x : W) (l u : Option Int) (M : List MO) (Φ : WP) : Prop := ∀ G α σ δ H vx Q, Rel K G H α σ δ M → WRep K G α vx x → (∀ v H', DQ K G α σ δ Φ v H' → Q v H') → r vx l u H Q
theorem dE_sl {r : V → Option Int → Option Int → Hp → VK → Prop} {lo hi : Option Expr} (hr : SlR X r) (h : dE X a δ M (fun x M1 => dO X lo δ M1 (fun l M2 => dO X hi δ M2 (fun u M3 => RSl X.K r x l u M3 Φ) Ξ) Ξ) Ξ) : dE X (.Subscript a (.Slice lo hi none p2) pos) δ M Φ Ξ := fun W tk G α σ H rl xc => by
  refine of_pe (pe_slice hr pe_w po_w po_w) (h.run tk rl xc fun x M1 G1 α1 v H1 p1 f1 r1 q1 => ?_)
  refine fun pins s I => thn (p1 W tk G1 α1 σ H1 r1 (xc.fw f1) pins s I) fun u s1 ⟨o, H2, I2, ip, M2, G2, α2, p2, f2, r2⟩ => ⟨o, H2, I2, ip, fun pins s I => thn (p2 W tk G2 α2 σ H2 r2 (xc.fw (f1.trans f2)) pins s I) fun u s1 ⟨o3, H3, I3, ip3, M3, G3, α3, p3, f3, r3⟩ => ⟨o3, H3, I3, ip3, ?_⟩⟩
  exact p3 G3 α3 σ δ H3 v _ r3 ((q1.fw f2).fw f3) fun v' H' z => DQ.fw ((f1.trans f2).trans f3) z
def cutA {A : Type} (xs : List A) (lo hi : Option Int) : List A := (xs.drop (HT.sIx xs.length 0 lo)).take (HT.sIx xs.length xs.length hi - HT.sIx xs.length 0 lo)
theorem cut_rep {K : Frag} {G : Hp} {vs : List V} {ds : List D} (r : RepL K G vs ds) (lo hi : Option Int) : RepL K G (cutV vs lo hi) (cutA ds lo hi) := by
  unfold cutV cutA
  rw [r.length]
  exact (r.drop _).take _
theorem rslL {K : Frag} {ds : List D} {lo hi : Option Int} (q : Φ (.d (.lst (cutA ds lo hi))) M) : RSl K (rSlL K) (.d (.lst ds)) lo hi M Φ := fun G α σ δ H vx Q r h1 k => by
  obtain ⟨a, vs, e1, hs, rep⟩ := lstD r.m h1
  refine ⟨a, vs, e1, SqL.of hs, fun p hp => k _ _ ?_⟩
  have s1 : Same G (upd G p (.lst (cutV vs lo hi))) := same_new (r.m.gnone hp)
  exact ⟨_, M, _, α, q, ⟨s1, Le.refl _⟩, r.froz hp, .lst upd_same (RepL.mono s1 _ _ (cut_rep rep lo hi))⟩
theorem cut_map {A B : Type} (f : A → B) (xs : List A) (lo hi : Option Int) : cutA (xs.map f) lo hi = (cutA xs lo hi).map f := by
  unfold cutA
  rw [List.length_map, List.map_take, List.map_drop]
theorem rslScr {K : Frag} {ns : List Int} {lo hi : Option Int} (q : Φ (.d (.lst ((cutA ns lo hi).map D.int))) M) : RSl K (rSlL K) (.d (.scr ns)) lo hi M Φ := fun G α σ δ H vx Q r h1 k => by
  have q' : Rep K G vx (.scr ns) := h1
  cases q' with
  | scr hs =>
    refine ⟨_, _, rfl, same_sqL r.m.gh hs, fun p hp => k _ _ ?_⟩
    have s1 : Same G (upd G p (.lst (cutV (ns.map V.int) lo hi))) := same_new (r.m.gnone hp)
    refine ⟨_, M, _, α, q, ⟨s1, Le.refl _⟩, r.froz hp, .lst upd_same ?_⟩
    rw [show cutV (ns.map V.int) lo hi = (cutA ns lo hi).map V.int from cut_map V.int ns lo hi]
    exact repL_of (fun x => .int x) _
theorem rslS {K : Frag} {z : Str} {lo hi : Option Int} (hz : z.length ≤ sizeLine) (q : Φ (.d (.str (cutS z lo hi))) M) : RSl K rSlS (.d (.str z)) lo hi M Φ := fun G α σ δ H vx Q r h1 k =>
  ⟨z, wstr h1, hz, k _ _ ⟨_, M, G, α, q, Fw.refl _ _, r, .str _⟩⟩
end

/-! ### what a loop walks -/
def wI (X : Cx) (tg iter : Expr) : TI := fun σ H R => ∀ (pins : List (Addr × Obj)) (s : Shared), Inv X pins σ H s → wpAny (model X.prog X.w) X.A (eval iter X.env) (fun v s1 => wpAny (model X.prog X.w) X.A (pyIter v) (PIE X pins σ tg R) X.xe s1) X.xe s
theorem pi_w {X : Cx} {tg iter : Expr} : PI X tg iter (wI X tg iter) := ⟨fun pins s _ _ _ I h => h pins s I⟩
theorem of_pi {X : Cx} {tg iter : Expr} {wi : TI} {σ : L2.St} {H : Hp} {R : It → Hp → Prop} (p : PI X tg iter wi) (h : wi σ H R) : wI X tg iter σ H R := fun pins s I => p.run pins s σ H R I h
/-- n items, it i the i-th, while Pm holds of the store -/
structure Src where
  n : Nat
  it : Nat → Option W
  ok : List MO → Prop := fun _ => True
def SrcOk (K : Frag) (G : Hp) (α : List Addr) (J : It) (S : Src) : Prop := ∀ i G' α' H' M', Fw G α G' α' → RelM K G' H' α' M' → S.ok M' →
  (i < S.n → J.go i H' ∧ ∀ x H'', J.yld i H' x H'' → ∃ G'' w, Same G' G'' ∧ RelM K G'' H'' α' M' ∧ S.it i = some w ∧ WRep K G'' α' x w) ∧ (i = S.n → J.stop i H')
theorem SrcOk.fw {K : Frag} {G G1 : Hp} {α α1 : List Addr} {J : It} {S : Src} (h : SrcOk K G α J S) (f : Fw G α G1 α1) : SrcOk K G1 α1 J S := fun i G' α' H' M' f' r o => h i G' α' H' M' (f.trans f') r o
def dI (X : Cx) (tg iter : Expr) (δ : DSt) (M : List MO) (Ψ : Src → List MO → Prop) (Ξ : XPo) : Prop := ∀ W, Takes X W → ∀ G α σ H, Rel X.K G H α σ δ M → XC X.K W Ξ G α →
  wI X tg iter σ H (fun J H1 => ∃ S M1 G1 α1, Ψ S M1 ∧ Fw G α G1 α1 ∧ Rel X.K G1 H1 α1 σ δ M1 ∧ SrcOk X.K G1 α1 J S)
theorem wI.mono {X : Cx} {tg iter : Expr} {σ : L2.St} {H : Hp} {R R' : It → Hp → Prop} (h : wI X tg iter σ H R) (k : ∀ J H', R J H' → R' J H') : wI X tg iter σ H R' := fun pins s I =>
  thn (h pins s I) fun v s1 h1 => thn h1 fun itv s2 ⟨it, fp, tn, J, H', a, b, c, d, e, f⟩ => ⟨it, fp, tn, J, H', a, b, c, d, e, k J H' f⟩
section
variable {X : Cx} {e a b tg it : Expr} {body : List Stmt} {δ : DSt} {M : List MO} {Φ : WP} {E : DE} {Ξ : XPo} {pos p p2 : Pos} {Ψ : Src → List MO → Prop}
theorem dI_list (h : dE X it δ M (fun w M1 => ∃ (ws : List W) (ok : List MO → Prop), (∀ M', ok M' → IsLst M' w ws) ∧ ok M1 ∧ Ψ ⟨ws.length, fun i => ws[i]?, ok⟩ M1) Ξ) : dI X tg it δ M Ψ Ξ := fun W tk G α σ H r xc => by
  refine of_pi (pi_list pe_w) (h.run tk r xc fun w M1 G1 α1 v H1 p1 f1 r1 q1 => ?_)
  obtain ⟨ws, ok, hl, ok1, ps⟩ := p1
  obtain ⟨a, vs, e1, hsq, _⟩ := (hl M1 ok1).at_ r1.m q1
  subst e1
  refine ⟨a, rfl, ⟨vs, hsq⟩, _, M1, G1, α1, ps, f1, r1, fun i G' α' H' M' f' r' o => ?_⟩
  obtain ⟨a', vs2, e2, hsq2, rep2⟩ := (hl M' o).at_ r' (q1.fw f')
  cases e2
  refine ⟨fun hi => ?_, fun hi => ⟨vs2, hsq2, by rw [Paired.length rep2, hi]; exact Nat.le_refl _⟩⟩
  obtain ⟨x, ex, rx⟩ := Paired.get' rep2 (List.getElem?_eq_getElem hi)
  refine ⟨⟨vs2, x, hsq2, ex⟩, fun y H'' hy => ?_⟩
  obtain ⟨eH, fy⟩ := hy
  subst eH
  have ey := fy vs2 hsq2
  rw [ex] at ey
  cases ey
  exact ⟨G', _, Same.refl _, r', List.getElem?_eq_getElem hi, rx⟩
theorem dI_data {ds : List D} (h : dV X it δ M (.d (.lst ds))) (ps : Ψ ⟨ds.length, fun i => (ds[i]?).map W.d, fun _ => True⟩ M) : dI X tg it δ M Ψ Ξ :=
  dI_list (h.ev ⟨ds.map W.d, fun _ => True, fun _ _ => .d ds, trivial, by
    rw [show (fun i => (ds.map W.d)[i]?) = (fun i => (ds[i]?).map W.d) from funext fun i => List.getElem?_map .., List.length_map]
    exact ps⟩)
theorem dI_scr {ns : List Int} (h : dV X it δ M (.d (.scr ns))) (ps : Ψ ⟨ns.length, fun i => (ns[i]?).map fun n => W.d (.int n), fun _ => True⟩ M) : dI X tg it δ M Ψ Ξ :=
  dI_list (h.ev ⟨ns.map fun n => W.d (.int n), fun _ => True, fun _ _ => .scr ns, trivial, by
    rw [show (fun i => (ns.map fun n => W.d (.int n))[i]?) = (fun i => (ns[i]?).map fun n => W.d (.int n)) from funext fun i => List.getElem?_map .., List.length_map]
    exact ps⟩)
theorem dI_tup (h : dE X it δ M (fun w M1 => ∃ ds : List D, w = .d (.tup ds) ∧ Ψ ⟨ds.length, fun i => (ds[i]?).map W.d, fun _ => True⟩ M1) Ξ) : dI X tg it δ M Ψ Ξ := fun W tk G α σ H r xc => by
  refine of_pi (pi_tup pe_w) (h.run tk r xc fun w M1 G1 α1 v H1 p1 f1 r1 q1 => ?_)
  obtain ⟨ds, e1, ps⟩ := p1
  subst e1
  obtain ⟨a, vs, e1, hsq, _⟩ := tupD r1.m q1
  subst e1
  refine ⟨a, rfl, ⟨vs, hsq⟩, _, M1, G1, α1, ps, f1, r1, fun i G' α' H' M' f' r' o => ?_⟩
  obtain ⟨a', vs2, e2, hsq2, rep2⟩ := tupD r' (q1.fw f')
  cases e2
  refine ⟨fun hi => ?_, fun hi => ⟨vs2, hsq2, by rw [rep2.length, hi]; exact Nat.le_refl _⟩⟩
  obtain ⟨x, ex, rx⟩ := RepL.get rep2 (List.getElem?_eq_getElem hi)
  refine ⟨⟨vs2, x, hsq2, ex⟩, fun y H'' hy => ?_⟩
  obtain ⟨eH, fy⟩ := hy
  subst eH
  have ey := fy vs2 hsq2
  rw [ex] at ey
  cases ey
  exact ⟨G', .d ds[i], Same.refl _, r', by show (ds[i]?).map DL.W.d = _; rw [List.getElem?_eq_getElem hi]; rfl, rx⟩
theorem src_range {K : Frag} {G : Hp} {α : List Addr} {lo hi : Int} : SrcOk K G α (Itr lo (hi - lo).toNat) ⟨(hi - lo).toNat, fun i => some (.d (.int (lo + i))), fun _ => True⟩ := fun i G' α' H' M' f' r' o =>
  ⟨fun hi => ⟨hi, fun x H'' hy => by obtain ⟨e1, e2⟩ := hy; subst e1 e2; exact ⟨G', _, Same.refl _, r', rfl, .int _⟩⟩, fun hi => Nat.le_of_eq hi.symm⟩
theorem dI_range1 (hm : X.mg "range" = none) (h : dE X a δ M (fun w M1 => ∃ n : Int, w = .d (.int n) ∧ -(2 ^ 62) ≤ n ∧ n < 2 ^ 62 ∧ Ψ ⟨n.toNat, fun i => some (.d (.int i)), fun _ => True⟩ M1) Ξ)
    (hg : Gl X "range" := by rfl) (hse : starEach [a] X.env = [(false, eval a X.env)] := by rfl) : dI X tg (.Call (.Name "range" p) [a] [] p2) δ M Ψ Ξ := fun W tk G α σ H r xc => by
  refine of_pi (pi_range1 hg hm (pa_cons pe_w pa_nil (by rw [hse]; rfl)) hse) (h.run tk r xc fun w M1 G1 α1 v H1 p1 f1 r1 q1 => ?_)
  obtain ⟨n, e1, n1, n2, ps⟩ := p1
  subst e1
  refine ⟨n, by rw [wint q1], n1, n2, _, M1, G1, α1, ps, f1, r1, ?_⟩
  have z := src_range (K := X.K) (G := G1) (α := α1) (lo := 0) (hi := n)
  rw [show n - 0 = n by omega] at z
  simp only [Int.zero_add] at z
  exact z
theorem dI_range2 (hm : X.mg "range" = none) (h : dE X a δ M (fun w M1 => dE X b δ M1 (fun u M2 => ∃ (lo hi : Int), w = .d (.int lo) ∧ u = .d (.int hi) ∧ (-(2 ^ 62) ≤ lo ∧ lo < 2 ^ 62 ∧ -(2 ^ 62) ≤ hi ∧ hi < 2 ^ 62) ∧ Ψ ⟨(hi - lo).toNat, fun i => some (.d (.int (lo + i))), fun _ => True⟩ M2) Ξ) Ξ)
    (hg : Gl X "range" := by rfl) (hse : starEach [a, b] X.env = [(false, eval a X.env), (false, eval b X.env)] := by rfl) (hse2 : starEach [b] X.env = [(false, eval b X.env)] := by rfl) : dI X tg (.Call (.Name "range" p) [a, b] [] p2) δ M Ψ Ξ := fun W tk G α σ H r xc => by
  refine of_pi (pi_range2 hg hm (pa_cons pe_w (pa_cons pe_w pa_nil (by rw [hse2]; rfl)) (by rw [hse, hse2])) hse hse2) (h.run tk r xc fun w M1 G1 α1 v H1 p1 f1 r1 q1 => p1.run tk r1 (xc.fw f1) fun u M2 G2 α2 v2 H2 p2 f2 r2 q2 => ?_)
  obtain ⟨lo, hi, e1, e2, hb, ps⟩ := p2
  subst e1 e2
  exact ⟨lo, hi, by rw [wint q1, wint q2], hb, _, M2, G2, α2, ps, f1.trans f2, r2, src_range⟩
/-- the for -/
theorem dS_for (hk : XOk X) (h : dI X tg it δ M (fun S M1 => ∃ I : Nat → SPo, I 0 δ M1 ∧ (∀ i δ M, I i δ M → S.ok M) ∧ ForP X tg body E Ξ S.n S.it I) Ξ) (hs : ∀ x, foldedSetIterable it X.env x = pure x := by intro _; rfl) : dS X (.For tg it body [] pos) δ M E Ξ := fun W tk G α σ H r xc => by
  refine of_ps (ps_for hk.po hk.calm pi_w pg_w pb_w hs) ((h W tk G α σ H r xc).mono fun J H1 ⟨S, M1, G1, α1, ⟨I, i0, hok, P⟩, f1, r1, so⟩ => ?_)
  refine ⟨fun i m σ' H' => m = S.n - i ∧ i ≤ S.n ∧ DQS X.K G1 α1 (I i) σ' H', ⟨S.n, by simp, Nat.zero_le _, δ, M1, G1, α1, i0, Fw.refl _ _, r1⟩, ?_⟩
  rintro i m σ2 H2 ⟨rfl, hle, δ2, M2, G2, α2, i2, f2, r2⟩
  obtain ⟨s1, s2⟩ := so i G2 α2 H2 M2 f2 r2.m (hok _ _ _ i2)
  by_cases hlt : i < S.n
  · obtain ⟨go, hy⟩ := s1 hlt
    refine .inr ⟨go, fun σ' H' => DQS X.K G1 α1 (I (i + 1)) σ' H', fun σ' H' z => ⟨S.n - (i + 1), by omega, rfl, hlt, z⟩, fun y H' yl => ?_⟩
    obtain ⟨G3, w, sg, rm, ew, rep⟩ := hy y H' yl
    have f3 : Fw G2 α2 G3 α2 := ⟨sg, Le.refl _⟩
    refine (for_body P tk hlt ew i2 (f2.trans f3) ⟨rm, r2.s.fw f3⟩ rep (xc.fw f1)).mono fun σ3 H3 z => z.mono ⟨fun _ _ z => z, fun _ _ z => DQR.fw f1 z, fun _ _ z => DQS.fw f1 z, fun _ _ z => z⟩
  · have e : i = S.n := by omega
    exact .inl ⟨s2 e, δ2, M2, G2, α2, P.done _ _ (by rw [← e]; exact i2), f1.trans f2, r2⟩
end

/-! ### comprehensions -/
theorem wipe_set {j : Nat} {x : Option V} : ∀ {vs : List Nat} {σ : L2.St}, j ∈ vs → wipe (σ.set j x) vs = wipe σ vs
  | v :: vs, σ, h => by
    unfold wipe
    by_cases hj : j ∈ vs
    · rw [wipe_set hj]
    · have e : j = v := (List.mem_cons.mp h).resolve_right hj
      subst e
      have nc : ∀ (vs : List Nat) (σ : L2.St), j ∉ vs → wipe (σ.set j x) vs = (wipe σ vs).set j x := by
        intro vs
        induction vs with
        | nil => intro σ _; rfl
        | cons u us ih =>
          intro σ hn
          unfold wipe
          rw [ih σ (fun z => hn (List.mem_cons_of_mem _ z)), List.set_comm _ _ (fun (z : j = u) => hn (z ▸ List.mem_cons_self))]
      rw [nc vs σ hj, List.set_set]
theorem wipe_wipe : ∀ (vs us : List Nat) (σ : L2.St), (∀ j ∈ us, j ∈ vs) → wipe (wipe σ us) vs = wipe σ vs
  | vs, [], σ, _ => rfl
  | vs, u :: us, σ, h => by
    show wipe ((wipe σ us).set u none) vs = _
    rw [wipe_set (h u List.mem_cons_self), wipe_wipe vs us σ fun j hj => h j (List.mem_cons_of_mem _ hj)]
def dwipe (δ : DSt) : List Nat → DSt
  | [] => δ
  | v :: vs => (dwipe δ vs).set v none
theorem RelS.wipe {K : Frag} {G : Hp} {α : List Addr} : ∀ {vs : List Nat} {σ : L2.St} {δ : DSt}, RelS K G α σ δ → RelS K G α (L2.wipe σ vs) (dwipe δ vs)
  | [], _, _, r => r
  | v :: vs, σ, δ, r => by
    have ih := RelS.wipe (vs := vs) r
    unfold L2.wipe dwipe
    refine ⟨by rw [List.length_set, List.length_set, ih.len], fun i w e => ?_⟩
    by_cases hi : v = i
    · subst hi
      by_cases hl : v < (dwipe δ vs).length
      · rw [List.getElem?_set_self hl] at e; cases e
      · rw [List.getElem?_eq_none (by simpa using hl)] at e; cases e
    · rw [List.getElem?_set_ne hi] at e ⊢
      exact ih.at_ i w e
/-- a target of names -/
structure TgSpec (K : Frag) where
  g : TG
  js : List Nat
  app : W → DSt → DSt → Prop
  ok : ∀ G α σ δ M H v w δ2, Rel K G H α σ δ M → WRep K G α v w → app w δ δ2 → ∀ Q : L2.St → Hp → Prop, (∀ σ2, RelS K G α σ2 δ2 → (∀ vs, (∀ j ∈ js, j ∈ vs) → wipe σ2 vs = wipe σ vs) → Q σ2 H) → g v σ H Q
def tgName (K : Frag) (j : Nat) : TgSpec K where
  g := gName j
  js := [j]
  app := fun w δ δ2 => δ2 = δ.set j (some w)
  ok := fun G α σ δ M H v w δ2 r q e Q k => by
    subst e
    exact k _ (r.s.set j q) fun vs h => wipe_set (h j List.mem_cons_self)
def tgPair (K : Frag) (i j : Nat) : TgSpec K where
  g := gTup K 2 (gCons (gName i) (gCons (gName j) gNil))
  js := [i, j]
  app := fun w δ δ2 => ∃ x y, w = .d (.tup [x, y]) ∧ δ2 = (δ.set i (some (.d x))).set j (some (.d y))
  ok := fun G α σ δ M H v w δ2 r q e Q k => by
    obtain ⟨x, y, e1, e2⟩ := e
    subst e1 e2
    obtain ⟨a, vs, e1, hs, rep⟩ := tupD r.m q
    cases rep with
    | cons q1 q2 =>
      cases q2 with
      | cons q2 q3 =>
        cases q3
        exact ⟨a, _, e1, hs, rfl, _, _, rfl, _, _, rfl, rfl, k _ ((r.s.set (w := .d x) i q1).set (w := .d y) j q2) fun vs h => by rw [wipe_set (h j (by simp)), wipe_set (h i (by simp))]⟩
def tgTriple (K : Frag) (i j l : Nat) : TgSpec K where
  g := gTup K 3 (gCons (gName i) (gCons (gName j) (gCons (gName l) gNil)))
  js := [i, j, l]
  app := fun w δ δ2 => ∃ x y z, w = .d (.tup [x, y, z]) ∧ δ2 = ((δ.set i (some (.d x))).set j (some (.d y))).set l (some (.d z))
  ok := fun G α σ δ M H v w δ2 r q e Q k => by
    obtain ⟨x, y, z, e1, e2⟩ := e
    subst e1 e2
    obtain ⟨a, vs, e1, hs, rep⟩ := tupD r.m q
    cases rep with
    | cons q1 q2 =>
      cases q2 with
      | cons q2 q3 =>
        cases q3 with
        | cons q3 q4 =>
          cases q4
          exact ⟨a, _, e1, hs, rfl, _, _, rfl, _, _, rfl, _, _, rfl, rfl, k _ (((r.s.set (w := .d x) i q1).set (w := .d y) j q2).set l q3) fun vs h => by rw [wipe_set (h l (by simp)), wipe_set (h j (by simp)), wipe_set (h i (by simp))]⟩
/-- a clause's tests -/
def wTs (X : Cx) (ifs : List Expr) : TT := fun σ H Q => ∀ (pins : List (Addr × Obj)) (s : Shared), Inv X pins σ H s →
    wpAny (model X.prog X.w) X.A (forIn ifs true fun c r => if r = true then do let ok ← isTrue c X.env (eval c X.env); pure (ForInStep.yield ok) else pure (ForInStep.yield r)) (TP X pins σ Q) X.xe s
theorem pts_w {X : Cx} {ifs : List Expr} : PTs X ifs (wTs X ifs) := ⟨fun pins s _ _ _ I h => h pins s I⟩
def dTs (X : Cx) (ifs : List Expr) (δ : DSt) (M : List MO) (Φ : TPo) (Ξ : XPo) : Prop := ∀ W, Takes X W → ∀ G α σ H, Rel X.K G H α σ δ M → XC X.K W Ξ G α → wTs X ifs σ H (DQT X.K G α σ δ Φ)
theorem dTs_nil {X : Cx} {δ : DSt} {M : List MO} {Φ : TPo} {Ξ : XPo} (p : Φ true M) : dTs X [] δ M Φ Ξ := fun W tk G α σ H r xc pins s I => pts_nil.run pins s σ H _ I ⟨M, G, α, p, Fw.refl _ _, r⟩
theorem dTs_one {X : Cx} {δ : DSt} {M : List MO} {Φ : TPo} {Ξ : XPo} {c : Expr} (h : dT X c δ M Φ Ξ) : dTs X [c] δ M Φ Ξ := fun W tk G α σ H r xc pins s I => (pts_one pt_w).run pins s σ H _ I (h W tk G α σ H r xc)
abbrev blkX (X : Cx) (scope : Scope) (s : Shared) (H : Hp) (C : Addr) (cl : List (Str × Addr)) (fp : List Addr) : Cx := X.blk s H scope (compEnvC scope cl C X.env) fp
def noX : XPo := fun _ _ _ => False
section
variable {X : Cx} {elt tg iter : Expr} {ifs : List Expr} {scope : Scope} {own : List (Str × Nat)} {δ : DSt} {M : List MO} {Φ : WP} {Ξ : XPo} {pos : Pos}
/-- how a comprehension goes: I by the turn, the list so far, the store (the list within, at k0) -/
structure LcP (X : Cx) (T : TgSpec X.K) (elt : Expr) (ifs : List Expr) (scope : Scope) (vs : List Nat) (δ : DSt) (S : Src) (k0 : Nat) (I : Nat → List W → List MO → Prop) : Prop where
  ok : ∀ i acc N, I i acc N → S.ok N ∧ N[k0]? = some (.lst acc)
  turn : ∀ i w acc N, i < S.n → S.it i = some w → I i acc N → ∃ δ2, T.app w (dwipe δ vs) δ2 ∧ ∀ s H C cl fp, dTs (blkX X scope s H C cl fp) ifs δ2 N (fun b N3 => (b = true → ∀ s H C cl fp, dE (blkX X scope s H C cl fp) elt δ2 N3 (fun y N4 => N4[k0]? = some (.lst acc) ∧ acc.length < sizeLine ∧ I (i + 1) (acc ++ [y]) (N4.set k0 (.lst (acc ++ [y])))) noX) ∧ (b = false → I (i + 1) acc N3)) noX
theorem dE_lc (hk : XOk X) (T : TgSpec X.K) (ok : BlkOk X.N X.env.scope scope own) (hg : ∀ (s : Shared) (H : Hp) (C : Addr) (cl : List (Str × Addr)) (fp : List Addr), PG (blkX X scope s H C cl fp) tg T.g) (hjs : ∀ j ∈ T.js, j ∈ own.map (·.2))
    (h : dI X tg iter δ M (fun S M1 => ∃ I, I 0 [] (M1 ++ [.lst []]) ∧ LcP X T elt ifs scope (own.map (·.2)) δ S M1.length I ∧ ∀ acc N, I S.n acc N → Φ (.p M1.length) N) Ξ) (hs : ∀ x, foldedSetIterable iter X.env x = pure x := by intro _; rfl) :
    dE X (.ListComp elt [⟨tg, iter, ifs, 0⟩] scope pos) δ M Φ Ξ := fun W tk G α σ H r xc => by
  refine of_pe (pe_lc hk.calm hk.nd pi_w ok hg (tt := fun σ' H' Q => ∀ s H C cl fp, wTs (blkX X scope s H C cl fp) ifs σ' H' Q) (te := fun σ' H' Q => ∀ s H C cl fp, wE (blkX X scope s H C cl fp) elt σ' H' Q) (fun s H C cl fp => ⟨fun pins s' σ' H' Q I h => h s H C cl fp pins s' I⟩) (fun s H C cl fp => ⟨fun pins s' σ' H' Q I h => h s H C cl fp pins s' I⟩) hs) ?_
  refine (h W tk G α σ H r xc).mono fun J H1 ⟨S, M1, G1, α1, ⟨I, i0, P, hd⟩, f1, r1, so⟩ Dl hD => ?_
  have l1 : Le α1 (α1 ++ [Dl]) := ⟨[Dl], rfl⟩
  have gD := r1.m.gnone hD
  have r1' : Rel X.K G1 (upd H1 Dl (.lst [])) (α1 ++ [Dl]) σ δ (M1 ++ [.lst []]) := ⟨r1.m.make hD ⟨gD, [], upd_same, .nil⟩, r1.s.mono (Same.refl _) l1⟩
  have fA : Fw G1 α1 G1 (α1 ++ [Dl]) := ⟨Same.refl _, l1⟩
  have aD : (α1 ++ [Dl])[M1.length]? = some Dl := by rw [← r1.m.al, List.getElem?_append_right (Nat.le_refl _), Nat.sub_self]; rfl
  refine ⟨fun i m H' => m = S.n - i ∧ i ≤ S.n ∧ ∃ acc N G' α', I i acc N ∧ Fw G1 (α1 ++ [Dl]) G' α' ∧ Rel X.K G' H' α' σ δ N, ⟨S.n, by simp, Nat.zero_le _, [], _, G1, _, i0, Fw.refl _ _, r1'⟩, ?_⟩
  rintro i m H2 ⟨rfl, hle, acc, N, G2, α2, i2, f2, r2⟩
  obtain ⟨o1, o2⟩ := P.ok i acc N i2
  obtain ⟨s1, s2⟩ := so i G2 α2 H2 N (fA.trans f2) r2.m o1
  by_cases hlt : i < S.n
  · obtain ⟨go, hy⟩ := s1 hlt
    refine .inr ⟨go, fun H' => ∃ acc N G' α', I (i + 1) acc N ∧ Fw G1 (α1 ++ [Dl]) G' α' ∧ Rel X.K G' H' α' σ δ N, fun H' z => ⟨S.n - (i + 1), by omega, rfl, hlt, z⟩, fun y H' yl => ?_⟩
    obtain ⟨G3, w, sg, rm, ew, rep⟩ := hy y H' yl
    have f3 : Fw G2 α2 G3 α2 := ⟨sg, Le.refl _⟩
    obtain ⟨δ2, ha, ht⟩ := P.turn i w acc N hlt ew i2
    have r3 : Rel X.K G3 H' α2 (wipe σ (own.map (·.2))) (dwipe δ (own.map (·.2))) N := ⟨rm, RelS.wipe (r2.s.fw f3)⟩
    refine T.ok G3 α2 _ _ N H' y w δ2 r3 rep ha _ fun σ2 rs2 hw2 => ⟨by rw [hw2 _ hjs, wipe_wipe _ _ _ fun j hj => hj], fun s0 H0 C cl fp => ?_⟩
    have tk0 : ∀ s H C cl fp, Takes (blkX X scope s H C cl fp) (fun _ _ _ _ => False) := fun _ _ _ _ _ => takes0
    have xc0 : ∀ G α, XC X.K (fun _ _ _ _ => False) noX G α := fun G α _ _ _ _ _ _ _ _ _ z => z.elim
    refine fun pins s I0 => thn (ht s0 H0 C cl fp _ (tk0 s0 H0 C cl fp) G3 α2 σ2 H' ⟨rm, rs2⟩ (xc0 _ _) pins s I0) fun b s4 ⟨H4, I4, N4, G4, α4, p4, f4, r4⟩ => ⟨H4, I4, ?_⟩
    have back : ∀ {G' α' H' N'}, Fw G4 α4 G' α' → RelM X.K G' H' α' N' → Rel X.K G' H' α' σ δ N' := fun f r' => ⟨r', r2.s.fw ((f3.trans f4).trans f)⟩
    cases b with
    | false => exact ⟨acc, N4, G4, α4, p4.2 rfl, (f2.trans f3).trans f4, back (Fw.refl _ _) r4.m⟩
    | true =>
      show ∀ s H C cl fp, wE (blkX X scope s H C cl fp) elt σ2 H4 _
      intro s5 H5 C5 cl5 fp5
      refine (p4.1 rfl s5 H5 C5 cl5 fp5).run (tk0 s5 H5 C5 cl5 fp5) r4 (xc0 _ _) fun y N5 G5 α5 vy H6 p5 f5 r5 q5 => ?_
      obtain ⟨h1, h2, h3⟩ := p5
      have aD5 := (((f2.trans f3).trans f4).trans f5).l.get aD
      obtain ⟨a', ha', gp, us, hu, z⟩ := r5.m.ob _ _ h1
      rw [aD5] at ha'; cases ha'
      refine ⟨us, hu, by rw [Paired.length z]; exact h2, _, _, G5, α5, h3, ((f2.trans f3).trans f4).trans f5, back f5 (r5.m.write h1 (fun z => nomatch z) aD5 ⟨gp, _, upd_same, paired_append z (.cons q5 .nil)⟩)⟩
  · have e : i = S.n := by omega
    refine .inl ⟨s2 e, .p M1.length, N, G2, α2, hd acc N (by rw [← e]; exact i2), (f1.trans fA).trans f2, r2, Dl, rfl, f2.l.get aD⟩
/-- what an expression leaves behind unused is dropped -/
theorem dE_cut {e : Expr} (h : dE X e δ M (fun w N => ∃ d M' g, w = .d d ∧ N = M' ++ g ∧ M.length ≤ M'.length ∧ Clo M' ∧ Φ (.d d) M') Ξ) : dE X e δ M Φ Ξ := fun W tk G α σ H r xc =>
  h.run tk r xc fun w N G1 α1 v H1 p1 f1 r1 q1 => by
    obtain ⟨d, M', g, e1, e2, hn, c, p⟩ := p1
    subst e1 e2
    obtain ⟨α2, l1, l2, r2, hl⟩ := cut_at f1.l r.m.al r1.m hn c
    have f2 : Fw G α G1 α2 := ⟨f1.g, l1⟩
    exact ⟨_, M', G1, α2, p, f2, ⟨r2, r.s.fw f2⟩, q1⟩
/-- the same, the store as ahead -/
theorem dE_drop {e : Expr} (h : dE X e δ M (fun w N => ∃ d g, w = .d d ∧ N = M ++ g ∧ Φ (.d d) M) Ξ) : dE X e δ M Φ Ξ := fun W tk G α σ H r xc =>
  dE_cut (h.imp fun w N ⟨d, g, e1, e2, p⟩ => ⟨d, M, g, e1, e2, Nat.le_refl _, r.m.clo, p⟩) W tk G α σ H r xc
/-- a comprehension whose items are known: data, the store as ahead -/
theorem dv_lc {S : Src} (hk : XOk X) (T : TgSpec X.K) (ok : BlkOk X.N X.env.scope scope own) (hg : ∀ (s : Shared) (H : Hp) (C : Addr) (cl : List (Str × Addr)) (fp : List Addr), PG (blkX X scope s H C cl fp) tg T.g) (hjs : ∀ j ∈ T.js, j ∈ own.map (·.2))
    (hi : ∀ (Ψ : Src → List MO → Prop) Ξ, Ψ S M → dI X tg iter δ M Ψ Ξ) (hS : ∀ M', S.ok M') (hn : S.n ≤ sizeLine) (f : Nat → Option D)
    (turn : ∀ i w, i < S.n → S.it i = some w → ∃ δ2, T.app w (dwipe δ (own.map (·.2))) δ2 ∧ ∀ s H C cl fp M', dTs (blkX X scope s H C cl fp) ifs δ2 M' (fun b N3 => N3 = M' ∧ (b = true → ∃ d, f i = some d ∧ ∀ s H C cl fp, dV (blkX X scope s H C cl fp) elt δ2 M' (.d d)) ∧ (b = false → f i = none)) noX)
    (hs : ∀ x, foldedSetIterable iter X.env x = pure x := by intro _; rfl) : dV X (.ListComp elt [⟨tg, iter, ifs, 0⟩] scope pos) δ M (.d (.lst ((List.range S.n).filterMap f))) := fun Φ Ξ p => by
  refine dE_drop (dE_freeze (dE_lc hk T ok hg hjs (hi _ _ ⟨fun i acc N => acc = ((List.range i).filterMap f).map W.d ∧ N = M ++ [.lst acc], ⟨rfl, rfl⟩, ⟨fun i acc N h => ?_, fun i w acc N hl hw h => ?_⟩, fun acc N h => ?_⟩) hs))
  · obtain ⟨e1, e2⟩ := h
    subst e2
    exact ⟨hS _, by rw [List.getElem?_append_right (Nat.le_refl _), Nat.sub_self]; rfl⟩
  · obtain ⟨e1, e2⟩ := h
    obtain ⟨δ2, ha, ht⟩ := turn i w hl hw
    refine ⟨δ2, ha, fun s H C cl fp W tk G α σ H' r xc pins s' I => thn (ht s H C cl fp N W tk G α σ H' r xc pins s' I) fun b s2 ⟨H2, I2, M2, G2, α2, ⟨eM, p1, p2⟩, f2, r2⟩ => ⟨H2, I2, M2, G2, α2, ⟨fun hb s H C cl fp => ?_, fun hb => ?_⟩, f2, r2⟩⟩
    · obtain ⟨d, ef, hd⟩ := p1 hb
      subst eM
      refine (hd s H C cl fp).ev ⟨?_, ?_, ?_, ?_⟩
      · rw [e2, List.getElem?_append_right (Nat.le_refl _), Nat.sub_self]; rfl
      · rw [e1, List.length_map]
        refine Nat.lt_of_le_of_lt (List.length_filterMap_le ..) ?_
        rw [List.length_range]
        exact Nat.lt_of_lt_of_le hl hn
      · rw [e1, List.range_succ, List.filterMap_append, List.map_append]
        show _ = _ ++ List.map DL.W.d (List.filterMap f [i])
        rw [List.filterMap_cons, ef]
        rfl
      · rw [e2, List.set_append_right _ _ (Nat.le_refl _), Nat.sub_self]
        rfl
    · subst eM
      refine ⟨?_, e2⟩
      rw [e1, List.range_succ, List.filterMap_append, List.map_append]
      show _ = _ ++ List.map DL.W.d (List.filterMap f [i])
      rw [List.filterMap_cons, p2 hb]
      exact (List.append_nil _).symm
  · obtain ⟨e1, e2⟩ := h
    refine ⟨M.length, _, rfl, ?_, _, [.dead], rfl, ?_, p⟩
    · rw [e2, List.getElem?_append_right (Nat.le_refl _), Nat.sub_self, e1]; rfl
    · rw [e2, List.set_append_right _ _ (Nat.le_refl _), Nat.sub_self]
      rfl
/-- .. without tests -/
theorem dv_lc0 {S : Src} (hk : XOk X) (T : TgSpec X.K) (ok : BlkOk X.N X.env.scope scope own) (hg : ∀ (s : Shared) (H : Hp) (C : Addr) (cl : List (Str × Addr)) (fp : List Addr), PG (blkX X scope s H C cl fp) tg T.g) (hjs : ∀ j ∈ T.js, j ∈ own.map (·.2))
    (hi : ∀ (Ψ : Src → List MO → Prop) Ξ, Ψ S M → dI X tg iter δ M Ψ Ξ) (hS : ∀ M', S.ok M') (hn : S.n ≤ sizeLine) (f : Nat → D)
    (turn : ∀ i w, i < S.n → S.it i = some w → ∃ δ2, T.app w (dwipe δ (own.map (·.2))) δ2 ∧ ∀ s H C cl fp M', dV (blkX X scope s H C cl fp) elt δ2 M' (.d (f i)))
    (hs : ∀ x, foldedSetIterable iter X.env x = pure x := by intro _; rfl) : dV X (.ListComp elt [⟨tg, iter, [], 0⟩] scope pos) δ M (.d (.lst ((List.range S.n).map f))) :=
  dv_to (dv_lc hk T ok hg hjs hi hS hn (fun i => some (f i)) (fun i w hl hw => by
    obtain ⟨δ2, ha, ht⟩ := turn i w hl hw
    exact ⟨δ2, ha, fun s H C cl fp M' => dTs_nil ⟨rfl, fun _ => ⟨_, rfl, fun s H C cl fp => ht s H C cl fp M'⟩, fun z => nomatch z⟩⟩) hs) (by rw [← List.filterMap_eq_map]; rfl)
end
end DL

set_option maxRecDepth 100000
set_option maxHeartbeats 1000000
/-! # DL6: exceptions: raised, made by their own __init__, caught, read -/
namespace DL
open PySem PySem.Spec PyProof.Rows L2
open PySem.W (Frag)

/-! ### makers -/
def wM (X : Cx) (e : Expr) : L2.St → Hp → XK → Prop := fun σ H Q => ∀ (pins : List (Addr × Obj)) (s : Shared), Inv X pins σ H s → wpAny (model X.prog X.w) X.A (eval e X.env) (MkP X pins σ Q) X.xe s
def DQX (K : Frag) (G : Hp) (α : List Addr) (σ : L2.St) (δ : DSt) (Φ : DX → List MO → Prop) : XK := fun cls dd H' => ∃ x M' G' α', Φ x M' ∧ Fw G α G' α' ∧ Rel K G' H' α' σ δ M' ∧ ExRep x cls dd G'
def dM (X : Cx) (e : Expr) (δ : DSt) (M : List MO) (Φ : DX → List MO → Prop) (Ξ : XPo) : Prop := ∀ W, Takes X W → ∀ G α σ H, Rel X.K G H α σ δ M → XC X.K W Ξ G α → wM X e σ H (DQX X.K G α σ δ Φ)
section
variable {X : Cx} {e a b : Expr} {es : List Expr} {δ : DSt} {M : List MO} {Φ : DX → List MO → Prop} {E : DE} {Ξ : XPo} {pos p p2 : Pos}
theorem dS_raise (hc : X.calm = true) (h : dM X e δ M (fun x M' => Ξ x δ M') Ξ) : dS X (.Raise (some e) none pos) δ M E Ξ := fun W tk G α σ H r xc =>
  of_ps (ps_raise hc tk (t := fun σ' H' Q => wM X e σ' H' Q) (fun pins s σ' H' Q I h => h pins s I)) (fun pins s I => by
    refine thn (h W tk G α σ H r xc pins s I) fun u s' hh => ?_
    obtain ⟨a, oe, vs, sI, H', cls, d, e1, e2, e3, e4, e5, e6, e7, e8, e9, e10, e11, e12, x, M', G', α', p1, f1, r1, ex⟩ := hh
    exact ⟨a, oe, vs, sI, H', cls, d, e1, e2, e3, e4, e5, e6, e7, e8, e9, e10, e11, e12, xc x δ M' σ G' α' H' cls d p1 f1 r1 ex⟩)
/-- an own class without an __init__ of its own: X('..') -/
structure ExcO (K : Frag) (mg : Str → Option Value) (x : Str) (C : Addr) : Prop where
  g : mg x = some (.ref C)
  k : PySem.W.keepIn K (.ref C) = true
  x : PySem.W.excIn K C [.type "ValueError", .type "Exception", .type "BaseException", .type "object"] "ValueError.__new__" = true
  b : PySem.W.subIn K (.ref C) (.type "BaseException") = some true
  t : PySem.W.typeIn K (.ref C) = some (.type "type")
theorem dM_own {x m : Str} {j : Nat} {C : Addr} (T : ExcO X.K X.mg x C) (h : Φ ⟨.ref C, none⟩ M) (hg : Gl X x := by rfl) (hdb : (x == ("__debug__" : Str)) = false := by decide) : dM X (.Call (.Name x p) [.Constant (.str m) j p2] [] pos) δ M Φ Ξ := fun W tk G α σ H r xc pins s I =>
  pmk_own PySem.F.excBase_ValueError T.x T.g T.k (raises_own T.b T.t) hg hdb pins s σ H _ I ⟨_, M, G, α, h, Fw.refl _ _, r, rfl, rfl⟩
end

theorem wints {K : Frag} {G : Hp} {α : List Addr} : ∀ {vs : List V} {is : List Int}, WRepL K G α vs (is.map fun i => W.d (.int i)) → vs = is.map V.int
  | [], [], _ => rfl
  | _ :: _, i :: is, .cons q r => by rw [wint q, wints r]; rfl
/-! ### __init__ of one's own -/
/-- PrimeError.__init__(self, ..), the name that of a class of one's own which has the base's -/
theorem pe_ovinit {X : Cx} {e : Expr} {es : List Expr} {ta : TA} {p1 p2 pos : Pos} {x : Str} {C : Addr} {mc : Value} {pl : Sem Bool} (hg : Gl X x) (hm : X.mg x = some (.ref C)) (r : ClX.CRead X.K C mc) (k : PySem.W.findCls X.K (.ref C) mc "__init__" = some (.val (.builtin "ValueError.__init__"))) (ha : PA X (e :: es) ta)
    (hdb : (x == ("__debug__" : Str)) = false := by decide)
    (hc : eval (.Call (.Attribute (.Name x p1) "__init__" p2) (e :: es) [] pos) X.env = (do
      let ov ← eval (.Name x p1) X.env
      standAt p2.atName
      let (f, first) ← holding [ov] (getMethod ov "__init__" pl)
      callWith pos f first (backTo pos (starEach (e :: es) X.env)) (backToKw pos (keywordEach [] X.env))) := by rfl)
    (he : starEach (e :: es) X.env = (false, eval e X.env) :: starEach es X.env := by rfl) (hpl : (backTo pos (starEach es X.env)).any (·.1) = false := by rfl) :
    PE X (.Call (.Attribute (.Name x p1) "__init__" p2) (e :: es) [] pos) (tVeI X.K ta) := by
  refine ⟨fun pins s σ H Q I h => ?_⟩
  refine PySem.W.methodCall_KW (ld_glob I hg hm ?_ hdb) hc
  refine PySem.W.method_cls I.kIn r.ga (PySem.W.cls_value I.kIn r.rd k (by rfl) ?_)
  show wpAny _ _ (callWith pos (Value.builtin "ValueError.__init__") [] (backTo pos (starEach (e :: es) X.env)) []) _ _ _
  refine PyProof.Rows.callWith_method1 (thn (ha.run pos pins _ σ H _ (I.tok _) h) fun us s1 ⟨vs, H1, I1, r1, a, C, ws, ev, hl, T, ea, q⟩ => ?_) he hpl
  subst ev
  cases r1 with
  | @cons _ u0 _ ur ra rw' =>
    obtain rfl : u0 = Value.ref a := ra
    have hlen : ur.length ≤ sizeLine := by
      rw [← Paired.length rw', sizeLine_eq]
      omega
    exact oinit_ok T I1 ea hlen fun s' J => ⟨.non, H1, J, rfl, q⟩
/-- what such an __init__ promises: the fields are the arguments -/
def spInit (C : Addr) (fs : List V → List (Str × V)) : Sp := fun vs H Q _ => ∃ a xs, vs = .ref a :: xs ∧ H a = some (exo a C none) ∧
  ∀ d H', H d = none → d ≠ a → H' a = some (exo a C (some d)) → H' d = some (exd d (fs xs)) → (∀ b, b ≠ a → b ≠ d → H' b = H b) → Q .non H'
structure ExcI (P : Program) (w : World) (K : Frag) (mg : Str → Option Value) (base : Heap) (k : Nat) (x : Str) (C : Addr) (n : Nat) (fs : List V → List (Str × V)) : Prop where
  g : mg x = some (.ref C)
  o : OexC K C
  i : ∃ fI fd ps, PySem.W.findIn K (.ref C) "__init__" = some (some (.ref fI)) ∧ PySem.W.typeIn K (.ref fI) = some (.type "function") ∧ FnOk P w K mg base CX0 k fI fd ps (fun vs H Q E => vs.length = n + 1 ∧ spInit C fs vs H Q E) ∧ Binds K fd ps []
section
variable {X : Cx} {e a b : Expr} {es : List Expr} {δ : DSt} {M : List MO} {Φ : DX → List MO → Prop} {E : DE} {Ξ : XPo} {pos p p2 : Pos}
theorem dM_init {k n : Nat} {x : Str} {C : Addr} {fs : List V → List (Str × V)} (T : ExcI X.prog X.w X.K X.mg X.base k x C n fs) (hr : Room (k + 1) X.A) (hn : n ≤ 100) (h : dA X (e :: es) δ M (fun ws M1 => ∃ is : List Int, is.length = n ∧ ws = is.map (fun i => W.d (.int i)) ∧ Φ ⟨.ref C, some (fs (is.map V.int))⟩ M1) Ξ)
    (hg : Gl X x := by rfl) (hdb : (x == ("__debug__" : Str)) = false := by decide) (he : starEach (e :: es) X.env = (false, eval e X.env) :: starEach es X.env := by rfl) (hpl : (backTo pos (starEach es X.env)).any (·.1) = false := by rfl) :
    dM X (.Call (.Name x p) (e :: es) [] pos) δ M Φ Ξ := fun W tk G α σ H r xc pins s I => by
  obtain ⟨fI, fd, ps, h1, h2, F1, hb⟩ := T.i
  refine pmk_oex T.o h1 h2 F1 hr hb .nil pass0 hg T.g pa_w hdb he hpl pins s σ H _ I (h.run tk r xc fun ws M1 G1 α1 vs H1 p1 f1 r1 q1 => ?_)
  obtain ⟨is, hl, e1, ph⟩ := p1
  subst e1
  have ev : vs = is.map V.int := by
    exact wints q1
  subst ev
  refine ⟨by rw [List.length_map, hl]; omega, fun a ha => ?_⟩
  rw [List.append_nil]
  refine ⟨by rw [List.length_cons, List.length_map, hl], a, _, rfl, upd_same, fun d H' hd hda e1 e2 e3 => ⟨rfl, d, fs (is.map V.int), e1, e2, ?_, ?_⟩⟩
  · rw [upd_ne hda] at hd; exact hd
  · have hd1 : H1 d = none := by rw [upd_ne hda] at hd; exact hd
    have eH : upd (del H' a) d (.xd (fs (is.map V.int))) = upd H1 d (.xd (fs (is.map V.int))) := by
      funext b
      by_cases hb : b = d
      · subst hb; rw [upd_same, upd_same]
      · rw [upd_ne hb, upd_ne hb]
        by_cases hba : b = a
        · subst hba; rw [del_same, ha]
        · rw [del_ne hba, e3 b hba hb, upd_ne hba]
    rw [eH]
    exact ⟨_, M1, _, α1, ph, f1.trans ⟨same_new (r1.m.gnone hd1), Le.refl _⟩, r1.froz hd1, rfl, d, rfl, upd_same⟩
end

/-! ### try .. except X as n -/
section
variable {X : Cx} {e : Expr} {body suite : List Stmt} {b₀ : Stmt} {δ : DSt} {M : List MO} {E : DE} {Ξ Ξb : XPo} {pos pos' np : Pos} {x n : Str} {c : Value} {i : Nat}
abbrev exV (a : Addr) (dd : Option Addr) (x : DX) : W := .d (.exn a dd x.fs)
/-- the ends of a suite: the name is gone behind it -/
def endN (E : DE) (i : Nat) : DE := { nx := fun δ M => E.nx (δ.set i none) M, rt := E.rt, bk := fun δ M => E.bk (δ.set i none) M, ct := fun δ M => E.ct (δ.set i none) M }
theorem RelS.unset {K : Frag} {G : Hp} {α : List Addr} {σ : L2.St} {δ : DSt} (r : RelS K G α σ δ) (i : Nat) : RelS K G α (σ.set i none) (δ.set i none) := by
  refine ⟨by rw [List.length_set, List.length_set, r.len], fun j w h => ?_⟩
  by_cases hj : i = j
  · subst hj
    by_cases hl : i < δ.length
    · rw [List.getElem?_set_self hl] at h; cases h
    · rw [List.getElem?_eq_none (by simpa using hl)] at h; cases h
  · rw [List.getElem?_set_ne hj] at h ⊢
    exact r.at_ j w h
theorem dS_try (hk : XOk X) (hs : X.stack = X.env :: X.outer) (hf : X.env.frame = some X.env.locals) (hc : Names X x c)
    (hb : ∀ (pn : List (Addr × Obj)) (xe : Value → Shared → Prop), XOk (X.tr pn xe) → dB (X.tr pn xe) body δ M E Ξb)
    (hx : ∀ y δ' M', Ξb y δ' M' → ∃ b, PySem.W.exmOne X.K y.cls c = some b ∧ (b = false → Ξ y δ' M') ∧
      (b = true → ∀ (a : Addr) (oe : Obj) (dd : Option Addr) (pn : List (Addr × Obj)), Zc y.cls dd oe → (∃ vs, oe.data = .fields vs) → dB (X.suite a ((a, oe) :: pn)) (b₀ :: suite) (δ'.set i (some (exV a dd y))) M' (endN E i) noX))
    (hi : X.N[i]? = some n := by rfl) (hln : X.env.kindOf n = some .local := by rfl) :
    dS X (.Try body [.ExceptHandler (some (.Name x np)) (some n) (b₀ :: suite) pos'] [] [] pos) δ M E Ξ := fun W tk G α σ H r xc => by
  refine of_ps (ps_try_as (tb := fun W' D σ' H' => ∃ G' α' δ' M', Rel X.K G' H' α' σ' δ' M' ∧ XC X.K W' Ξb G' α' ∧ (Fw G α G' α' ∧ D = DQE X.K G α E ∧ δ' = δ ∧ M' = M))
    (ts := fun a cls dd D σ' H' => ∀ oe pn, Zc cls dd oe → (∃ vs, oe.data = .fields vs) → wB (X.suite a ((a, oe) :: pn)) (b₀ :: suite) D σ' H') hs hf hk.nd hi hln hc tk (fun W' pn xe tk' po => ⟨fun pins s σ' H' D I h => ?_⟩) (fun a oe cls d pn hz hd => ⟨fun pins s σ' H' D I h => h oe pn hz hd pins s I⟩)) ?_
  · obtain ⟨G', α', δ', M', r', xc', f', eD, e1, e2⟩ := h
    subst e1 e2 eD
    exact (hb pn xe ⟨hk.calm, hk.nd, po⟩).run (X := X.tr pn xe) tk' r' xc' (DQE.fw f') pins s I
  · refine ⟨G, α, δ, M, r, ?_, Fw.refl _ _, rfl, rfl, rfl⟩
    intro y δ' M' σ' G' α' H' cls dd z f r' ex
    obtain ⟨b, hb1, hno, hyes⟩ := hx y δ' M' z
    obtain ⟨e1, ex2⟩ := ex
    subst e1
    refine ⟨b, hb1, fun hbt a ha oe pn hz hd => ?_, fun hbf => xc y δ' M' σ' G' α' H' y.cls dd (hno hbf) f r' ⟨rfl, ex2⟩⟩
    have rep : WRep X.K G' α' (.ref a) (exV a dd y) := by
      cases hfs : y.fs with
      | none =>
        rw [hfs] at ex2
        show Rep X.K G' (.ref a) (.exn a dd y.fs)
        rw [hfs, show dd = none from ex2]
        exact .exn0 a
      | some fs =>
        rw [hfs] at ex2
        obtain ⟨d, e1, e2⟩ := ex2
        show Rep X.K G' (.ref a) (.exn a dd y.fs)
        rw [hfs, e1]
        exact .exn e2
    refine (hyes hbt a oe dd pn hz hd).run (X := X.suite a ((a, oe) :: pn)) takes0 ⟨r'.m, r'.s.set i rep⟩ (fun _ _ _ _ _ _ _ _ _ z => z.elim) ?_
    have cv : ∀ (Φ : SPo) σ2 H2, DQS X.K G' α' (fun δ M => Φ (δ.set i none) M) σ2 H2 → DQS X.K G α Φ (σ2.set i none) H2 := fun Φ σ2 H2 ⟨δ2, M2, G2, α2, a1, a2, a3⟩ => ⟨_, M2, G2, α2, a1, f.trans a2, a3.m, a3.s.unset i⟩
    exact ⟨fun σ2 H2 z => cv E.nx σ2 H2 z, fun v H2 z => DQR.fw f z, fun σ2 H2 z => cv E.bk σ2 H2 z, fun σ2 H2 z => cv E.ct σ2 H2 z⟩
end
/-- the class of an except clause, by the written part -/
theorem names_own {X : Cx} {x : Str} {C : Addr} (h : X.mg x = some (.ref C)) (hg : Gl X x := by rfl) (hd : (x == ("__debug__" : Str)) = false := by decide) : Names X x (.ref C) := ⟨hg, hd, .inl h⟩

/-! ### what a suite reads of its exception -/
section
variable {X : Cx} {e : Expr} {δ : DSt} {M : List MO} {Φ : WP} {Ξ : XPo} {pos p : Pos} {a C : Addr} {oe : Obj} {dd : Option Addr} {pn : List (Addr × Obj)}
/-- e.f -/
theorem dv_xf {f : Str} {fs : List (Str × V)} {v : V} {d : D} (T : XfC X.K C) (hno : PySem.W.findIn X.K (.ref C) f = some none) (hz : Zc (.ref C) dd oe) (hf : ∃ vs, oe.data = .fields vs) (he : dV (X.suite a ((a, oe) :: pn)) e δ M (.d (.exn a dd (some fs))))
    (hl : fs.lookup f = some v) (hv : ∀ K G, Rep K G v d) (hb : attributeBase e f X.env (eval e X.env) = eval e X.env := by rfl) : dV (X.suite a ((a, oe) :: pn)) (.Attribute e f pos) δ M (.d d) := fun Φ Ξ q W tk G α σ H r xc =>
  of_pe (pe_xf T hno hz hf pe_w hb) (((he.ev (Φ := fun w M' => w = .d (.exn a dd (some fs)) ∧ M' = M) (Ξ := Ξ) ⟨rfl, rfl⟩).run tk r xc fun w M1 G1 α1 v1 H1 p1 f1 r1 q1 => by
    obtain ⟨e1, e2⟩ := p1
    subst e1 e2
    have q' : Rep X.K G1 v1 (.exn a dd (some fs)) := q1
    cases q' with
    | @exn _ d' _ hd => exact ⟨rfl, rfl, d', fs, v, rfl, r1.m.gh _ _ hd, hl, _, _, G1, α1, q, f1, r1, hv _ _⟩))
/-- what the written part says of an exception's class, for isinstance -/
structure ExcK (K : Frag) (D : Addr) : Prop where
  cl : (PySem.W.clsIn K D).isSome = true
  hg : PySem.W.findIn K (.ref D) "__getattribute__" = some (some (.builtin "BaseException.__getattribute__"))
  hk : PySem.W.findIn K (.ref D) "__getattr__" = some none
  hs : PySem.W.subIn K (.ref D) (.type "BaseException") = some true
  ha : PySem.W.findIn K (.ref D) "__class__" = some (some (.builtin "object.__class__"))
  hn : PySem.W.specialIn K (.builtin "object.__class__") "__get__" = some (some (.builtin "getset_descriptor.__get__"))
  ht : PySem.W.takesIn K (.builtin "object.__class__") = some true
  hm : PySem.W.mroIn K D (.type "object") = some true
/-- isinstance(e, c) -/
def rIsX (K : Frag) (D a : Addr) (dd : Option Addr) : List V → Hp → VK → Prop := fun xs H Q => ∃ (c : V) (cv : Value) (b : Bool), xs = [.ref a, c] ∧ (∀ u, RelV c u → u = cv) ∧ PySem.W.kitOne K (.ref D) cv = some b ∧ (∀ d, dd = some d → ∃ fs, H d = some (.xd fs)) ∧ Q (.bl b) H
theorem call_isX {D : Addr} (C : ExcK X.K D) (hz : Zc (.ref D) dd oe) (hf : ∃ vs, oe.data = .fields vs) : CallR (X.suite a ((a, oe) :: pn)) (.builtin "isinstance") (rIsX X.K D a dd) := by
  intro pins s σ H xs us Q I r h
  obtain ⟨c, cv, b, rfl, hcv, e, hdd, q⟩ := h
  cases r with
  | cons rx rr =>
    cases rr with
    | cons rt rr =>
      cases rr
      cases rx
      have ec := hcv _ rt
      subst ec
      obtain ⟨hget, _⟩ := I.pin (a, oe) (List.mem_append.mpr (.inl List.mem_cons_self))
      obtain ⟨vs, hv⟩ := hf
      have J : ∃ od, PySem.W.InstAt s.heap a oe D od := by
        obtain ⟨h1, h2⟩ := hz
        cases dd with
        | none => exact ⟨none, hget, h1, by unfold PySem.W.notCls; rw [hv] <;> rfl, by rw [h2]; trivial⟩
        | some d =>
          obtain ⟨fs, hd⟩ := hdd d rfl
          obtain ⟨mA, hns, _⟩ := (show ObjOk X.prog X.w H s.heap d (.xd fs) from I.hok d _ hd)
          obtain ⟨od, ho, _⟩ := lookIn_ns hns
          exact ⟨some od, hget, h1, by unfold PySem.W.notCls; rw [hv] <;> rfl, by rw [h2]; exact ho⟩
      obtain ⟨od, J⟩ := J
      exact PySem.W.kia_one (PySem.W.kitx_exc C.cl C.hg C.hk C.hs C.ha C.hn C.ht C.hm) I.kIn J e (fun z => nomatch z) fun tk => ⟨.bl b, H, I.kept (t' := tk) fun _ _ z => z, rfl, q⟩
theorem dv_isX {D : Addr} {c : Expr} {fs : Option (List (Str × V))} {v : V} {cv : Value} {k : Bool} (C : ExcK X.K D) (hz : Zc (.ref D) dd oe) (hf : ∃ vs, oe.data = .fields vs) (hm : X.mg "isinstance" = none) (he : dV (X.suite a ((a, oe) :: pn)) e δ M (.d (.exn a dd fs))) (hc : dV (X.suite a ((a, oe) :: pn)) c δ M (.d (.raw v)))
    (hv : ∀ u, RelV v u → u = cv) (hk : PySem.W.kitOne X.K (.ref D) cv = some k) (hg : Gl X "isinstance" := by rfl) (hs : starEach [e, c] X.env = (false, eval e X.env) :: starEach [c] X.env := by rfl) (hs2 : starEach [c] X.env = (false, eval c X.env) :: starEach [] X.env := by rfl)
    (hpl : (backTo pos (starEach [c] X.env)).any (·.1) = false := by rfl) : dV (X.suite a ((a, oe) :: pn)) (.Call (.Name "isinstance" p) [e, c] [] pos) δ M (.d (.bl k)) :=
  dv_callB (call_isX C hz hf) hm PyProof.Rows.boot_isinstance (da_cons he (da_cons hc da_nil hs2) hs) (fun Φ q G α σ δ H vs Q r h1 kk => by
    obtain ⟨v1, v2, e1, y1, y2⟩ := w2 h1
    have q' : Rep X.K G v1 (.exn a dd fs) := y1
    refine ⟨v, cv, k, ?_, hv, hk, ?_, kk _ _ ⟨_, M, G, α, q, Fw.refl _ _, r, .bl _⟩⟩
    · rw [e1, wraw y2]
      cases q' <;> rfl
    · intro d e2
      cases q' with
      | exn0 => cases e2
      | @exn _ d' fs' hd =>
        cases e2
        exact ⟨fs', r.m.gh _ _ hd⟩) hg (by decide) (by decide) hs hpl
end
end DL

set_option maxRecDepth 100000
set_option maxHeartbeats 1000000
/-! # DL7: short words -/
namespace DL
open PySem PySem.Spec PyProof.Rows L2
open PySem.W (Frag)
abbrev wi (n : Int) : W := .d (.int n)
abbrev sI (n : Int) : Option W := some (.d (.int n))
abbrev sD (d : D) : Option W := some (.d d)
section
variable {X : Cx} {δ : DSt} {M : List MO} {w : W} {pos : Pos}
theorem nm (i : Nat) {x : Str} (hi : δ[i]? = some (some w)) (hN : X.N[i]? = some x := by rfl) (hv : Vis X.env.scope x := by first | exact Or.inl rfl | exact Or.inr (Or.inl rfl) | exact Or.inr (Or.inr rfl)) (hd : (x == ("__debug__" : Str)) = false := by decide)
    (hcd : (x == ("__classdict__" : Str)) = false := by decide) : dV X (.Name x pos) δ M w := dv_name hi hN hv hd hcd
theorem tg (i : Nat) {x : Str} {Φ : SPo} (hk : XOk X) (p : Φ (δ.set i (some w)) M) (hi : X.N[i]? = some x := by rfl) (hx : Loc X.env.scope x := by first | exact Or.inl rfl | exact Or.inr rfl)
    (hf : X.fn x = true ∨ X.env.scope.names.lookup x = some .local := by first | exact .inl rfl | exact .inr rfl) : dG X (.Name x pos) w δ M Φ := dg_name p hk.nd hi hx hf
/-- x = e, then the rest -/
theorem st (i : Nat) {x : Str} {pos' : Pos} {e : Expr} {E : DE} {Ξ : XPo} {sts : List Stmt} (hk : XOk X) (h : dE X e δ M (fun w M1 => dB X sts (δ.set i (some w)) M1 E Ξ) Ξ) (hi : X.N[i]? = some x := by rfl) (hx : Loc X.env.scope x := by first | exact Or.inl rfl | exact Or.inr rfl)
    (hs : swapsWith e (some (.Name x pos')) pos.line X.env = pure false := by rfl) (hf : X.fn x = true ∨ X.env.scope.names.lookup x = some .local := by first | exact .inl rfl | exact .inr rfl) : dB X (.Assign [.Name x pos'] e pos :: sts) δ M E Ξ := dB_cons (dS_set h hk.nd hi hx hs hf)
/-- return e -/
theorem rt {e : Expr} {E : DE} {Ξ : XPo} {sts : List Stmt} (h : dE X e δ M E.rt Ξ) : dB X (.Return (some e) pos :: sts) δ M E Ξ := dB_cons (dS_ret (E := { E with nx := fun δ' M' => dB X sts δ' M' E Ξ }) h)
theorem iff {k : Bool} {c : Expr} {E : DE} {Ξ : XPo} {sts s1 s2 : List Stmt} (h : dTV X c δ M k) (h1 : k = true → dB X s1 δ M { E with nx := fun δ' M' => dB X sts δ' M' E Ξ } Ξ) (h2 : k = false → dB X s2 δ M { E with nx := fun δ' M' => dB X sts δ' M' E Ξ } Ξ) : dB X (.If c s1 s2 pos :: sts) δ M E Ξ := dB_cons (ds_if h h1 h2)
/-- if c: .. (no else) -/
theorem ifn {k : Bool} {c : Expr} {E : DE} {Ξ : XPo} {sts s1 : List Stmt} (h : dTV X c δ M k) (h1 : k = true → dB X s1 δ M { E with nx := fun δ' M' => dB X sts δ' M' E Ξ } Ξ) (h2 : k = false → dB X sts δ M E Ξ) : dB X (.If c s1 [] pos :: sts) δ M E Ξ := iff h h1 fun hk => dB_nil (h2 hk)
end
section
variable {X : Cx} {δ : DSt} {M : List MO} {w : W} {pos : Pos}
/-- an if whose ways meet: Mid -/
theorem ifj (Mid : SPo) {k : Bool} {c : Expr} {E : DE} {Ξ : XPo} {sts s1 s2 : List Stmt} (h : dTV X c δ M k) (h1 : k = true → dB X s1 δ M { E with nx := Mid } Ξ) (h2 : k = false → dB X s2 δ M { E with nx := Mid } Ξ) (h3 : ∀ δ' M', Mid δ' M' → dB X sts δ' M' E Ξ) : dB X (.If c s1 s2 pos :: sts) δ M E Ξ :=
  iff h (fun hk => (h1 hk).imp ⟨fun _ _ p => h3 _ _ p, fun _ _ p => p, fun _ _ p => p, fun _ _ p => p⟩) (fun hk => (h2 hk).imp ⟨fun _ _ p => h3 _ _ p, fun _ _ p => p, fun _ _ p => p, fun _ _ p => p⟩)
/-- a < b < c of ints -/
theorem dt_chain {a b c : Expr} {op op' : CmpOp} {g g' : Int → Int → Bool} {i j k : Int} (ho : OpR X (compareOp op) (rI0 fun i j => .bl (g i j))) (ho' : OpR X (compareOp op') (rI0 fun i j => .bl (g' i j))) (ha : dV X a δ M (wi i)) (hb : dV X b δ M (wi j)) (hc : dV X c δ M (wi k))
    (hm : lastMarks [op, op'] [b, c] = false := by with_unfolding_all rfl) : dTV X (.Compare a [op, op'] [b, c] pos) δ M (g i j && g' j k) := fun Φ Ξ p W tk G α σ H rl xc => by
  have e1 : ∀ {e : Expr} {w : DL.W}, dV X e δ M w → ∀ {G : Hp} {α : List Addr} {H : Hp}, Rel X.K G H α σ δ M → XC X.K W Ξ G α → ∀ {Q : VK}, (∀ G' α' v H', Fw G α G' α' → Rel X.K G' H' α' σ δ M → WRep X.K G' α' v w → Q v H') → wE X e σ H Q := fun {e w} h {G α H} r x {Q} k =>
    (h.ev (Φ := fun w' M' => w' = _ ∧ M' = M) (Ξ := Ξ) ⟨rfl, rfl⟩).run tk r x fun w M1 G1 α1 v H1 p1 f1 r1 q1 => by
      obtain ⟨e1, e2⟩ := p1
      subst e1 e2
      exact k G1 α1 v H1 f1 r1 q1
  refine of_pt (pt_chain ho ho' pe_w pe_w pe_w hm) (e1 ha rl xc fun G1 α1 v1 H1 f1 r1 q1 => e1 hb r1 (xc.fw f1) fun G2 α2 v2 H2 f2 r2 q2 => ?_)
  refine ⟨i, j, wint q1, wint q2, g i j, rfl, ?_⟩
  cases hg : g i j with
  | false =>
    rw [if_neg (by decide)]
    rw [hg] at p
    exact ⟨false, rfl, M, G2, α2, p, f1.trans f2, r2⟩
  | true =>
    rw [if_pos rfl]
    rw [hg] at p
    refine e1 hc r2 (xc.fw (f1.trans f2)) fun G3 α3 v3 H3 f3 r3 q3 => ⟨j, k, wint q2, wint q3, g' j k, rfl, M, G3, α3, p, (f1.trans f2).trans f3, r3⟩
/-- a statement, then the rest from Mid -/
theorem cut (Mid : SPo) {s : Stmt} {E : DE} {Ξ : XPo} {sts : List Stmt} (h1 : dS X s δ M { E with nx := Mid } Ξ) (h3 : ∀ δ' M', Mid δ' M' → dB X sts δ' M' E Ξ) : dB X (s :: sts) δ M E Ξ :=
  dB_cons (h1.imp ⟨fun _ _ p => h3 _ _ p, fun _ _ p => p, fun _ _ p => p, fun _ _ p => p⟩)
end
/-! ### comprehensions over coded lists -/
theorem range_filterMap {A B : Type} (p : A → Bool) (g : A → B) : ∀ (xs : List A), (List.range xs.length).filterMap (fun i => (xs[i]?).bind fun x => if p x then some (g x) else none) = (xs.filter p).map g
  | [] => rfl
  | x :: xs => by
    rw [List.length_cons, List.range_succ_eq_map, List.filterMap_cons]
    have ih := range_filterMap p g xs
    have e : List.filterMap (fun i => ((x :: xs)[i]?).bind fun x => if p x then some (g x) else none) (List.map Nat.succ (List.range xs.length)) = (xs.filter p).map g := by
      rw [List.filterMap_map, ← ih]
      rfl
    rw [e]
    show (match (if p x = true then some (g x) else none) with | none => _ | some b => b :: _) = _
    by_cases h : p x = true
    · rw [if_pos h, List.filter_cons, if_pos h]; rfl
    · rw [if_neg h, List.filter_cons, if_neg h]

theorem filterMap_congr' {A B : Type} {f g : A → Option B} : ∀ {l : List A}, (∀ x ∈ l, f x = g x) → l.filterMap f = l.filterMap g
  | [], _ => rfl
  | x :: l, h => by rw [List.filterMap_cons, List.filterMap_cons, h x List.mem_cons_self, filterMap_congr' fun y hy => h y (List.mem_cons_of_mem _ hy)]
abbrev srcD (ds : List D) : Src := ⟨ds.length, fun i => (ds[i]?).map W.d, fun _ => True⟩
section
variable {X : Cx} {elt tg iter c : Expr} {scope : Scope} {own : List (Str × Nat)} {δ : DSt} {M : List MO} {pos : Pos} {A : Type}
/-- [g x for x in xs if p x], the list in data -/
theorem dv_lcI {xs : List A} {enc : A → D} (p : A → Bool) (g : A → D) (hk : XOk X) (T : TgSpec X.K) (ok : BlkOk X.N X.env.scope scope own) (hg : ∀ (s : Shared) (H : Hp) (C : Addr) (cl : List (Str × Addr)) (fp : List Addr), PG (blkX X scope s H C cl fp) tg T.g) (hjs : ∀ j ∈ T.js, j ∈ own.map (·.2))
    (hi : ∀ (Ψ : Src → List MO → Prop) Ξ, Ψ (srcD (xs.map enc)) M → dI X tg iter δ M Ψ Ξ) (hn : xs.length ≤ 100000)
    (turn : ∀ x ∈ xs, ∃ δ2, T.app (.d (enc x)) (dwipe δ (own.map (·.2))) δ2 ∧ ∀ s H C cl fp M', dTV (blkX X scope s H C cl fp) c δ2 M' (p x) ∧ (p x = true → dV (blkX X scope s H C cl fp) elt δ2 M' (.d (g x))))
    (hs : ∀ x, foldedSetIterable iter X.env x = pure x := by intro _; rfl) : dV X (.ListComp elt [⟨tg, iter, [c], 0⟩] scope pos) δ M (.d (.lst ((xs.filter p).map g))) := by
  refine dv_to (dv_lc (S := srcD (xs.map enc)) hk T ok hg hjs hi (fun _ => trivial) (by show (xs.map enc).length ≤ _; rw [List.length_map]; exact Nat.le_trans hn (by decide)) (fun i => (xs[i]?).bind fun x => if p x then some (g x) else none) (fun i w hl hw => ?_) hs) (by
    show W.d (.lst ((List.range (xs.map enc).length).filterMap _)) = _
    rw [List.length_map, range_filterMap])
  have hl' : i < xs.length := by simpa using hl
  have hw' : ((xs.map enc)[i]?).map W.d = some w := hw
  rw [List.getElem?_map, List.getElem?_eq_getElem hl'] at hw'
  have e : W.d (enc xs[i]) = w := Option.some.inj hw'
  subst e
  obtain ⟨δ2, ha, ht⟩ := turn xs[i] (List.getElem_mem hl')
  refine ⟨δ2, ha, fun s H C cl fp M' => dTs_one ((ht s H C cl fp M').1.tv ⟨rfl, fun hp => ⟨g xs[i], ?_, fun s H C cl fp => (ht s H C cl fp M').2 hp⟩, fun hp => ?_⟩)⟩
  · rw [List.getElem?_eq_getElem hl']; show (if p xs[i] = true then _ else _) = _; rw [if_pos hp]
  · rw [List.getElem?_eq_getElem hl']; show (if p xs[i] = true then _ else _) = _; rw [hp]; rfl
/-- [g x for x in xs] -/
theorem dv_lcE {xs : List A} {enc : A → D} (g : A → D) (hk : XOk X) (T : TgSpec X.K) (ok : BlkOk X.N X.env.scope scope own) (hg : ∀ (s : Shared) (H : Hp) (C : Addr) (cl : List (Str × Addr)) (fp : List Addr), PG (blkX X scope s H C cl fp) tg T.g) (hjs : ∀ j ∈ T.js, j ∈ own.map (·.2))
    (hi : ∀ (Ψ : Src → List MO → Prop) Ξ, Ψ (srcD (xs.map enc)) M → dI X tg iter δ M Ψ Ξ) (hn : xs.length ≤ 100000)
    (turn : ∀ x ∈ xs, ∃ δ2, T.app (.d (enc x)) (dwipe δ (own.map (·.2))) δ2 ∧ ∀ s H C cl fp M', dV (blkX X scope s H C cl fp) elt δ2 M' (.d (g x)))
    (hs : ∀ x, foldedSetIterable iter X.env x = pure x := by intro _; rfl) : dV X (.ListComp elt [⟨tg, iter, [], 0⟩] scope pos) δ M (.d (.lst (xs.map g))) := by
  refine dv_to (dv_lc0 (S := srcD (xs.map enc)) hk T ok hg hjs hi (fun _ => trivial) (by show (xs.map enc).length ≤ _; rw [List.length_map]; exact Nat.le_trans hn (by decide)) (fun i => ((xs[i]?).map g).getD .non) (fun i w hl hw => ?_) hs) ?_
  · have hl' : i < xs.length := by simpa using hl
    have hw' : ((xs.map enc)[i]?).map W.d = some w := hw
    rw [List.getElem?_map, List.getElem?_eq_getElem hl'] at hw'
    have e : W.d (enc xs[i]) = w := Option.some.inj hw'
    subst e
    obtain ⟨δ2, ha, ht⟩ := turn xs[i] (List.getElem_mem hl')
    refine ⟨δ2, ha, fun s H C cl fp M' => ?_⟩
    show dV _ _ _ _ (.d (((xs[i]?).map g).getD .non))
    rw [List.getElem?_eq_getElem hl']
    exact ht s H C cl fp M'
  · show W.d (.lst ((List.range (xs.map enc).length).map _)) = _
    rw [List.length_map]
    have e := range_filterMap (fun _ => true) g xs
    have f : xs.filter (fun _ => true) = xs := List.filter_eq_self.mpr fun _ _ => rfl
    rw [f] at e
    rw [← e, ← List.filterMap_eq_map]
    congr 2
    refine filterMap_congr' fun i hi => ?_
    rw [List.mem_range] at hi
    show some (((xs[i]?).map g).getD .non) = _
    rw [List.getElem?_eq_getElem hi]
    rfl
end
/-! ### bounds -/
def Bg : Nat := 2 ^ 4000
theorem Bg_ge : 10 ^ 600 ≤ Bg := by decide +kernel
theorem cmB {i j : Int} (hi : i.natAbs < Bg) (hj : j.natAbs < Bg) : CMulW i j := wide_mul (a := 4000) (b := 4000) hi hj (by decide) (by decide) (by decide)
theorem cdB {i j : Int} (h : 0 < j) (hj : j.natAbs < Bg) : CDivW i j := wide_div (b := 4000) h hj (by decide) (by decide)
theorem cdL {i j : Int} (h : 0 < j := by decide) (hj : j < 2 ^ 600 := by decide) : CDivW i j := wide_div (b := 601) h (by
  have : j.natAbs < 2 ^ 600 := by omega
  exact Nat.lt_of_lt_of_le this (Nat.pow_le_pow_right (by decide) (by decide))) (by decide) (by decide)
/-! ### a def of the text as the top has left it -/
def DefAt (K : Frag) (mg : Str → Option Value) (x : Str) (st : Stmt) (ps : List Str) : Prop := ∃ f fd, Fun K x x st f fd ∧ mg x = some (.ref f) ∧ Binds K fd ps []
theorem defAt_mk {K : Frag} {h : Heap} {mg : Str → Option Value} {x : Str} {st : Stmt} {ps : List Str} (X : K.In h) (G : h.Ns mainGlobals mg) {f : Addr} {od an : Option Addr} {sl : Array (Option Value)} {oc kV dc pm cd ct : Value}
    (a : PySem.W.nsIn K mainGlobals x = some (some (.ref f))) (l : K.lookup f = some ⟨oc, od, .func (PySem.W.fnOf x x (defArgs st) (defBody st) (defScope st) .none kV dc pm an cd ct), sl⟩) (c : PySem.W.codeIn K cd x = true) (k : PySem.W.keepIn K (.ref f) = true)
    (hb : ∀ (kV doc pm : Value) (an : Option Addr) (cdv ct : Value) (us : List Value), us.length = ps.length → bindArgs (PySem.W.fnOf x x (defArgs st) (defBody st) (defScope st) .none kV doc pm an cdv ct) ⟨us, []⟩ = pure (ps.zip us)) : DefAt K mg x st ps :=
  let F := fun_mk (st := st) l c k
  ⟨f, _, F, PySem.W.mg_of X G a, F.binds hb⟩
theorem callee {P : Program} {w : World} {K : Frag} {mg : Str → Option Value} {base : Heap} {x : Str} {st : Stmt} {N ps : List Str} {k : Nat} {sp : FSpec} (D : DefAt K mg x st ps) (S : FnScope N ps (defScope st))
    (hlen : ∀ ws M Φ Ξ, sp ws M Φ Ξ → ws.length = ps.length)
    (hbody : ∀ (f : Addr) (cdv : Value) (A : Around) (outer : List Env) (s : Shared) (H : Hp) (E : XK), Room k (A.deeper (envOfC x (defScope st) s.heap.objs.size f cdv)) → XOk (bodyX P w K mg base N x st f cdv A outer s H E) → ∀ ws M Φ Ξ, Clo M → sp ws M Φ Ξ →
      dB (bodyX P w K mg base N x st f cdv A outer s H E) (defBody st) (ws.map some ++ List.replicate (N.length - ws.length) none) M { nx := fun _ M' => Ret Φ M.length (.d .non) M', rt := Ret Φ M.length } (fun y _ M' => RetX Ξ M.length y M')) : Callee P w K mg base (k + 1) x ps sp :=
  let ⟨f, _, F, g, b⟩ := D
  callee_of F g b S hlen (hbody f)
end DL

set_option maxRecDepth 100000
set_option maxHeartbeats 1000000
/-! # DL8: == of data of any depth -/
namespace DL
open PySem PySem.Spec PyProof.Rows L2
open PySem.W (Frag)
mutual
def D.py : D → PyData
  | .bl b => .bool b | .int i => .int i | .str s => .str s | .tup ds => .tuple (D.pyL ds) | .lst ds => .list (D.pyL ds) | .scr ns => .list (ns.map PyData.int) | .non => .none | .dic _ _ => .none | .raw _ => .none | .exn _ _ _ => .none
def D.pyL : List D → List PyData
  | [] => [] | d :: ds => D.py d :: D.pyL ds
end
mutual
def D.pl : D → Bool
  | .non => true | .bl _ => true | .int _ => true | .str _ => true | .tup ds => D.plL ds | .lst ds => D.plL ds | .scr _ => true | .dic _ _ => false | .raw _ => false | .exn _ _ _ => false
def D.plL : List D → Bool
  | [] => true | d :: ds => D.pl d && D.plL ds
end
section
variable {K : Frag} {H : Hp}
theorem dp_ints : ∀ ns : List Int, DpAll K H (ns.map V.int) (ns.map PyData.int)
  | [] => .nil
  | n :: ns => .cons (.int n) (dp_ints ns)
mutual
theorem Rep.dp : ∀ (d : D) (v : V), d.pl = true → Rep K H v d → Dp K H v d.py
  | .non, _, _, h => by cases h; exact .non
  | .bl b, _, _, h => by cases h; exact .bl b
  | .int i, _, _, h => by cases h; exact .int i
  | .str s, _, _, h => by cases h; exact .str s
  | .tup ds, _, p, h => by cases h with | tup q r => exact .tup q (RepL.dp ds _ p r)
  | .lst ds, _, p, h => by cases h with | lst q r => exact .lst (.inl (.inl q)) (RepL.dp ds _ p r)
  | .scr ns, _, _, h => by cases h with | scr q => exact .lst q (dp_ints ns)
  | .dic ks ds, _, p, _ => by cases p
  | .raw x, _, p, _ => by cases p
  | .exn a dd fs, _, p, _ => by cases p
theorem RepL.dp : ∀ (ds : List D) (vs : List V), D.plL ds = true → RepL K H vs ds → DpAll K H vs (D.pyL ds)
  | [], _, _, h => by cases h; exact .nil
  | d :: ds, _, p, h => by
    have p' : (D.pl d && D.plL ds) = true := p
    rw [Bool.and_eq_true] at p'
    cases h with | cons q r => exact .cons (Rep.dp d _ p'.1 q) (RepL.dp ds _ p'.2 r)
end
end
section
variable {X : Cx} {a b : Expr} {δ : DSt} {M : List MO} {pos : Pos} {x y : D}
theorem dt_eqD {k : Bool} (hu : X.A.units + 64 < cLine) (ha : dV X a δ M (.d x)) (hb : dV X b δ M (.d y)) (he : PyData.eqv x.py y.py = k) (hx : x.pl = true := by rfl) (hy : y.pl = true := by rfl) (sx : PySem.SeqAt.shaped x.py = true := by decide) (sy : PySem.SeqAt.shaped y.py = true := by decide) : dTV X (.Compare a [.Eq] [b] pos) δ M k :=
  dt_cmp (op_eqD hu) (nomark _) ha hb fun Φ p G α σ δ' H vx vy Q r h1 h2 k => ⟨_, _, Rep.dp x _ hx (Rep.mono r.m.gh x _ h1), Rep.dp y _ hy (Rep.mono r.m.gh y _ h2), sx, sy, k _ _ ⟨_, M, G, α, p, Fw.refl _ _, r, by rw [he]; exact .bl _⟩⟩
theorem dt_neD {k : Bool} (hu : X.A.units + 64 < cLine) (ha : dV X a δ M (.d x)) (hb : dV X b δ M (.d y)) (he : (!PyData.eqv x.py y.py) = k) (hx : x.pl = true := by rfl) (hy : y.pl = true := by rfl) (sx : PySem.SeqAt.shaped x.py = true := by decide) (sy : PySem.SeqAt.shaped y.py = true := by decide) : dTV X (.Compare a [.NotEq] [b] pos) δ M k :=
  dt_cmp (op_neD hu) (nomark _) ha hb fun Φ p G α σ δ' H vx vy Q r h1 h2 k => ⟨_, _, Rep.dp x _ hx (Rep.mono r.m.gh x _ h1), Rep.dp y _ hy (Rep.mono r.m.gh y _ h2), sx, sy, k _ _ ⟨_, M, G, α, p, Fw.refl _ _, r, by rw [he]; exact .bl _⟩⟩
theorem dv_eqD {k : Bool} (hu : X.A.units + 64 < cLine) (ha : dV X a δ M (.d x)) (hb : dV X b δ M (.d y)) (he : PyData.eqv x.py y.py = k) (hx : x.pl = true := by rfl) (hy : y.pl = true := by rfl) (sx : PySem.SeqAt.shaped x.py = true := by decide) (sy : PySem.SeqAt.shaped y.py = true := by decide) : dV X (.Compare a [.Eq] [b] pos) δ M (.d (.bl k)) :=
  dv_cmp (op_eqD hu) (nomark _) ha hb fun Φ p G α σ δ' H vx vy Q r h1 h2 k => ⟨_, _, Rep.dp x _ hx (Rep.mono r.m.gh x _ h1), Rep.dp y _ hy (Rep.mono r.m.gh y _ h2), sx, sy, k _ _ ⟨_, M, G, α, p, Fw.refl _ _, r, by rw [he]; exact .bl _⟩⟩
end
section
variable {X : Cx} {δ : DSt} {M : List MO} {pos : Pos}
/-- x = e in a suite, then the rest -/
theorem stS (i : Nat) {x : Str} {pos' : Pos} {e : Expr} {E : DE} {Ξ : XPo} {sts : List Stmt} (nd : X.N.Nodup) (h : dE X e δ M (fun w M1 => dB X sts (δ.set i (some w)) M1 E Ξ) Ξ) (hi : X.N[i]? = some x := by rfl) (hx : Loc X.env.scope x := by first | exact Or.inl rfl | exact Or.inr rfl)
    (hs : swapsWith e (some (.Name x pos')) pos.line X.env = pure false := by rfl) (hf : X.fn x = true ∨ X.env.scope.names.lookup x = some .local := by first | exact .inl rfl | exact .inr rfl) : dB X (.Assign [.Name x pos'] e pos :: sts) δ M E Ξ := dB_cons (dS_set h nd hi hx hs hf)
/-- a class of the text, read by its name -/
theorem dv_cls {x : Str} {c : Addr} (hm : X.mg x = some (.ref c)) (hg : Gl X x := by rfl) (hd : (x == ("__debug__" : Str)) = false := by decide) : dV X (.Name x pos) δ M (.d (.raw (.ref c))) := dv_glob hm rfl hg hd
theorem rel_cls {c : Addr} : ∀ u, RelV (.ref c) u → u = .ref c := fun _ h => h
theorem rel_ty {T : String} : ∀ u, RelV (.ty T) u → u = .type T := fun _ h => h
end
end DL

set_option maxRecDepth 100000
namespace RP
open PySem PySem.Spec PyProof.Rows L2 DL
def topS (i : Nat) : Stmt := PySem.Challenge.pw_rootprime_k20_prime_papers_told.main.body.getD i (.Pass ⟨0, 0, 0, 0⟩)
abbrev s_look_at : Stmt := topS 11
abbrev n_look_at : List Str := ["n", "least"]
theorem sc_look_at : FnScope n_look_at ["n", "least"] (defScope s_look_at) := ⟨rfl, rfl, rfl, by decide +kernel, rfl, by decide +kernel, by decide +kernel⟩
abbrev s_divisor_from : Stmt := topS 12
abbrev n_divisor_from : List Str := ["n", "d"]
theorem sc_divisor_from : FnScope n_divisor_from ["n", "d"] (defScope s_divisor_from) := ⟨rfl, rfl, rfl, by decide +kernel, rfl, by decide +kernel, by decide +kernel⟩
abbrev s_least_divisor : Stmt := topS 13
abbrev n_least_divisor : List Str := ["n"]
theorem sc_least_divisor : FnScope n_least_divisor ["n"] (defScope s_least_divisor) := ⟨rfl, rfl, rfl, by decide +kernel, rfl, by decide +kernel, by decide +kernel⟩
abbrev s_parted : Stmt := topS 14
abbrev n_parted : List Str := ["n", "found", "d", "many"]
theorem sc_parted : FnScope n_parted ["n"] (defScope s_parted) := ⟨rfl, rfl, rfl, by decide +kernel, rfl, by decide +kernel, by decide +kernel⟩
abbrev s_divisor : Stmt := topS 16
abbrev n_divisor : List Str := ["a", "b", "g", "u", "v", "rest", "x", "y", "times"]
theorem sc_divisor : FnScope n_divisor ["a", "b"] (defScope s_divisor) := ⟨rfl, rfl, rfl, by decide +kernel, rfl, by decide +kernel, by decide +kernel⟩
abbrev s_inverse : Stmt := topS 17
abbrev n_inverse : List Str := ["n", "a", "g", "u", "v"]
theorem sc_inverse : FnScope n_inverse ["n", "a"] (defScope s_inverse) := ⟨rfl, rfl, rfl, by decide +kernel, rfl, by decide +kernel, by decide +kernel⟩
abbrev s_power : Stmt := topS 19
abbrev n_power : List Str := ["n", "a", "e", "found", "base"]
theorem sc_power : FnScope n_power ["n", "a", "e"] (defScope s_power) := ⟨rfl, rfl, rfl, by decide +kernel, rfl, by decide +kernel, by decide +kernel⟩
abbrev s_has_full_order : Stmt := topS 21
abbrev n_has_full_order : List Str := ["p", "a", "parting", "q", "many"]
theorem sc_has_full_order : FnScope n_has_full_order ["p", "a", "parting"] (defScope s_has_full_order) := ⟨rfl, rfl, rfl, by decide +kernel, rfl, by decide +kernel, by decide +kernel⟩
abbrev s_least_full : Stmt := topS 22
abbrev n_least_full : List Str := ["p", "parting", "a"]
theorem sc_least_full : FnScope n_least_full ["p", "parting"] (defScope s_least_full) := ⟨rfl, rfl, rfl, by decide +kernel, rfl, by decide +kernel, by decide +kernel⟩
abbrev s_paper_of : Stmt := topS 23
abbrev n_paper_of : List Str := ["p", "parting"]
theorem sc_paper_of : FnScope n_paper_of ["p"] (defScope s_paper_of) := ⟨rfl, rfl, rfl, by decide +kernel, rfl, by decide +kernel, by decide +kernel⟩
abbrev s_papers_by : Stmt := topS 24
abbrev n_papers_by : List Str := ["parting", "q", "many"]
theorem sc_papers_by : FnScope n_papers_by ["parting"] (defScope s_papers_by) := ⟨rfl, rfl, rfl, by decide +kernel, rfl, by decide +kernel, by decide +kernel⟩
abbrev s_prime_paper : Stmt := topS 25
abbrev n_prime_paper : List Str := ["n", "d"]
theorem sc_prime_paper : FnScope n_prime_paper ["n"] (defScope s_prime_paper) := ⟨rfl, rfl, rfl, by decide +kernel, rfl, by decide +kernel, by decide +kernel⟩
abbrev s__law_whole : Stmt := topS 27
abbrev n__law_whole : List Str := ["_law_found"]
theorem sc__law_whole : FnScope n__law_whole ["_law_found"] (defScope s__law_whole) := ⟨rfl, rfl, rfl, by decide +kernel, rfl, by decide +kernel, by decide +kernel⟩
abbrev s__law_draws : Stmt := topS 28
abbrev n__law_draws : List Str := ["_law_cell", "_law_many", "_law_found", "_law_k", "_law_number"]
theorem sc__law_draws : FnScope n__law_draws ["_law_cell", "_law_many"] (defScope s__law_draws) := ⟨rfl, rfl, rfl, by decide +kernel, rfl, by decide +kernel, by decide +kernel⟩
abbrev s__law_least : Stmt := topS 29
abbrev n__law_least : List Str := ["_law_n", "_law_d"]
theorem sc__law_least : FnScope n__law_least ["_law_n"] (defScope s__law_least) := ⟨rfl, rfl, rfl, by decide +kernel, rfl, by decide +kernel, by decide +kernel⟩
abbrev s__law_power : Stmt := topS 30
abbrev n__law_power : List Str := ["_law_n", "_law_a", "_law_e", "_law_found"]
theorem sc__law_power : FnScope n__law_power ["_law_n", "_law_a", "_law_e"] (defScope s__law_power) := ⟨rfl, rfl, rfl, by decide +kernel, rfl, by decide +kernel, by decide +kernel⟩
abbrev s__law_is_full : Stmt := topS 31
abbrev n__law_is_full : List Str := ["_law_p", "_law_a", "_law_parts", "_law_part_here"]
theorem sc__law_is_full : FnScope n__law_is_full ["_law_p", "_law_a", "_law_parts"] (defScope s__law_is_full) := ⟨rfl, rfl, rfl, by decide +kernel, rfl, by decide +kernel, by decide +kernel⟩
abbrev s__law_is_paper : Stmt := topS 32
abbrev n__law_is_paper : List Str := ["_law_p", "_law_thing", "_law_last", "_law_whole_here", "_law_part_here", "_law_turn", "_law_a"]
theorem sc__law_is_paper : FnScope n__law_is_paper ["_law_p", "_law_thing"] (defScope s__law_is_paper) := ⟨rfl, rfl, rfl, by decide +kernel, rfl, by decide +kernel, by decide +kernel⟩
abbrev s__law_refused : Stmt := topS 33
abbrev n__law_refused : List Str := ["_law_n", "_law_told", "_law_e", "_law_others"]
theorem sc__law_refused : FnScope n__law_refused ["_law_n"] (defScope s__law_refused) := ⟨rfl, rfl, rfl, by decide +kernel, rfl, by decide +kernel, by decide +kernel⟩
abbrev s__law_divisor : Stmt := topS 34
abbrev n__law_divisor : List Str := ["_law_n", "_law_told", "_law_e"]
theorem sc__law_divisor : FnScope n__law_divisor ["_law_n"] (defScope s__law_divisor) := ⟨rfl, rfl, rfl, by decide +kernel, rfl, by decide +kernel, by decide +kernel⟩
abbrev s__law_part : Stmt := topS 35
abbrev n__law_part : List Str := ["_law_n", "_law_told", "_law_e"]
theorem sc__law_part : FnScope n__law_part ["_law_n"] (defScope s__law_part) := ⟨rfl, rfl, rfl, by decide +kernel, rfl, by decide +kernel, by decide +kernel⟩
abbrev s__law_right : Stmt := topS 36
abbrev n__law_right : List Str := ["_law_n", "_law_least_here", "_law_told"]
theorem sc__law_right : FnScope n__law_right ["_law_n"] (defScope s__law_right) := ⟨rfl, rfl, rfl, by decide +kernel, rfl, by decide +kernel, by decide +kernel⟩
abbrev s_law : Stmt := topS 37
abbrev n_law : List Str := ["_law_script", "_law_cell", "_law_row", "_law_n", "_law_below", "_law_above"]
theorem sc_law : FnScope n_law ["_law_script"] (defScope s_law) := ⟨rfl, rfl, rfl, by decide +kernel, rfl, by decide +kernel, by decide +kernel⟩
abbrev c_PrimeError : Stmt := topS 1
abbrev c_NoNumber : Stmt := topS 2
abbrev c_TooFar : Stmt := topS 3
abbrev m_TooFar___init__ : Stmt := inClass c_TooFar 0
theorem sc_TooFar___init__ : FnScope ["self", "part"] ["self", "part"] (defScope m_TooFar___init__) := ⟨rfl, rfl, rfl, by decide +kernel, rfl, by decide +kernel, by decide +kernel⟩
abbrev c_NoPrime : Stmt := topS 4
abbrev m_NoPrime___init__ : Stmt := inClass c_NoPrime 0
theorem sc_NoPrime___init__ : FnScope ["self", "divisor"] ["self", "divisor"] (defScope m_NoPrime___init__) := ⟨rfl, rfl, rfl, by decide +kernel, rfl, by decide +kernel, by decide +kernel⟩
abbrev c_NoInverse : Stmt := topS 5
abbrev m_NoInverse___init__ : Stmt := inClass c_NoInverse 0
theorem sc_NoInverse___init__ : FnScope ["self", "divisor"] ["self", "divisor"] (defScope m_NoInverse___init__) := ⟨rfl, rfl, rfl, by decide +kernel, rfl, by decide +kernel, by decide +kernel⟩
abbrev c_Nought : Stmt := topS 6
abbrev c_NoOrder : Stmt := topS 7
abbrev c_NoRoot : Stmt := topS 8
abbrev m_NoRoot___init__ : Stmt := inClass c_NoRoot 0
theorem sc_NoRoot___init__ : FnScope ["self", "rest"] ["self", "rest"] (defScope m_NoRoot___init__) := ⟨rfl, rfl, rfl, by decide +kernel, rfl, by decide +kernel, by decide +kernel⟩
/- slots:
   look_at 0:n 1:least
   divisor_from 0:n 1:d
   least_divisor 0:n
   parted 0:n 1:found 2:d 3:many
   divisor 0:a 1:b 2:g 3:u 4:v 5:rest 6:x 7:y 8:times
   inverse 0:n 1:a 2:g 3:u 4:v
   power 0:n 1:a 2:e 3:found 4:base
   has_full_order 0:p 1:a 2:parting 3:q 4:many
   least_full 0:p 1:parting 2:a
   paper_of 0:p 1:parting
   papers_by 0:parting 1:q 2:many
   prime_paper 0:n 1:d
   _law_whole 0:_law_found
   _law_draws 0:_law_cell 1:_law_many 2:_law_found 3:_law_k 4:_law_number
   _law_least 0:_law_n 1:_law_d
   _law_power 0:_law_n 1:_law_a 2:_law_e 3:_law_found
   _law_is_full 0:_law_p 1:_law_a 2:_law_parts 3:_law_part_here
   _law_is_paper 0:_law_p 1:_law_thing 2:_law_last 3:_law_whole_here 4:_law_part_here 5:_law_turn 6:_law_a
   _law_refused 0:_law_n 1:_law_told 2:_law_e 3:_law_others
   _law_divisor 0:_law_n 1:_law_told 2:_law_e
   _law_part 0:_law_n 1:_law_told 2:_law_e
   _law_right 0:_law_n 1:_law_least_here 2:_law_told
   law 0:_law_script 1:_law_cell 2:_law_row 3:_law_n 4:_law_below 5:_law_above
-/
-- builtins: ['ValueError', 'abs', 'all', 'any', 'bool', 'int', 'isinstance', 'len', 'range', 'tuple']
end RP

set_option maxRecDepth 100000
set_option maxHeartbeats 4000000
namespace RP
open PySem L2 DL NT
open PySem.W (Frag)
/-! ### data of numbers -/
theorem cmN {a b : Nat} (ha : a < Bg) (hb : b < Bg) : CMulW (a : Int) (b : Int) := cmB (by simpa using ha) (by simpa using hb)
theorem cdN {i : Int} {b : Nat} (h : 0 < b) (hb : b < Bg) : CDivW i (b : Int) := cdB (by omega) (by simpa using hb)
theorem Bg9 : 10 ^ 600 ≤ Bg := Bg_ge
abbrev dq (q m : Nat) : D := .tup [.int q, .int m]
def partD (l : List (Nat × Nat)) : List D := l.map fun x => dq x.1 x.2
mutual
def paperD : Paper → D | .mk p f l => .tup [.int p, .int f, .tup (partsD l)]
def partsD : List (Paper × Nat) → List D | [] => [] | x :: l => pairD x :: partsD l
def pairD : Paper × Nat → D | (P, m) => .tup [paperD P, .int m]
end
theorem partsD_map : ∀ l, partsD l = l.map pairD
  | [] => rfl
  | x :: l => by unfold partsD; rw [partsD_map l]; rfl
/-! ### promises -/
section
variable {P : Program} {w : World} {K : Frag} {mg : Str → Option Value} {base : Heap}
theorem at_end {M : List MO} {o : MO} : (M ++ [o])[M.length]? = some o := by rw [List.getElem?_append_right (Nat.le_refl _), Nat.sub_self]; rfl
theorem set_end {M : List MO} {o o' : MO} : (M ++ [o]).set M.length o' = M ++ [o'] := by rw [List.set_append_right _ _ (Nat.le_refl _), Nat.sub_self]; rfl
theorem partD_len (l : List (Nat × Nat)) : ((partD l).map W.d).length = l.length := by rw [List.length_map]; unfold partD; rw [List.length_map]
def sp_divisor_from : FSpec := fun ws M Φ _ => ∃ n d : Nat, ws = [wi n, wi d] ∧ 2 ≤ n ∧ n < Bg ∧ d < Bg ∧ (d = 2 ∨ 3 ≤ d ∧ d % 2 = 1) ∧ (∀ k, 2 ≤ k → k < d → ¬ k ∣ n) ∧ Φ (wi (lpf n)) M
theorem ok_divisor_from (D : DefAt K mg "divisor_from" s_divisor_from ["n", "d"]) (bi : mg "int" = none) : Callee P w K mg base 1 "divisor_from" ["n", "d"] sp_divisor_from := by
  refine callee D sc_divisor_from (fun ws M Φ Ξ h => ?_) fun f cdv A outer s H E hr hk ws M Φ Ξ hM h => ?_
  · obtain ⟨n, d, rfl, _⟩ := h; rfl
  · obtain ⟨n, d, rfl, hn, hnB, hdB, hd, hno, hΦ⟩ := h
    refine dB_cons (dS_while hk (fun m δ M' => ∃ d : Nat, M' = M ∧ δ = [sI n, sI d] ∧ m = n + 2 - d ∧ d < Bg ∧ (d = 2 ∨ 3 ≤ d ∧ d % 2 = 1) ∧ ∀ k, 2 ≤ k → k < d → ¬ k ∣ n) _ ⟨d, rfl, rfl, rfl, hdB, hd, hno⟩ ?_)
    rintro m δ M' ⟨d, rfl, rfl, rfl, hdB, hd, hno⟩
    refine (dt_le (dv_mul (cmN hdB hdB) (nm 1 rfl) (nm 1 rfl)) (nm 0 rfl)).tv ⟨fun h => ?_, fun h => ?_⟩
    · have hle : d * d ≤ n := by exact_mod_cast of_decide_eq_true h
      have hd2 : 2 ≤ d := by omega
      have hdn : d ≤ n := Nat.le_trans (Nat.le_mul_of_pos_left d (by omega)) hle
      refine ifn (dt_eqI (dv_mod (by omega) (nm 0 rfl) (nm 1 rfl)) dv_int) (fun h => ?_) (fun h => ?_)
      · have hm : n % d = 0 := by exact_mod_cast of_decide_eq_true h
        refine rt ((nm 1 rfl).ev (Ret.of0 hM ?_))
        rw [← lpf_eq (n := n) (r := d) ⟨hd2, Nat.dvd_of_mod_eq_zero hm, hno⟩]
        exact hΦ
      · have hm : n % d ≠ 0 := fun z => of_decide_eq_false h (by exact_mod_cast z)
        refine st 1 hk ((dv_add (dv_add (nm 1 rfl) dv_int) (dv_intb bi (dv_gt (nm 1 rfl) dv_int))).ev (dB_nil ?_))
        have e : (d : Int) + 1 + (if decide ((2 : Int) < d) = true then 1 else 0) = ((d + 1 + (if 2 < d then 1 else 0) : Nat) : Int) := by
          by_cases h3 : 2 < d
          · have : (2 : Int) < d := by omega
            rw [if_pos h3, if_pos (decide_eq_true this)]; omega
          · have : ¬ (2 : Int) < d := by omega
            rw [if_neg h3, decide_eq_false this, if_neg (by decide)]; omega
        have hs := step_odd hd
        have hlt : n + 2 - (d + 1 + (if 2 < d then 1 else 0)) < n + 2 - d := by split <;> omega
        have := Bg9
        refine ⟨_, hlt, d + 1 + (if 2 < d then 1 else 0), rfl, by rw [← e]; rfl, rfl, ?_, hs, step_no hd hno fun z => hm (Nat.mod_eq_zero_of_dvd z)⟩
        have h22 : 2 * d ≤ d * d := Nat.mul_le_mul_right d hd2
        split <;> omega
    · have hlt : n < d * d := by
        have z := of_decide_eq_false h
        have z2 : ¬ (d * d ≤ n) := fun y => z (by exact_mod_cast y)
        omega
      refine rt ((nm 0 rfl).ev (Ret.of0 hM ?_))
      rw [lpf_eq (Lpf.self (lpf_root hn hlt hno))] at hΦ
      exact hΦ

/-! look_at: refuses -/
def sp_look_at (cNN cTF : Addr) : FSpec := fun ws M Φ Ξ => ∃ n l : Int, ws = [wi n, wi l] ∧ (n < l → Ξ ⟨.ref cNN, none⟩ M) ∧ (l ≤ n → 1000000000 < n → Ξ ⟨.ref cTF, some [("part", .int n)]⟩ M) ∧ (l ≤ n → n ≤ 1000000000 → Φ (.d .non) M)
theorem ok_look_at {cNN cTF : Addr} {t : Tok} {k : Nat} (D : DefAt K mg "look_at" s_look_at ["n", "least"]) (e1 : ExcO K mg "NoNumber" cNN) (e2 : ExcI P w K mg base k "TooFar" cTF 1 (fun xs => match xs with | [x] => [("part", x)] | _ => [])) (g : mg "MOST_PARTED" = some (.int 1000000000 t)) : Callee P w K mg base (k + 2) "look_at" ["n", "least"] (sp_look_at cNN cTF) := by
  refine callee D sc_look_at (fun ws M Φ Ξ h => ?_) fun f cdv A outer s H E hr hk ws M Φ Ξ hM h => ?_
  · obtain ⟨n, d, rfl, _⟩ := h; rfl
  · obtain ⟨n, l, rfl, h1, h2, h3⟩ := h
    refine ifn (dt_lt (nm 0 rfl) (nm 1 rfl)) (fun h => ?_) (fun h => ?_)
    · exact dB_one (dS_raise hk.calm (dM_own e1 (RetX.of0 hM (h1 (of_decide_eq_true h)))))
    · have hl : l ≤ n := Int.not_lt.mp (of_decide_eq_false h)
      refine ifn (dt_gt (nm 0 rfl) (dv_globI g)) (fun h => ?_) (fun h => ?_)
      · exact dB_one (dS_raise hk.calm (dM_init e2 hr (by decide) ((da_cons (nm 0 rfl) da_nil).av ⟨[n], rfl, rfl, RetX.of0 hM (h2 hl (of_decide_eq_true h))⟩)))
      · exact dB_nil (Ret.of0 hM (h3 hl (Int.not_lt.mp (of_decide_eq_false h))))

def sp_least_divisor (cNN cTF : Addr) : FSpec := fun ws M Φ Ξ => ∃ n : Int, ws = [wi n] ∧ (n < 2 → Ξ ⟨.ref cNN, none⟩ M) ∧ (1000000000 < n → Ξ ⟨.ref cTF, some [("part", .int n)]⟩ M) ∧ (2 ≤ n → n ≤ 1000000000 → Φ (wi (lpf n.toNat)) M)
theorem ok_least_divisor {cNN cTF : Addr} {k : Nat} (D : DefAt K mg "least_divisor" s_least_divisor ["n"]) (c1 : Callee P w K mg base k "look_at" ["n", "least"] (sp_look_at cNN cTF)) (c2 : Callee P w K mg base k "divisor_from" ["n", "d"] sp_divisor_from) : Callee P w K mg base (k + 1) "least_divisor" ["n"] (sp_least_divisor cNN cTF) := by
  refine callee D sc_least_divisor (fun ws M Φ Ξ h => ?_) fun f cdv A outer s H E hr hk ws M Φ Ξ hM h => ?_
  · obtain ⟨n, rfl, _⟩ := h; rfl
  · obtain ⟨n, rfl, h1, h2, h3⟩ := h
    refine dB_cons (dS_expr (dE_call c1 hr ((da_cons (nm 0 rfl) (da_cons dv_int da_nil)).av ⟨n, 2, rfl, fun z => RetX.of0 hM (h1 z), fun _ z => RetX.of0 hM (h2 z), fun z1 z2 => ?_⟩)))
    obtain ⟨m, rfl⟩ : ∃ m : Nat, n = m := ⟨n.toNat, by omega⟩
    have := Bg9
    exact rt ((dv_call c2 hr (da_cons (nm 0 rfl) (da_cons dv_int da_nil)) (fun Φ Ξ h => ⟨m, 2, rfl, by omega, by omega, by omega, .inl rfl, fun k a b => by omega, h⟩)).ev (Ret.of0 hM (h3 z1 z2)))

/-! parted -/
def sp_parted (cNN cTF : Addr) : FSpec := fun ws M Φ Ξ => ∃ n : Int, ws = [wi n] ∧ (n < 1 → Ξ ⟨.ref cNN, none⟩ M) ∧ (1000000000 < n → Ξ ⟨.ref cTF, some [("part", .int n)]⟩ M) ∧ (1 ≤ n → n ≤ 1000000000 → Φ (.d (.lst (partD (part n.toNat)))) M)
theorem ok_parted {cNN cTF : Addr} {k : Nat} (D : DefAt K mg "parted" s_parted ["n"]) (c1 : Callee P w K mg base k "look_at" ["n", "least"] (sp_look_at cNN cTF)) (c2 : Callee P w K mg base k "divisor_from" ["n", "d"] sp_divisor_from) : Callee P w K mg base (k + 1) "parted" ["n"] (sp_parted cNN cTF) := by
  refine callee D sc_parted (fun ws M Φ Ξ h => ?_) fun f cdv A outer s H E hr hk ws M Φ Ξ hM h => ?_
  · obtain ⟨n, rfl, _⟩ := h; rfl
  · obtain ⟨n, rfl, h1, h2, h3⟩ := h
    refine dB_cons (dS_expr (dE_call c1 hr ((da_cons (nm 0 rfl) (da_cons dv_int da_nil)).av ⟨n, 1, rfl, fun z => RetX.of0 hM (h1 z), fun _ z => RetX.of0 hM (h2 z), fun z1 z2 => ?_⟩)))
    obtain ⟨n, rfl⟩ : ∃ m : Nat, n = m := ⟨n.toNat, by omega⟩
    have hBg := Bg9
    refine st 1 hk (dE_lstO (dA_nil ⟨Nat.zero_le _, ?_⟩))
    refine st 2 hk (dv_int.ev ?_)
    refine dB_cons (dS_while hk (fun m δ M' => ∃ (n' d : Nat) (l : List (Nat × Nat)) (mo : Option W), δ = [sI n', some (.p M.length), sI d, mo] ∧ M' = M ++ [.lst ((partD l).map W.d)] ∧ m = n' ∧ 1 ≤ n' ∧ n' ≤ n ∧ IsPart (whole l) l ∧ whole l * n' = n ∧ d < Bg ∧ (d = 2 ∨ 3 ≤ d ∧ d % 2 = 1) ∧ (∀ k, 2 ≤ k → k < d → ¬ k ∣ n') ∧ ∀ x ∈ l, x.1 ≤ d ∧ ¬ x.1 ∣ n') n
      ⟨n, 2, [], none, rfl, rfl, rfl, by omega, Nat.le_refl _, ⟨(fun _ h => nomatch h), List.Pairwise.nil, rfl⟩, Nat.one_mul _, by omega, .inl rfl, fun k a b => by omega, (fun _ h => nomatch h)⟩ ?_)
    rintro n' δ M' ⟨_, d, l, mo, rfl, rfl, rfl, hn1, hnn, hl, hw, hdB, hd, hno, hx⟩
    refine (dt_gt (nm 0 rfl) dv_int).tv ⟨fun h => ?_, fun h => ?_⟩
    · have hn2 : 2 ≤ n' := by have := of_decide_eq_true h; omega
      have hq := lpf_is hn2
      have hqn := hq.le (by omega)
      refine st 2 hk ((dv_call c2 hr (da_cons (nm 0 rfl) (da_cons (nm 2 rfl) da_nil)) (fun Φ Ξ h => ⟨n', d, rfl, hn2, by omega, hdB, hd, hno, h⟩)).ev ?_)
      refine st 3 hk (dv_int.ev ?_)
      -- the inner loop
      refine dB_cons (dS_while hk (fun m δ M' => ∃ (n2 j : Nat), δ = [sI n2, some (.p M.length), sI (lpf n'), sI j] ∧ M' = M ++ [.lst ((partD l).map W.d)] ∧ m = n2 ∧ 1 ≤ n2 ∧ n2 ≤ n' ∧ lpf n' ^ j * n2 = n') n'
        ⟨n', 0, rfl, rfl, rfl, by omega, Nat.le_refl _, by rw [Nat.pow_zero, Nat.one_mul]⟩ ?_)
      rintro n2 δ M' ⟨_, j, rfl, rfl, rfl, h21, h2n, hj⟩
      refine (dt_eqI (dv_mod (by have := hq.1; omega) (nm 0 rfl) (nm 2 rfl)) dv_int).tv ⟨fun h => ?_, fun h => ?_⟩
      · have hm : n2 % lpf n' = 0 := by exact_mod_cast of_decide_eq_true h
        have hlt : n2 / lpf n' < n2 := Nat.div_lt_self (by omega) hq.1
        refine st 0 hk ((dv_div (cdN (by have := hq.1; omega) (by omega)) (nm 0 rfl) (nm 2 rfl)).ev ?_)
        refine st 3 hk ((dv_add (nm 3 rfl) dv_int).ev (dB_nil ⟨n2 / lpf n', hlt, n2 / lpf n', j + 1, rfl, rfl, rfl, ?_, by omega, ?_⟩))
        · exact Nat.div_pos (Nat.le_of_dvd (by omega) (Nat.dvd_of_mod_eq_zero hm)) (by have := hq.1; omega)
        · rw [Nat.pow_succ, Nat.mul_assoc, Nat.mul_div_cancel' (Nat.dvd_of_mod_eq_zero hm), hj]
      · have hm : ¬ lpf n' ∣ n2 := fun z => of_decide_eq_false h (by exact_mod_cast Nat.mod_eq_zero_of_dvd z)
        have hj1 : 1 ≤ j := by
          rcases Nat.eq_zero_or_pos j with z | z
          · subst z; rw [Nat.pow_zero, Nat.one_mul] at hj; exact absurd (hj ▸ hq.2.1) hm
          · exact z
        have hup : ∀ x ∈ l, x.1 < lpf n' := fun x hx' => by
          obtain ⟨a1, a2⟩ := hx x hx'
          have : d ≤ lpf n' := Nat.le_of_not_lt fun z => hno _ hq.1 z hq.2.1
          have : x.1 ≠ lpf n' := fun z => a2 (z ▸ hq.2.1)
          omega
        have hl2 : IsPart (whole (l ++ [(lpf n', j)])) (l ++ [(lpf n', j)]) := by
          refine ⟨fun x hx' => ?_, ?_, rfl⟩
          · rcases List.mem_append.mp hx' with z | z
            · exact hl.pr x z
            · rw [List.mem_singleton] at z; subst z; exact ⟨hq.pr, hj1⟩
          · refine List.pairwise_append.mpr ⟨hl.up, List.pairwise_singleton .., fun x hx' y hy => ?_⟩
            rw [List.mem_singleton] at hy; subst hy
            exact hup x hx'
        have hlen : l.length < 100 := by
          refine hl.len_lt (k := 100) ?_
          have : whole l ≤ n := by rw [← hw]; exact Nat.le_mul_of_pos_right _ (by omega)
          omega
        have hn2lt : n2 < n' := by
          have : 2 ≤ lpf n' ^ j := Nat.le_trans hq.1 (by
            have := Nat.pow_le_pow_right (n := lpf n') hq.pr.pos hj1
            rwa [Nat.pow_one] at this)
          have : 2 * n2 ≤ lpf n' ^ j * n2 := Nat.mul_le_mul_right n2 this
          omega
        refine dB_one (dS_expr (dE_append ((nm 1 rfl).ev ⟨M.length, rfl, ⟨_, at_end⟩, (dv_tup (ds := [.int (lpf n'), .int j]) (da_cons (nm 2 rfl) (da_cons (nm 3 rfl) da_nil))).ev ⟨_, at_end, ?_, ?_⟩⟩)))
        · rw [partD_len]; exact Nat.lt_of_lt_of_le hlen (by decide)
        · rw [set_end]
          refine ⟨n2, hn2lt, n2, lpf n', l ++ [(lpf n', j)], _, rfl, ?_, rfl, h21, by omega, hl2, ?_, by omega, pr_odd hq.pr, ?_, ?_⟩
          · unfold partD
            rw [List.map_append, List.map_append]
            rfl
          · rw [whole_app]
            show whole l * (lpf n' ^ j * 1) * n2 = n
            rw [Nat.mul_one, Nat.mul_assoc, hj, hw]
          · intro k' a b hd'
            exact hq.2.2 k' a b (hj ▸ Nat.dvd_trans hd' (Nat.dvd_mul_left _ _))
          · intro x hx'
            rcases List.mem_append.mp hx' with z | z
            · have := hup x z
              exact ⟨by omega, fun hd' => (hx x z).2 (hj ▸ Nat.dvd_trans hd' (Nat.dvd_mul_left _ _))⟩
            · rw [List.mem_singleton] at z; subst z; exact ⟨Nat.le_refl _, hm⟩
    · have e1 : n' = 1 := by have := of_decide_eq_false h; omega
      subst e1
      rw [Nat.mul_one] at hw
      refine rt (dE_freeze ((nm 1 rfl).ev ⟨M.length, partD l, rfl, at_end, ?_⟩))
      rw [set_end]
      refine Ret.of hM ?_
      have e2 : part n = l := part_eq (hw ▸ hl)
      have := h3 z1 z2
      rw [show ((n : Int)).toNat = n from rfl, e2] at this
      exact this
end
end RP

set_option maxRecDepth 100000
set_option maxHeartbeats 4000000
namespace RP
open PySem L2 DL NT
open PySem.W (Frag)
section
variable {P : Program} {w : World} {K : Frag} {mg : Str → Option Value} {base : Heap}
/-! power, of exponents from 0 on -/
def sp_power0 : FSpec := fun ws M Φ _ => ∃ (n : Nat) (a : Int) (e : Nat), ws = [wi n, wi a, wi e] ∧ 0 < n ∧ n < Bg ∧ Φ (wi (a ^ e % n)) M
theorem bgI {n : Nat} {x : Int} (h0 : 0 < n) (h : n < Bg) : (x % (n : Int)).natAbs < Bg := by
  have h1 := Int.emod_nonneg x (b := (n : Int)) (by omega)
  have h2 := Int.emod_lt_of_pos x (b := (n : Int)) (by omega)
  omega
theorem ok_power0 (D : DefAt K mg "power" s_power ["n", "a", "e"]) : Callee P w K mg base 1 "power" ["n", "a", "e"] sp_power0 := by
  refine callee D sc_power (fun ws M Φ Ξ h => ?_) fun f cdv A outer s H E hr hk ws M Φ Ξ hM h => ?_
  · obtain ⟨n, a, e, rfl, _⟩ := h; rfl
  · obtain ⟨n, a, e, rfl, h0, hB, hΦ⟩ := h
    have hn : (0 : Int) < (n : Int) := by omega
    refine ifn (dt_lt (nm 2 rfl) dv_int) (fun h => by have := of_decide_eq_true h; omega) (fun _ => ?_)
    refine st 3 hk ((dv_mod hn dv_int (nm 0 rfl)).ev ?_)
    refine st 4 hk ((dv_mod hn (nm 1 rfl) (nm 0 rfl)).ev ?_)
    refine dB_cons (dS_while hk (fun m δ M' => ∃ (e' : Nat) (f b : Int), δ = [sI n, sI a, sI e', sI f, sI b] ∧ M' = M ∧ m = e' ∧ f.natAbs < Bg ∧ b.natAbs < Bg ∧ f % n = f ∧ f * b ^ e' % n = a ^ e % n) e
      ⟨e, 1 % n, a % n, rfl, rfl, rfl, bgI h0 hB, bgI h0 hB, Int.emod_emod .., by rw [imul_emod_l, Int.one_mul, ipow_emod]⟩ ?_)
    rintro e' δ M' ⟨_, f, b, rfl, rfl, rfl, hf, hb, hff, he⟩
    refine (dt_gt (nm 2 rfl) dv_int).tv ⟨fun h => ?_, fun h => ?_⟩
    · have he0 : 0 < e' := by have := of_decide_eq_true h; omega
      refine ifj (fun δ' M2 => δ' = [sI n, sI a, sI e', sI (if e' % 2 = 1 then f * b % n else f), sI b] ∧ M2 = M') (dt_eqI (dv_mod (by decide) (nm 2 rfl) dv_int) dv_int) (fun h => ?_) (fun h => ?_) ?_
      · have hm : e' % 2 = 1 := by have := of_decide_eq_true h; omega
        exact st 3 hk ((dv_mod hn (dv_mul (cmB hf hb) (nm 3 rfl) (nm 4 rfl)) (nm 0 rfl)).ev (dB_nil ⟨by rw [if_pos hm]; rfl, rfl⟩))
      · have hm : ¬ e' % 2 = 1 := by have := of_decide_eq_false h; omega
        exact dB_nil ⟨by rw [if_neg hm], rfl⟩
      · rintro δ' M2 ⟨rfl, rfl⟩
        have hst := hpow_step f b n e'
        rw [he] at hst
        have h1 : (if e' % 2 = 1 then f * b % n else f).natAbs < Bg := by
          split
          · exact bgI h0 hB
          · exact hf
        have h2 : (if e' % 2 = 1 then f * b % n else f) % n = (if e' % 2 = 1 then f * b % n else f) := by
          split
          · exact Int.emod_emod ..
          · exact hff
        refine st 4 hk ((dv_mod hn (dv_mul (cmB hb hb) (nm 4 rfl) (nm 4 rfl)) (nm 0 rfl)).ev ?_)
        exact st 2 hk ((dv_div cdL (nm 2 rfl) dv_int).ev (dB_nil ⟨e' / 2, Nat.div_lt_self he0 (by decide), e' / 2, _, b * b % n, rfl, rfl, rfl, h1, bgI h0 hB, h2, hst⟩))
    · have e0 : e' = 0 := by have := of_decide_eq_false h; omega
      subst e0
      rw [Int.pow_zero, Int.mul_one, hff] at he
      subst he
      exact rt ((nm 3 rfl).ev (Ret.of0 hM hΦ))

/-! has_full_order, least_full -/
def OkL (l : List (Nat × Nat)) : Prop := l.length < 1000 ∧ ∀ x ∈ l, 0 < x.1 ∧ x.1 < Bg
theorem okL_of {n : Nat} {l : List (Nat × Nat)} (h : IsPart n l) (hn : n < 2 ^ 900) : OkL l :=
  ⟨by have := h.len_lt hn; omega, fun x hx => ⟨(h.pr x hx).1.pos, by
    have h1 := h.pos
    have := Nat.le_of_dvd (by omega) (h.dvd hx)
    have : (2 : Nat) ^ 900 ≤ Bg := by decide +kernel
    omega⟩⟩
def sp_has_full_order : FSpec := fun ws M Φ _ => ∃ (p a : Nat) (l : List (Nat × Nat)), ws = [wi p, wi a, .d (.lst (partD l))] ∧ 1 ≤ p ∧ p < Bg ∧ OkL l ∧ Φ (.d (.bl (decide (FullBy p a l)))) M
theorem ok_has_full_order (D : DefAt K mg "has_full_order" s_has_full_order ["p", "a", "parting"]) (c1 : Callee P w K mg base 1 "power" ["n", "a", "e"] sp_power0) : Callee P w K mg base 2 "has_full_order" ["p", "a", "parting"] sp_has_full_order := by
  refine callee D sc_has_full_order (fun ws M Φ Ξ h => ?_) fun f cdv A outer s H E hr hk ws M Φ Ξ hM h => ?_
  · obtain ⟨n, a, l, rfl, _⟩ := h; rfl
  · obtain ⟨p, a, l, rfl, h1, hB, hl, hΦ⟩ := h
    refine dB_cons (dS_for hk (dI_data (nm 2 rfl) ⟨fun i δ M' => ∃ u v, δ = [sI p, sI a, sD (.lst (partD l)), u, v] ∧ M' = M ∧ ∀ x ∈ l.take i, a ^ ((p - 1) / x.1) % p ≠ 1, ⟨none, none, rfl, rfl, by simp⟩, fun _ _ _ _ => trivial, ⟨?_, ?_⟩⟩))
    · rintro i x δ M' hi hx ⟨u, v, rfl, rfl, hno⟩
      have hil : i < l.length := by simpa [partD] using hi
      have ex : x = .d (dq l[i].1 l[i].2) := by
        have hx' : ((partD l)[i]?).map W.d = some x := hx
        unfold partD at hx'
        rw [List.getElem?_map, List.getElem?_eq_getElem hil] at hx'
        exact (Option.some.inj hx').symm
      subst ex
      obtain ⟨hq0, hqB⟩ := hl.2 l[i] (List.getElem_mem hil)
      have ep : (p : Int) - 1 = ((p - 1 : Nat) : Int) := by omega
      refine dg_tup hk.calm (dgs_cons (tg 3 hk (dgs_cons (tg 4 hk (dgs_nil ?_)))))
      refine ifn (dt_eqI (dv_call c1 hr (da_cons (nm 0 rfl) (da_cons (nm 1 rfl) (da_cons (dv_to (dv_div (cdN hq0 hqB) (dv_sub (nm 0 rfl) dv_int) (nm 3 rfl)) (by rw [ep, ← Int.natCast_ediv])) da_nil))) (fun Φ Ξ h => ⟨p, a, (p - 1) / l[i].1, rfl, h1, hB, h⟩)) dv_int) (fun h => ?_) (fun h => ?_)
      · have hm : a ^ ((p - 1) / l[i].1) % p = 1 := by have := of_decide_eq_true h; rw [ipow_nat] at this; omega
        refine rt (dv_bl.ev (Ret.of0 hM ?_))
        rw [decide_eq_false (fun z : FullBy p a l => z l[i] (List.getElem_mem hil) hm)] at hΦ
        exact hΦ
      · have hm : a ^ ((p - 1) / l[i].1) % p ≠ 1 := fun z => of_decide_eq_false h (by rw [ipow_nat, z]; rfl)
        refine dB_nil ⟨_, _, rfl, rfl, fun x hx => ?_⟩
        rw [List.take_add_one, List.getElem?_eq_getElem hil] at hx
        rcases List.mem_append.mp hx with z | z
        · exact hno x z
        · have : x = l[i] := by simpa using z
          subst this; exact hm
    · rintro δ M' ⟨u, v, rfl, rfl, hno⟩
      refine rt (dv_bl.ev (Ret.of0 hM ?_))
      have hl' : (partD l).length = l.length := by unfold partD; rw [List.length_map]
      rw [hl', List.take_length] at hno
      rw [decide_eq_true (show FullBy p a l from hno)] at hΦ
      exact hΦ
def sp_least_full : FSpec := fun ws M Φ _ => ∃ (p : Nat), ws = [wi p, .d (.lst (partD (part (p - 1))))] ∧ Pr p ∧ p ≤ 1000000000 ∧ Φ (wi (lfull p)) M
theorem ok_least_full (D : DefAt K mg "least_full" s_least_full ["p", "parting"]) (c1 : Callee P w K mg base 2 "has_full_order" ["p", "a", "parting"] sp_has_full_order) : Callee P w K mg base 3 "least_full" ["p", "parting"] sp_least_full := by
  refine callee D sc_least_full (fun ws M Φ Ξ h => ?_) fun f cdv A outer s H E hr hk ws M Φ Ξ hM h => ?_
  · obtain ⟨p, rfl, _⟩ := h; rfl
  · obtain ⟨p, rfl, hp, hle, hΦ⟩ := h
    obtain ⟨f1, f2, f3, f4⟩ := lfull_is hp
    have hB := Bg9
    have hN : 1 ≤ p - 1 := by have := hp.two; omega
    have hl : OkL (part (p - 1)) := okL_of (part_is hN) (Nat.lt_of_le_of_lt (Nat.le_trans (Nat.sub_le p 1) hle) (by decide +kernel))
    refine st 2 hk (dv_int.ev ?_)
    refine dB_cons (dS_while hk (fun m δ M' => ∃ a : Nat, δ = [sI p, sD (.lst (partD (part (p - 1)))), sI a] ∧ M' = M ∧ m = lfull p - a ∧ 1 ≤ a ∧ a ≤ lfull p) _ ⟨1, rfl, rfl, rfl, Nat.le_refl _, f1⟩ ?_)
    rintro m δ M' ⟨a, rfl, rfl, rfl, ha1, ha2⟩
    refine (dt_not (dt_val (dv_call c1 hr (da_cons (nm 0 rfl) (da_cons (nm 2 rfl) (da_cons (nm 1 rfl) da_nil))) (fun Φ Ξ h => ⟨p, a, part (p - 1), rfl, by have := hp.two; omega, by omega, hl, h⟩)))).tv ⟨fun h => ?_, fun h => ?_⟩
    · have hno : ¬ FullBy p a (part (p - 1)) := fun z => by rw [decide_eq_true z] at h; cases h
      have hlt : a < lfull p := by
        rcases Nat.lt_or_ge a (lfull p) with z | z
        · exact z
        · have : a = lfull p := by omega
          subst this; exact absurd f3 hno
      exact st 2 hk ((dv_add (nm 2 rfl) dv_int).ev (dB_nil ⟨lfull p - (a + 1), by omega, a + 1, rfl, rfl, rfl, by omega, hlt⟩))
    · have hy : FullBy p a (part (p - 1)) := by
        refine Classical.byContradiction fun z => ?_
        rw [decide_eq_false z] at h; cases h
      have e : a = lfull p := by
        rcases Nat.lt_or_ge a (lfull p) with z | z
        · exact absurd hy (f4 a ha1 z)
        · omega
      subst e
      exact rt ((nm 2 rfl).ev (Ret.of0 hM hΦ))
end
end RP

set_option maxRecDepth 100000
set_option maxHeartbeats 4000000
namespace RP
open PySem L2 DL NT
open PySem.W (Frag)
section
variable {P : Program} {w : World} {K : Frag} {mg : Str → Option Value} {base : Heap}
/-! papers_by, paper_of -/
noncomputable abbrev ppD (x : Nat × Nat) : D := .tup [paperD (paper x.1), .int x.2]
def sp_papers_by (k : Nat) : FSpec := fun ws M Φ _ => ∃ l : List (Nat × Nat), ws = [.d (.lst (partD l))] ∧ l.length ≤ 1000 ∧ (∀ x ∈ l, Pr x.1 ∧ x.1 ≤ 2 ^ k ∧ x.1 ≤ 1000000000) ∧ Φ (.d (.tup (l.map ppD))) M
def sp_paper_of (k : Nat) : FSpec := fun ws M Φ _ => ∃ p : Nat, ws = [wi p] ∧ Pr p ∧ p ≤ 2 ^ k ∧ p ≤ 1000000000 ∧ Φ (.d (paperD (paper p))) M
theorem ok_papers_by {k j : Nat} (D : DefAt K mg "papers_by" s_papers_by ["parting"]) (bt : mg "tuple" = none) (c1 : Callee P w K mg base j "paper_of" ["p"] (sp_paper_of k)) : Callee P w K mg base (j + 1) "papers_by" ["parting"] (sp_papers_by k) := by
  refine callee D sc_papers_by (fun ws M Φ Ξ h => ?_) fun f cdv A outer s H E hr hk ws M Φ Ξ hM h => ?_
  · obtain ⟨p, rfl, _⟩ := h; rfl
  · obtain ⟨l, rfl, hl, hx, hΦ⟩ := h
    refine rt ((dv_tuple bt (dv_lcE (enc := fun x => dq x.1 x.2) ppD hk (tgPair K 1 2) (own := [("q", 1), ("many", 2)]) (blkOk_by (N := n_papers_by) (sc := defScope s_papers_by) (by decide +kernel)) (fun _ _ _ _ _ => pg_tup rfl (pgs_cons (pg_name (i := 1) hk.nd rfl (.inl rfl)) (pgs_cons (pg_name (i := 2) hk.nd rfl (.inl rfl)) pgs_nil))) (fun _ h => h)
      (fun Ψ Ξ h => dI_data (nm 0 rfl) h) (by omega) (fun x hx' => ?_))).ev (Ret.of0 hM hΦ))
    obtain ⟨h1, h2, h3⟩ := hx x hx'
    refine ⟨_, ⟨_, _, rfl, rfl⟩, fun s H C cl fp M' => ?_⟩
    exact dv_tup (ds := [paperD (paper x.1), .int x.2]) (da_cons (dv_call c1 hr (da_cons (nm 1 rfl) da_nil) (fun Φ Ξ h => ⟨x.1, rfl, h1, h2, h3, h⟩)) (da_cons (nm 2 rfl) da_nil))
theorem paperD_eq {p : Nat} (h : Pr p) : paperD (paper p) = .tup [.int p, .int (lfull p), .tup ((part (p - 1)).map ppD)] := by
  rw [paper_mk h]
  show D.tup [.int p, .int (lfull p), .tup (partsD _)] = _
  rw [partsD_map, List.map_map]
  rfl
theorem ok_paper_of {cNN cTF : Addr} {k j : Nat} (h4 : 4 ≤ j) (D : DefAt K mg "paper_of" s_paper_of ["p"]) (c1 : Callee P w K mg base j "parted" ["n"] (sp_parted cNN cTF)) (c2 : Callee P w K mg base j "least_full" ["p", "parting"] sp_least_full)
    (c3 : Callee P w K mg base j "papers_by" ["parting"] (sp_papers_by k)) : Callee P w K mg base (j + 1) "paper_of" ["p"] (sp_paper_of (k + 1)) := by
  refine callee D sc_paper_of (fun ws M Φ Ξ h => ?_) fun f cdv A outer s H E hr hk ws M Φ Ξ hM h => ?_
  · obtain ⟨p, rfl, _⟩ := h; rfl
  · obtain ⟨p, rfl, hp, hle, hB, hΦ⟩ := h
    have hp2 := hp.two
    have hN : 1 ≤ p - 1 := by omega
    have hl := part_is hN
    refine st 1 hk ((dv_call (w := .d (.lst (partD (part (p - 1))))) c1 hr (da_cons (dv_sub (nm 0 rfl) dv_int) da_nil) (fun Φ Ξ h => ⟨(p : Int) - 1, rfl, fun z => by omega, fun z => by omega, fun _ _ => ?a⟩)).ev ?b)
    case a =>
      rw [show ((p : Int) - 1).toNat = p - 1 by omega]
      exact h
    case b =>
      rw [paperD_eq hp] at hΦ
      refine rt ((dv_tup (ds := [.int p, .int (lfull p), .tup ((part (p - 1)).map ppD)]) (da_cons (nm 0 rfl) (da_cons (dv_call c2 hr (da_cons (nm 0 rfl) (da_cons (nm 1 rfl) da_nil)) (fun Φ Ξ h => ⟨p, rfl, hp, hB, h⟩)) (da_cons (dv_call c3 hr (da_cons (nm 1 rfl) da_nil) (fun Φ Ξ h => ⟨part (p - 1), rfl, ?c, fun x hx => ?d, h⟩)) da_nil)))).ev (Ret.of0 hM hΦ))
      case c => exact Nat.le_trans (Nat.le_of_lt (hl.len_lt (k := 100) (Nat.lt_of_le_of_lt (Nat.le_trans (Nat.sub_le p 1) hB) (by decide)))) (by decide)
      case d =>
        have hq := (hl.pr x hx).1
        have hd := hl.dvd hx
        have hlt := pr_below hp hq hd
        refine ⟨hq, ?_, by omega⟩
        rcases Nat.lt_or_ge p 4 with z | z
        · have : x.1 = 2 := by have := hq.two; omega
          have hk0 : k ≠ 0 := fun e => by subst e; omega
          have : 2 ^ 1 ≤ 2 ^ k := Nat.pow_le_pow_right (by decide) (by omega)
          omega
        · have := two_mul_le hp hq hd z
          rw [Nat.pow_succ] at hle
          omega
/-- the tower -/
theorem papers_ok {cNN cTF : Addr} (D1 : DefAt K mg "paper_of" s_paper_of ["p"]) (D2 : DefAt K mg "papers_by" s_papers_by ["parting"]) (bt : mg "tuple" = none) (c1 : Callee P w K mg base 4 "parted" ["n"] (sp_parted cNN cTF)) (c2 : Callee P w K mg base 3 "least_full" ["p", "parting"] sp_least_full) :
    ∀ k, Callee P w K mg base (2 * k + 5) "paper_of" ["p"] (sp_paper_of k)
  | 0 => by
    refine callee D1 sc_paper_of (fun ws M Φ Ξ h => ?_) fun f cdv A outer s H E hr hk ws M Φ Ξ hM h => ?_
    · obtain ⟨p, rfl, _⟩ := h; rfl
    · obtain ⟨p, rfl, hp, hle, _⟩ := h
      have := hp.two
      omega
  | k + 1 => by
    have ih := papers_ok D1 D2 bt c1 c2 k
    have c3 := ok_papers_by D2 bt ih
    exact ok_paper_of (j := 2 * k + 6) (by omega) D1 (c1.mono (by omega)) (c2.mono (by omega)) c3
/-! prime_paper -/
def sp_prime_paper (cNN cTF cNP : Addr) : FSpec := fun ws M Φ Ξ => ∃ n : Int, ws = [wi n] ∧ (n < 2 → Ξ ⟨.ref cNN, none⟩ M) ∧ (1000000000 < n → Ξ ⟨.ref cTF, some [("part", .int n)]⟩ M) ∧
  (2 ≤ n → n ≤ 1000000000 → lpf n.toNat < n.toNat → Ξ ⟨.ref cNP, some [("divisor", .int (lpf n.toNat))]⟩ M) ∧ (2 ≤ n → n ≤ 1000000000 → Pr n.toNat → Φ (.d (paperD (paper n.toNat))) M)
theorem ok_prime_paper {cNN cTF cNP : Addr} {j : Nat} (D : DefAt K mg "prime_paper" s_prime_paper ["n"]) (c1 : Callee P w K mg base j "least_divisor" ["n"] (sp_least_divisor cNN cTF)) (c2 : Callee P w K mg base j "paper_of" ["p"] (sp_paper_of 30))
    (e2 : ExcI P w K mg base j "NoPrime" cNP 1 (fun xs => match xs with | [x] => [("divisor", x)] | _ => [])) : Callee P w K mg base (j + 2) "prime_paper" ["n"] (sp_prime_paper cNN cTF cNP) := by
  refine callee D sc_prime_paper (fun ws M Φ Ξ h => ?_) fun f cdv A outer s H E hr hk ws M Φ Ξ hM h => ?_
  · obtain ⟨p, rfl, _⟩ := h; rfl
  · obtain ⟨n, rfl, h1, h2, h3, h4⟩ := h
    refine st 1 hk (dE_call (c1.mono (Nat.le_succ j)) hr ((da_cons (nm 0 rfl) da_nil).av ⟨n, rfl, fun z => RetX.of0 hM (h1 z), fun z => RetX.of0 hM (h2 z), fun z1 z2 => ?_⟩))
    obtain ⟨n, rfl⟩ : ∃ m : Nat, n = m := ⟨n.toNat, by omega⟩
    have hq := lpf_is (n := n) (by omega)
    have hle := hq.le (by omega)
    refine ifn (dt_lt (nm 1 rfl) (nm 0 rfl)) (fun h => ?_) (fun h => ?_)
    · have hlt : lpf n < n := by have z : ((lpf n : Nat) : Int) < (n : Int) := of_decide_eq_true h; omega
      exact dB_one (dS_raise hk.calm (dM_init e2 hr (by decide) ((da_cons (nm 1 rfl) da_nil).av ⟨[(lpf n : Nat)], rfl, rfl, RetX.of0 hM (h3 z1 z2 hlt)⟩)))
    · have he : lpf n = n := by have z : ¬ ((lpf n : Nat) : Int) < (n : Int) := of_decide_eq_false h; omega
      have hp : Pr n := he ▸ hq.pr
      exact rt ((dv_call (c2.mono (Nat.le_succ j)) hr (da_cons (nm 0 rfl) da_nil) (fun Φ Ξ h => ⟨n, rfl, hp, by omega, by omega, h⟩)).ev (Ret.of0 hM (h4 z1 z2 hp)))
end
end RP

set_option maxRecDepth 100000
set_option maxHeartbeats 4000000
namespace RP
open PySem L2 DL NT
open PySem.W (Frag)
section
variable {P : Program} {w : World} {K : Frag} {mg : Str → Option Value} {base : Heap}
def sp_int_true : FSpec := fun ws M Φ _ => ∃ i : Int, ws = [wi i] ∧ Φ (.d (.bl true)) M
theorem ok__law_whole (D : DefAt K mg "_law_whole" s__law_whole ["_law_found"]) (b1 : mg "isinstance" = none) (b2 : mg "int" = none) (b3 : mg "bool" = none) : Callee P w K mg base 1 "_law_whole" ["_law_found"] sp_int_true := by
  refine callee D sc__law_whole (fun ws M Φ Ξ h => ?_) fun f cdv A outer s H E hr hk ws M Φ Ξ hM h => ?_
  · obtain ⟨n, rfl, _⟩ := h; rfl
  · obtain ⟨i, rfl, hΦ⟩ := h
    exact rt ((dv_and (k := true) (l := true) (dv_isi b1 (nm 0 rfl) (dv_ty b2 PyProof.Rows.boot_int) (.int i)) (fun _ => dv_one (dv_not (k := false) (dv_isi b1 (nm 0 rfl) (dv_ty b3 PyProof.Rows.boot_bool) (.int i))))).ev (Ret.of0 hM hΦ))
theorem bg100 {x : Int} (h1 : -10 ^ 100 < x) (h2 : x < 10 ^ 100) : x.natAbs < Bg := by
  have h : x.natAbs < 10 ^ 100 := by omega
  exact Nat.lt_of_lt_of_le h (Nat.le_trans (Nat.pow_le_pow_right (by decide) (by decide)) Bg_ge)
theorem bgM {x m : Int} (h : 0 < m) (hm : m < 10 ^ 100) : (x % m).natAbs < Bg := by
  have h1 := Int.emod_nonneg x (b := m) (by omega)
  have h2 := Int.emod_lt_of_pos x (b := m) h
  exact bg100 (by omega) (by omega)
/-! _law_draws -/
theorem atI2 (a b i : Int) : ∃ r, atI [D.int a, D.int b] (i % 2) = some (.int r) ∧ (r = a ∨ r = b) := by
  have h : i % 2 = 0 ∨ i % 2 = 1 := by omega
  rcases h with e | e
  · exact ⟨a, by rw [e]; rfl, .inl rfl⟩
  · exact ⟨b, by rw [e]; rfl, .inr rfl⟩
def intsD (l : List Int) : List D := l.map D.int
def sp__law_draws : FSpec := fun ws M Φ _ => ∃ c : Int, ws = [wi c, wi 4] ∧ ∀ a b c d : Int, 0 ≤ a → 0 ≤ b → 0 ≤ c → 0 ≤ d → Φ (.d (.lst [.int a, .int b, .int c, .int d])) M
theorem ok__law_draws (D : DefAt K mg "_law_draws" s__law_draws ["_law_cell", "_law_many"]) (b1 : mg "range" = none) (b2 : mg "abs" = none) : Callee P w K mg base 1 "_law_draws" ["_law_cell", "_law_many"] sp__law_draws := by
  refine callee D sc__law_draws (fun ws M Φ Ξ h => ?_) fun f cdv A outer s H E hr hk ws M Φ Ξ hM h => ?_
  · obtain ⟨n, rfl, _⟩ := h; rfl
  · obtain ⟨c, rfl, hΦ⟩ := h
    have hB := Bg9
    refine st 2 hk (dE_lstO (dA_nil ⟨Nat.zero_le _, ?_⟩))
    refine dB_cons (dS_for hk (dI_range1 b1 ((nm 1 rfl).ev ⟨4, rfl, by decide, by decide, fun i δ M' => ∃ (c : Int) (l : List Int) (u v : Option W), δ = [sI c, sI 4, some (.p M.length), u, v] ∧ M' = M ++ [.lst ((intsD l).map W.d)] ∧ l.length = i ∧ ∀ x ∈ l, 0 ≤ x, ⟨c, [], none, none, rfl, rfl, rfl, (fun _ h => nomatch h)⟩, fun _ _ _ _ => trivial, ⟨?_, ?_⟩⟩)))
    · rintro i x δ M' hi hx ⟨c, l, u, v, rfl, rfl, hl, h0⟩
      have ex : W.d (.int i) = x := Option.some.inj hx
      subst ex
      have hi4 : i < 4 := hi
      have h18 : CPow 10 18 := ⟨by decide, by decide, by decide⟩
      have h60 : CPow 10 60 := ⟨by decide, by decide, by decide⟩
      have hlen : ((intsD l).map W.d).length < sizeLine := by
        unfold intsD
        rw [List.length_map, List.length_map, hl]
        exact Nat.lt_of_lt_of_le hi4 (by decide)
      have fin : ∀ (c : Int) (r : Int) (v : Option W), 0 ≤ r → ∃ (c' : Int) (l' : List Int) (u' v' : Option W), [sI c, sI 4, some (W.p M.length), sI i, v] = [sI c', sI 4, some (.p M.length), u', v'] ∧ (M ++ [MO.lst ((intsD l).map W.d)]).set M.length (.lst ((intsD l).map W.d ++ [wi r])) = M ++ [.lst ((intsD l').map W.d)] ∧ l'.length = i + 1 ∧ ∀ x ∈ l', 0 ≤ x := fun c r v hr => by
        refine ⟨c, l ++ [r], _, _, rfl, ?_, by rw [List.length_append, hl]; rfl, fun x hx => ?_⟩
        · rw [set_end]
          unfold intsD
          rw [List.map_append, List.map_append]
          rfl
        · rcases List.mem_append.mp hx with z | z
          · exact h0 x z
          · rw [List.mem_singleton] at z; subst z; exact hr
      refine tg 3 hk (iff (dt_ge (dv_abs b2 (nm 0 rfl)) (dv_pow h18 dv_int dv_int)) (fun h => ?_) (fun h => ?_))
      · refine dB_cons (dS_expr (dE_append ((nm 2 rfl).ev ⟨M.length, rfl, ⟨_, at_end⟩, (dv_mod (by decide) (nm 0 rfl) (dv_pow h60 dv_int dv_int)).ev ⟨_, at_end, hlen, ?_⟩⟩)))
        refine st 0 hk ((dv_div cdL (nm 0 rfl) (dv_pow h60 dv_int dv_int)).ev (dB_nil (dB_nil ?_)))
        exact fin _ _ _ (Int.emod_nonneg _ (by decide))
      · have hc : c.natAbs < 10 ^ 18 := by
          have z : ¬ ((10 : Int) ^ (18 : Int).toNat ≤ (if c < 0 then -c else c)) := of_decide_eq_false h
          have e : (10 : Int) ^ (18 : Int).toNat = 1000000000000000000 := by decide
          rw [e] at z
          split at z <;> omega
        have e1 : (i : Int).natAbs < 4 := by omega
        have z1 : (i : Int).natAbs < Bg := bg100 (by omega) (by omega)
        have z2 : (7919 * (i : Int)).natAbs < Bg := bg100 (by omega) (by omega)
        have z3 : ∀ m : Int, -10 ^ 100 < m → m < 10 ^ 100 → m.natAbs < Bg := fun m => bg100
        refine st 4 hk ((dv_mod (by decide) (dv_mul (cmB (bgM (by decide) (by decide)) (z3 _ (by decide) (by decide))) (dv_mod (by decide) (dv_add (dv_add (nm 0 rfl) (dv_mul (cmB z2 z1) (dv_mul (cmB (z3 _ (by decide) (by decide)) z1) dv_int (nm 3 rfl)) (nm 3 rfl))) (nm 3 rfl)) dv_int) dv_int) dv_int).ev ?_)
        generalize hn1 : (c + 7919 * (i : Int) * i + i) % 2147483647 * 48271 % 2147483647 = n1
        have n1a : 0 ≤ n1 := hn1 ▸ Int.emod_nonneg _ (by decide)
        have n1b : n1 < 2147483647 := hn1 ▸ Int.emod_lt_of_pos _ (by decide)
        refine st 4 hk ((dv_div cdL (dv_mod (by decide) (dv_mul (cmB (z3 _ (by omega) (by omega)) (z3 _ (by omega) (by omega))) (nm 4 rfl) (dv_add (dv_add (nm 4 rfl) (dv_mul (cmB (z3 _ (by decide) (by decide)) z1) dv_int (nm 3 rfl))) dv_int)) dv_int) dv_int).ev ?_)
        generalize hn2 : n1 * (n1 + 12345 * (i : Int) + 7) % 2147483629 / 11 = n2
        have n2a : 0 ≤ n2 := hn2 ▸ Int.ediv_nonneg (Int.emod_nonneg _ (by decide)) (by decide)
        have n2b : n2 < 2147483629 := by
          have h1 := Int.emod_lt_of_pos (n1 * (n1 + 12345 * (i : Int) + 7)) (show (0 : Int) < 2147483629 by decide)
          have h0 := Int.emod_nonneg (n1 * (n1 + 12345 * (i : Int) + 7)) (show (2147483629 : Int) ≠ 0 by decide)
          omega
        obtain ⟨r, hr1, hr2⟩ := atI2 n2 (n2 ^ (7 : Int).toNat / 13 % (10 : Int) ^ (60 : Int).toNat) (n2 / 4)
        have hr0 : 0 ≤ r := by
          rcases hr2 with e | e
          · rw [e]; exact n2a
          · rw [e]; exact Int.emod_nonneg _ (by decide)
        refine dB_one (dS_expr (dE_append ((nm 2 rfl).ev ⟨M.length, rfl, ⟨_, at_end⟩, (dv_ixD (ds := [.int n2, .int (n2 ^ (7 : Int).toNat / 13 % (10 : Int) ^ (60 : Int).toNat)]) (dv_lst (da_cons (nm 4 rfl) (da_cons (dv_mod (by decide) (dv_div cdL (dv_pow ⟨by decide, by decide, by omega⟩ (nm 4 rfl) dv_int) dv_int) (dv_pow h60 dv_int dv_int)) da_nil))) (dv_mod (by decide) (dv_div cdL (nm 4 rfl) dv_int) dv_int) hr1).ev ⟨_, at_end, hlen, dB_nil ?_⟩⟩)))
        exact fin _ _ _ hr0
    · rintro δ M' ⟨c, l, u, v, rfl, rfl, hl, h0⟩
      refine rt (dE_freeze ((nm 2 rfl).ev ⟨M.length, intsD l, rfl, at_end, ?_⟩))
      rw [set_end]
      refine Ret.of hM ?_
      match l, hl, h0 with
      | [a, b, c, d], _, h0 => exact hΦ a b c d (h0 a (by simp)) (h0 b (by simp)) (h0 c (by simp)) (h0 d (by simp))
end
end RP

set_option maxRecDepth 100000
set_option maxHeartbeats 4000000
namespace RP
open PySem L2 DL NT
open PySem.W (Frag)
section
variable {P : Program} {w : World} {K : Frag} {mg : Str → Option Value} {base : Heap}
/-! _law_least -/
def sp__law_least : FSpec := fun ws M Φ _ => ∃ n : Nat, ws = [wi n] ∧ 2 ≤ n ∧ n < 10 ^ 500 ∧ Φ (wi (lpf n)) M
theorem ok__law_least (D : DefAt K mg "_law_least" s__law_least ["_law_n"]) (bi : mg "int" = none) : Callee P w K mg base 1 "_law_least" ["_law_n"] sp__law_least := by
  refine callee D sc__law_least (fun ws M Φ Ξ h => ?_) fun f cdv A outer s H E hr hk ws M Φ Ξ hM h => ?_
  · obtain ⟨n, rfl, _⟩ := h; rfl
  · obtain ⟨n, rfl, hn, hnB, hΦ⟩ := h
    have hB := Bg9
    refine st 1 hk (dv_int.ev ?_)
    refine dB_cons (dS_while hk (fun m δ M' => ∃ d : Nat, M' = M ∧ δ = [sI n, sI d] ∧ m = n + 2 - d ∧ d < Bg ∧ (d = 2 ∨ 3 ≤ d ∧ d % 2 = 1) ∧ ∀ k, 2 ≤ k → k < d → ¬ k ∣ n) _ ⟨2, rfl, rfl, rfl, by omega, .inl rfl, fun k a b => by omega⟩ ?_)
    rintro m δ M' ⟨d, rfl, rfl, rfl, hdB, hd, hno⟩
    refine (dt_le (dv_mul (cmN hdB hdB) (nm 1 rfl) (nm 1 rfl)) (nm 0 rfl)).tv ⟨fun h => ?_, fun h => ?_⟩
    · have hle : d * d ≤ n := by exact_mod_cast of_decide_eq_true h
      have hd2 : 2 ≤ d := by omega
      have hdn : d ≤ n := Nat.le_trans (Nat.le_mul_of_pos_left d (by omega)) hle
      refine ifn (dt_eqI (dv_mod (by omega) (nm 0 rfl) (nm 1 rfl)) dv_int) (fun h => ?_) (fun h => ?_)
      · have hm : n % d = 0 := by exact_mod_cast of_decide_eq_true h
        refine rt ((nm 1 rfl).ev (Ret.of0 hM ?_))
        rw [← lpf_eq (n := n) (r := d) ⟨hd2, Nat.dvd_of_mod_eq_zero hm, hno⟩]
        exact hΦ
      · have hm : n % d ≠ 0 := fun z => of_decide_eq_false h (by exact_mod_cast z)
        refine st 1 hk ((dv_add (dv_add (nm 1 rfl) dv_int) (dv_intb bi (dv_gt (nm 1 rfl) dv_int))).ev (dB_nil ?_))
        have e : (d : Int) + 1 + (if decide ((2 : Int) < d) = true then 1 else 0) = ((d + 1 + (if 2 < d then 1 else 0) : Nat) : Int) := by
          by_cases h3 : 2 < d
          · have : (2 : Int) < d := by omega
            rw [if_pos h3, if_pos (decide_eq_true this)]; omega
          · have : ¬ (2 : Int) < d := by omega
            rw [if_neg h3, decide_eq_false this, if_neg (by decide)]; omega
        have hs := step_odd hd
        have hlt : n + 2 - (d + 1 + (if 2 < d then 1 else 0)) < n + 2 - d := by split <;> omega
        refine ⟨_, hlt, d + 1 + (if 2 < d then 1 else 0), rfl, by rw [← e]; rfl, rfl, ?_, hs, step_no hd hno fun z => hm (Nat.mod_eq_zero_of_dvd z)⟩
        split <;> omega
    · have hlt : n < d * d := by
        have z := of_decide_eq_false h
        have z2 : ¬ (d * d ≤ n) := fun y => z (by exact_mod_cast y)
        omega
      refine rt ((nm 0 rfl).ev (Ret.of0 hM ?_))
      rw [lpf_eq (Lpf.self (lpf_root hn hlt hno))] at hΦ
      exact hΦ
/-! _law_power -/
def sp__law_power : FSpec := fun ws M Φ _ => ∃ (n : Nat) (a : Int) (e : Nat), ws = [wi n, wi a, wi e] ∧ 0 < n ∧ n < Bg ∧ a.natAbs < Bg ∧ Φ (wi (a ^ e % n)) M
theorem ok__law_power (D : DefAt K mg "_law_power" s__law_power ["_law_n", "_law_a", "_law_e"]) : Callee P w K mg base 1 "_law_power" ["_law_n", "_law_a", "_law_e"] sp__law_power := by
  refine callee D sc__law_power (fun ws M Φ Ξ h => ?_) fun f cdv A outer s H E hr hk ws M Φ Ξ hM h => ?_
  · obtain ⟨n, a, e, rfl, _⟩ := h; rfl
  · obtain ⟨n, a, e, rfl, h0, hB, haB, hΦ⟩ := h
    have hn : (0 : Int) < (n : Int) := by omega
    refine st 3 hk ((dv_mod hn dv_int (nm 0 rfl)).ev ?_)
    refine dB_cons (dS_while hk (fun m δ M' => ∃ (e' : Nat) (f b : Int), δ = [sI n, sI b, sI e', sI f] ∧ M' = M ∧ m = e' ∧ f.natAbs < Bg ∧ b.natAbs < Bg ∧ f % n = f ∧ f * b ^ e' % n = a ^ e % n) e
      ⟨e, 1 % n, a, rfl, rfl, rfl, bgI h0 hB, haB, Int.emod_emod .., by rw [imul_emod_l, Int.one_mul]⟩ ?_)
    rintro e' δ M' ⟨_, f, b, rfl, rfl, rfl, hf, hb, hff, he⟩
    refine (dt_gt (nm 2 rfl) dv_int).tv ⟨fun h => ?_, fun h => ?_⟩
    · have he0 : 0 < e' := by have := of_decide_eq_true h; omega
      refine ifj (fun δ' M2 => δ' = [sI n, sI b, sI e', sI (if e' % 2 = 1 then f * b % n else f)] ∧ M2 = M') (dt_eqI (dv_mod (by decide) (nm 2 rfl) dv_int) dv_int) (fun h => ?_) (fun h => ?_) ?_
      · have hm : e' % 2 = 1 := by have := of_decide_eq_true h; omega
        exact st 3 hk ((dv_mod hn (dv_mul (cmB hf hb) (nm 3 rfl) (nm 1 rfl)) (nm 0 rfl)).ev (dB_nil ⟨by rw [if_pos hm]; rfl, rfl⟩))
      · have hm : ¬ e' % 2 = 1 := by have := of_decide_eq_false h; omega
        exact dB_nil ⟨by rw [if_neg hm], rfl⟩
      · rintro δ' M2 ⟨rfl, rfl⟩
        have hst := hpow_step f b n e'
        rw [he] at hst
        have h1 : (if e' % 2 = 1 then f * b % n else f).natAbs < Bg := by
          split
          · exact bgI h0 hB
          · exact hf
        have h2 : (if e' % 2 = 1 then f * b % n else f) % n = (if e' % 2 = 1 then f * b % n else f) := by
          split
          · exact Int.emod_emod ..
          · exact hff
        refine st 1 hk ((dv_mod hn (dv_mul (cmB hb hb) (nm 1 rfl) (nm 1 rfl)) (nm 0 rfl)).ev ?_)
        exact st 2 hk ((dv_div cdL (nm 2 rfl) dv_int).ev (dB_nil ⟨e' / 2, Nat.div_lt_self he0 (by decide), e' / 2, _, b * b % n, rfl, rfl, rfl, h1, bgI h0 hB, h2, hst⟩))
    · have e0 : e' = 0 := by have := of_decide_eq_false h; omega
      subst e0
      rw [Int.pow_zero, Int.mul_one, hff] at he
      subst he
      exact rt ((nm 3 rfl).ev (Ret.of0 hM hΦ))
/-! _law_is_full -/
def sp__law_is_full : FSpec := fun ws M Φ _ => ∃ (p a : Nat), ws = [wi p, wi a, .d (.tup ((part (p - 1)).map ppD))] ∧ Pr p ∧ p ≤ 1000000000 ∧ 1 ≤ a ∧ a < p ∧ Φ (.d (.bl (decide (FullBy p a (part (p - 1)))))) M
theorem take_all {A : Type} {l : List A} {Q : A → Prop} {i : Nat} (h : ∀ x ∈ l.take i, Q x) (hi : i < l.length) (hq : Q l[i]) : ∀ x ∈ l.take (i + 1), Q x := fun x hx => by
  rw [List.take_add_one, List.getElem?_eq_getElem hi] at hx
  rcases List.mem_append.mp hx with z | z
  · exact h x z
  · have : x = l[i] := by simpa using z
    subst this; exact hq
theorem atI0 {D : Type} {a : D} {l : List D} : atI (a :: l) 0 = some a := atI_nat (j := 0) rfl
theorem atI1 {D : Type} {a b : D} {l : List D} : atI (a :: b :: l) 1 = some b := atI_nat (j := 1) rfl
theorem atI_2 {D : Type} {a b c : D} {l : List D} : atI (a :: b :: c :: l) 2 = some c := atI_nat (j := 2) rfl
theorem paperD_tup {p : Nat} (h : Pr p) : ∃ a b, paperD (paper p) = .tup [.int p, a, b] := ⟨_, _, paperD_eq h⟩
theorem ok__law_is_full (D : DefAt K mg "_law_is_full" s__law_is_full ["_law_p", "_law_a", "_law_parts"]) (c1 : Callee P w K mg base 1 "_law_power" ["_law_n", "_law_a", "_law_e"] sp__law_power) : Callee P w K mg base 2 "_law_is_full" ["_law_p", "_law_a", "_law_parts"] sp__law_is_full := by
  refine callee D sc__law_is_full (fun ws M Φ Ξ h => ?_) fun f cdv A outer s H E hr hk ws M Φ Ξ hM h => ?_
  · obtain ⟨n, a, rfl, _⟩ := h; rfl
  · obtain ⟨p, a, rfl, hp, hle, ha1, ha2, hΦ⟩ := h
    have hB := Bg9
    have hp2 := hp.two
    have hN : 1 ≤ p - 1 := by omega
    have hl := part_is hN
    have ep : (p : Int) - 1 = ((p - 1 : Nat) : Int) := by omega
    have haB : (a : Int).natAbs < Bg := by omega
    refine dB_cons (dS_for hk (dI_tup ((nm 2 rfl).ev ⟨_, rfl, fun i δ M' => ∃ u, δ = [sI p, sI a, sD (.tup ((part (p - 1)).map ppD)), u] ∧ M' = M ∧ ∀ x ∈ (part (p - 1)).take i, a ^ ((p - 1) / x.1) % p ≠ 1, ⟨none, rfl, rfl, by simp⟩, fun _ _ _ _ => trivial, ⟨?_, ?_⟩⟩)))
    · rintro i x δ M' hi hx ⟨u, rfl, rfl, hno⟩
      have hil : i < (part (p - 1)).length := by simpa using hi
      have ex : x = .d (ppD (part (p - 1))[i]) := by
        have hx' : (((part (p - 1)).map ppD)[i]?).map W.d = some x := hx
        rw [List.getElem?_map, List.getElem?_eq_getElem hil] at hx'
        exact (Option.some.inj hx').symm
      subst ex
      have hm := List.getElem_mem hil
      generalize hxe : (part (p - 1))[i] = x at hm
      have hq := (hl.pr x hm).1
      have hqB := pr_below hp hq (hl.dvd hm)
      obtain ⟨u1, u2, eP⟩ := paperD_tup hq
      refine tg 3 hk ?_
      refine ifn (dt_eqI (dv_call c1 hr (da_cons (nm 0 rfl) (da_cons (nm 1 rfl) (da_cons (dv_to (dv_div (j := (x.1 : Nat)) (cdN hq.pos (by omega)) (dv_sub (nm 0 rfl) dv_int) (dv_ixT (ds := [.int x.1, u1, u2]) (dv_to (dv_ixT (nm 3 rfl) dv_int atI0) (by rw [eP])) dv_int atI0)) (by rw [ep, ← Int.natCast_ediv])) da_nil))) (fun Φ Ξ h => ⟨p, a, (p - 1) / x.1, rfl, by omega, by omega, haB, h⟩)) dv_int) (fun h => ?_) (fun h => ?_)
      · have hm1 : a ^ ((p - 1) / x.1) % p = 1 := by have := of_decide_eq_true h; rw [ipow_nat] at this; omega
        refine rt (dv_bl.ev (Ret.of0 hM ?_))
        rw [decide_eq_false (fun z : FullBy p a (part (p - 1)) => z x hm hm1)] at hΦ
        exact hΦ
      · have hm1 : a ^ ((p - 1) / x.1) % p ≠ 1 := fun z => of_decide_eq_false h (by rw [ipow_nat, z]; rfl)
        exact dB_nil ⟨_, rfl, rfl, take_all hno hil (by rw [hxe]; exact hm1)⟩
    · rintro δ M' ⟨u, rfl, rfl, hno⟩
      rw [List.length_map, List.take_length] at hno
      rw [decide_eq_true (show FullBy p a (part (p - 1)) from hno)] at hΦ
      have hf := fermat hp (not_dvd_of ha1 ha2)
      refine rt ((dv_to (dv_eqI (dv_call c1 hr (da_cons (nm 0 rfl) (da_cons (nm 1 rfl) (da_cons (dv_to (dv_sub (nm 0 rfl) dv_int) (by rw [ep])) da_nil))) (fun Φ Ξ h => ⟨p, a, p - 1, rfl, by omega, by omega, haB, h⟩)) dv_int) (by rw [ipow_nat, hf]; rfl)).ev (Ret.of0 hM hΦ))
end
end RP

set_option maxRecDepth 100000
set_option maxHeartbeats 4000000
namespace RP
open PySem L2 DL NT
open PySem.W (Frag)
section
variable {P : Program} {w : World} {K : Frag} {mg : Str → Option Value} {base : Heap}
/-! _law_is_paper -/
def sp__law_is_paper (k : Nat) : FSpec := fun ws M Φ _ => ∃ p : Nat, ws = [wi p, .d (paperD (paper p))] ∧ Pr p ∧ p ≤ 2 ^ k ∧ p ≤ 1000000000 ∧ Φ (.d (.bl true)) M
theorem whole_take {l : List (Nat × Nat)} {i : Nat} (hi : i < l.length) : whole (l.take (i + 1)) = whole (l.take i) * l[i].1 ^ l[i].2 := by
  rw [List.take_add_one, List.getElem?_eq_getElem hi, whole_app]
  show _ * (l[i].1 ^ l[i].2 * 1) = _
  rw [Nat.mul_one]
theorem whole_le {l : List (Nat × Nat)} {n : Nat} (h : IsPart n l) (i : Nat) : whole (l.take i) ≤ n := by
  have e : whole (l.take i) * whole (l.drop i) = n := by rw [← whole_app, List.take_append_drop, h.wh]
  have := h.pos
  rcases Nat.eq_zero_or_pos (whole (l.drop i)) with z | z
  · rw [z] at e; omega
  · calc whole (l.take i) ≤ whole (l.take i) * whole (l.drop i) := Nat.le_mul_of_pos_right _ z
      _ = n := e
theorem ok__law_is_paper {k j : Nat} (h1 : 3 ≤ j) (D : DefAt K mg "_law_is_paper" s__law_is_paper ["_law_p", "_law_thing"]) (b1 : mg "isinstance" = none) (b2 : mg "tuple" = none) (b3 : mg "len" = none) (b4 : mg "range" = none) (b5 : mg "any" = none)
    (c1 : Callee P w K mg base 1 "_law_whole" ["_law_found"] sp_int_true) (c2 : Callee P w K mg base 2 "_law_is_full" ["_law_p", "_law_a", "_law_parts"] sp__law_is_full) (c3 : Callee P w K mg base j "_law_is_paper" ["_law_p", "_law_thing"] (sp__law_is_paper k)) :
    Callee P w K mg base (j + 1) "_law_is_paper" ["_law_p", "_law_thing"] (sp__law_is_paper (k + 1)) := by
  refine callee D sc__law_is_paper (fun ws M Φ Ξ h => ?_) fun f cdv A outer s H E hr hk ws M Φ Ξ hM h => ?_
  · obtain ⟨p, rfl, _⟩ := h; rfl
  · obtain ⟨p, rfl, hp, hle, hpB, hΦ⟩ := h
    have hr1 : Room 1 _ := hr.mono (Nat.le_trans (by decide) h1)
    have hr2 : Room 2 _ := hr.mono (Nat.le_trans (by decide) h1)
    have hB := Bg9
    have hp2 := hp.two
    have hN : 1 ≤ p - 1 := by omega
    have hl := part_is hN
    obtain ⟨f1, f2, f3, f4⟩ := lfull_is hp
    have ep : (p : Int) - 1 = ((p - 1 : Nat) : Int) := by omega
    rw [paperD_eq hp]
    generalize hL : (part (p - 1)).map ppD = L
    -- the shape
    refine ifn (k := false) (dt_to (dt_w (dw_or (dt_not (dt_val (dv_isi (k := true) b1 (nm 1 rfl) (dv_ty b2 PyProof.Rows.boot_tuple) (.tup _)))) fun _ => dw_or (dt_neI (dv_lenT b3 (nm 1 rfl)) dv_int) fun _ => dw_or (dt_not (dt_val (dv_call (w := .d (.bl true)) c1 hr1 (da_cons (dv_ixT (nm 1 rfl) dv_int atI0) da_nil) (fun Φ Ξ h => ⟨_, rfl, h⟩)))) fun _ =>
      dw_or1 (dt_not (dt_val (dv_call (w := .d (.bl true)) c1 hr1 (da_cons (dv_ixT (nm 1 rfl) dv_int atI1) da_nil) (fun Φ Ξ h => ⟨_, rfl, h⟩)))))) (by simp)) (fun h => nomatch h) (fun _ => ?_)
    refine ifn (k := false) (dt_to (dt_w (dw_or (dt_neI (dv_ixT (nm 1 rfl) dv_int atI0) (nm 0 rfl)) fun _ => dw_or (dt_not (dt_chain op_le op_lt dv_int (dv_ixT (nm 1 rfl) dv_int atI1) (nm 0 rfl))) fun _ =>
      dw_or1 (dt_not (dt_val (dv_isi (k := true) b1 (dv_ixT (nm 1 rfl) dv_int atI_2) (dv_ty b2 PyProof.Rows.boot_tuple) (.tup _)))))) ?_) (fun h => nomatch h) (fun _ => ?_)
    · have g1 : (1 : Int) ≤ (lfull p : Nat) := by omega
      have g2 : ((lfull p : Nat) : Int) < p := by omega
      simp [g1, g2]
    refine st 2 hk (dv_int.ev ?_)
    refine st 3 hk (dv_int.ev ?_)
    refine dB_cons (dS_for hk (dI_tup ((dv_ixT (nm 1 rfl) dv_int atI_2).ev ⟨_, rfl, fun i δ M' => ∃ (last : Nat) (u v x : Option W), δ = [sI p, sD (.tup [.int p, .int (lfull p), .tup L]), sI last, sI (whole ((part (p - 1)).take i) : Nat), u, v, x] ∧ M' = M ∧ (∀ y ∈ (part (p - 1)).drop i, last < y.1), ⟨1, _, _, _, rfl, rfl, fun y hy => (hl.pr y hy).1.two⟩, fun _ _ _ _ => trivial, ⟨?_, ?_⟩⟩)))
    · rintro i x δ M' hi hx ⟨last, u, v, x6, rfl, rfl, hlast⟩
      have hil : i < (part (p - 1)).length := by have hi' : i < L.length := hi; rw [← hL, List.length_map] at hi'; exact hi'
      have ex : x = .d (ppD (part (p - 1))[i]) := by
        have hx' : (L[i]?).map W.d = some x := hx
        rw [← hL, List.getElem?_map, List.getElem?_eq_getElem hil] at hx'
        exact (Option.some.inj hx').symm
      subst ex
      have hm := List.getElem_mem hil
      have hdr : (part (p - 1)).drop i = (part (p - 1))[i] :: (part (p - 1)).drop (i + 1) := List.drop_eq_getElem_cons hil
      have hup := hl.up
      have hup2 : ∀ y ∈ (part (p - 1)).drop (i + 1), ((part (p - 1))[i]).1 < y.1 := by
        have := List.Pairwise.sublist (List.drop_sublist i _) hup
        rw [hdr] at this
        exact (List.pairwise_cons.mp this).1
      have hw := whole_take hil
      have hwl := whole_le hl (i + 1)
      have hlt : last < ((part (p - 1))[i]).1 := hlast _ (by rw [hdr]; exact List.mem_cons_self)
      generalize (part (p - 1))[i] = x at hm hup2 hw hlt
      obtain ⟨hq, hm1⟩ := hl.pr x hm
      have hd := hl.dvd hm
      have hqp := pr_below hp hq hd
      have hm30 : x.2 < 31 := hl.many_lt (k := 31) (Nat.lt_of_le_of_lt (Nat.le_trans (Nat.sub_le p 1) hpB) (by decide)) hm hN
      have hm31 : x.2 ≤ 30 := by omega
      obtain ⟨u1, u2, eP⟩ := paperD_tup hq
      have hq2k : x.1 ≤ 2 ^ k := by
        rcases Nat.lt_or_ge p 4 with z | z
        · have : x.1 = 2 := by have := hq.two; omega
          have hk0 : k ≠ 0 := fun e => by subst e; omega
          have : 2 ^ 1 ≤ 2 ^ k := Nat.pow_le_pow_right (by decide) (by omega)
          omega
        · have := two_mul_le hp hq hd z
          rw [Nat.pow_succ] at hle
          omega
      refine tg 4 hk ?_
      refine ifn (k := false) (dt_to (dt_w (dw_or (dt_not (dt_val (dv_isi (k := true) b1 (nm 4 rfl) (dv_ty b2 PyProof.Rows.boot_tuple) (.tup _)))) fun _ => dw_or (dt_neI (dv_lenT b3 (nm 4 rfl)) dv_int) fun _ => dw_or (dt_not (dt_val (dv_call (w := .d (.bl true)) c1 hr1 (da_cons (dv_ixT (nm 4 rfl) dv_int atI1) da_nil) (fun Φ Ξ h => ⟨_, rfl, h⟩)))) fun _ =>
        dw_or1 (dt_not (dt_chain op_le op_le dv_int (dv_ixT (nm 4 rfl) dv_int atI1) dv_int)))) ?_) (fun h => nomatch h) (fun _ => ?_)
      · have g1 : (1 : Int) ≤ (x.2 : Nat) := by omega
        have g2 : ((x.2 : Nat) : Int) ≤ 30 := by omega
        simp [g1, g2]
      have eP' : ∀ {X : Cx} {δ : DSt} {M : List MO} {e : Expr} {w : W}, w = .d (paperD (paper x.1)) → dV X e δ M w → dV X e δ M (.d (.tup [.int x.1, u1, u2])) := fun e h => dv_to h (by rw [e, eP])
      refine ifn (k := false) (dt_to (dt_w (dw_or (dt_not (dt_val (dv_isi (k := true) b1 (eP' rfl (dv_ixT (nm 4 rfl) dv_int atI0)) (dv_ty b2 PyProof.Rows.boot_tuple) (.tup _)))) fun _ => dw_or (dt_neI (dv_lenT b3 (eP' rfl (dv_ixT (nm 4 rfl) dv_int atI0))) dv_int) fun _ =>
        dw_or1 (dt_not (dt_val (dv_call (w := .d (.bl true)) c3 hr (da_cons (dv_ixT (eP' rfl (dv_ixT (nm 4 rfl) dv_int atI0)) dv_int atI0) (da_cons (dv_ixT (nm 4 rfl) dv_int atI0) da_nil)) (fun Φ Ξ h => ⟨x.1, rfl, hq, hq2k, by omega, h⟩)))))) (by simp)) (fun h => nomatch h) (fun _ => ?_)
      refine ifn (k := false) (dt_to (dt_le (dv_ixT (eP' rfl (dv_ixT (nm 4 rfl) dv_int atI0)) dv_int atI0) (nm 2 rfl)) (decide_eq_false (by omega))) (fun h => nomatch h) (fun _ => ?_)
      refine st 2 hk ((dv_ixT (eP' rfl (dv_ixT (nm 4 rfl) dv_int atI0)) dv_int atI0).ev ?_)
      refine dB_one (dS_for hk (dI_range1 b4 ((dv_ixT (nm 4 rfl) dv_int atI1).ev ⟨_, rfl, by omega, by omega, fun t δ M2 => ∃ v : Option W, δ = [sI p, sD (.tup [.int p, .int (lfull p), .tup L]), sI (x.1 : Nat), sI (whole ((part (p - 1)).take i) * x.1 ^ t : Nat), sD (ppD x), v, x6] ∧ M2 = M', ⟨v, by rw [Nat.pow_zero, Nat.mul_one]; rfl, rfl⟩, fun _ _ _ _ => trivial, ⟨?_, ?_⟩⟩)))
      · rintro t y δ M2 ht hy ⟨v, rfl, rfl⟩
        have ht' : t < x.2 := by have : t < ((x.2 : Nat) : Int).toNat := ht; omega
        have hyt : W.d (.int t) = y := Option.some.inj hy
        subst hyt
        have hb1 : whole ((part (p - 1)).take i) * x.1 ^ t ≤ p - 1 := by
          refine Nat.le_trans (Nat.mul_le_mul_left _ (Nat.pow_le_pow_right hq.pos (Nat.le_of_lt ht'))) ?_
          rw [← hw]; exact hwl
        refine tg 5 hk (st 3 hk ((dv_mul (cmN (by omega) (by omega)) (nm 3 rfl) (dv_ixT (eP' rfl (dv_ixT (nm 4 rfl) dv_int atI0)) dv_int atI0)).ev (dB_nil ⟨some (.d (.int t)), ?_, rfl⟩)))
        rw [Nat.pow_succ, ← Nat.mul_assoc, Int.natCast_mul (whole ((part (p - 1)).take i) * x.1 ^ t)]
        rfl
      · rintro δ M2 ⟨v, rfl, rfl⟩
        refine ⟨x.1, sD (ppD x), v, x6, ?_, rfl, hup2⟩
        rw [hw]
        rfl
    · rintro δ M' ⟨last, u, v, x6, rfl, rfl, _⟩
      have hlen : L.length = (part (p - 1)).length := by rw [← hL, List.length_map]
      rw [hlen, List.take_length, hl.wh]
      refine ifn (k := false) (dt_to (dt_w (dw_or (dt_neI (nm 3 rfl) (dv_sub (nm 0 rfl) dv_int)) fun _ => dw_or1 (dt_not (dt_val (dv_call (w := .d (.bl true)) c2 hr2 (da_cons (nm 0 rfl) (da_cons (dv_ixT (nm 1 rfl) dv_int atI1) (da_cons (dv_ixT (nm 1 rfl) dv_int atI_2) da_nil))) (fun Φ Ξ h => ⟨p, lfull p, by rw [hL], hp, hpB, f1, f2, by rw [decide_eq_true f3]; exact h⟩)))))) ?_) (fun h => nomatch h) (fun _ => ?_)
      · rw [ep]; simp
      have hany : ∀ n, (List.range n).map (fun _ => DL.D.bl false) = ((List.range n).map fun _ => false).map DL.D.bl := fun n => by rw [List.map_map]; rfl
      have hany2 : ∀ n, ((List.range n).map fun _ => false).any id = false := fun n => by
        simp
      refine rt ((dv_to (dv_not (dv_any hk b5 (dv_to (dv_lc0 (S := ⟨((lfull p : Nat) - 1 : Int).toNat, fun i => some (.d (.int (1 + i))), fun _ => True⟩) hk (tgName K 6) (own := [("_law_a", 6)]) (blkOk_by (N := n__law_is_paper) (sc := defScope s__law_is_paper) (by decide +kernel)) (fun _ _ _ _ _ => pg_name (i := 6) hk.nd rfl (.inl rfl)) (fun _ h => h)
        (fun Ψ Ξ h => dI_range2 b4 (dv_int.ev ((dv_ixT (nm 1 rfl) dv_int atI1).ev ⟨1, _, rfl, rfl, ⟨by decide, by decide, by omega, by omega⟩, h⟩))) (fun _ => trivial) ?_ (fun _ => .bl false) (fun i w hi hw => ?_)) (by rw [hany])))) (by rw [hany2]; rfl)).ev (Ret.of0 hM hΦ))
      · have := lfull_small hp hpB
        show ((lfull p : Nat) - 1 : Int).toNat ≤ 2 ^ 24
        omega
      · have e : W.d (.int (1 + (i : Int))) = w := Option.some.inj hw
        subst e
        have hi' : i < ((lfull p : Nat) - 1 : Int).toNat := hi
        have ei : (1 : Int) + i = ((1 + i : Nat) : Int) := by omega
        have hno : ¬ FullBy p (1 + i) (part (p - 1)) := f4 _ (by omega) (by omega)
        refine ⟨_, rfl, fun s H C cl fp M' => dv_call c2 hr2 (da_cons (nm 0 rfl) (da_cons (nm 6 rfl) (da_cons (dv_ixT (nm 1 rfl) dv_int atI_2) da_nil))) (fun Φ Ξ h => ⟨p, 1 + i, by rw [hL, ei], hp, hpB, by omega, by omega, by rw [decide_eq_false hno]; exact h⟩)⟩
end
end RP

set_option maxRecDepth 100000
set_option maxHeartbeats 4000000
namespace RP
open PySem L2 DL NT
open PySem.W (Frag)
section
variable {P : Program} {w : World} {K : Frag} {mg : Str → Option Value} {base : Heap}
/-! the tower of _law_is_paper -/
theorem law_papers_ok (D : DefAt K mg "_law_is_paper" s__law_is_paper ["_law_p", "_law_thing"]) (b1 : mg "isinstance" = none) (b2 : mg "tuple" = none) (b3 : mg "len" = none) (b4 : mg "range" = none) (b5 : mg "any" = none)
    (c1 : Callee P w K mg base 1 "_law_whole" ["_law_found"] sp_int_true) (c2 : Callee P w K mg base 2 "_law_is_full" ["_law_p", "_law_a", "_law_parts"] sp__law_is_full) :
    ∀ k, Callee P w K mg base (k + 3) "_law_is_paper" ["_law_p", "_law_thing"] (sp__law_is_paper k)
  | 0 => by
    refine callee D sc__law_is_paper (fun ws M Φ Ξ h => ?_) fun f cdv A outer s H E hr hk ws M Φ Ξ hM h => ?_
    · obtain ⟨p, rfl, _⟩ := h; rfl
    · obtain ⟨p, rfl, hp, hle, _⟩ := h
      have := hp.two
      omega
  | k + 1 => ok__law_is_paper (j := k + 3) (by omega) D b1 b2 b3 b4 b5 c1 c2 (law_papers_ok D b1 b2 b3 b4 b5 c1 c2 k)
/-! what is refused -/
inductive Told (cNN cTF cNP : Addr) : Int → Addr → Option (List (Str × V)) → Bool → Bool → Bool → Prop
  | nn {n : Int} : n < 2 → Told cNN cTF cNP n cNN none true false false
  | tf {n : Int} : 1000000000 < n → Told cNN cTF cNP n cTF (some [("part", .int n)]) false true false
  | np {n : Int} : 2 ≤ n → n ≤ 1000000000 → lpf n.toNat < n.toNat → Told cNN cTF cNP n cNP (some [("divisor", .int (lpf n.toNat))]) false false true
theorem Told.pp {cNN cTF cNP c : Addr} {n : Int} {fs : Option (List (Str × V))} {b1 b2 b3 : Bool} (h : Told cNN cTF cNP n c fs b1 b2 b3) {M : List MO} {Φ : WP} {Ξ : DX → List MO → Prop} (hx : Ξ ⟨.ref c, fs⟩ M) : sp_prime_paper cNN cTF cNP [wi n] M Φ Ξ := by
  cases h with
  | nn h => exact ⟨n, rfl, fun _ => hx, fun z => by omega, fun z => by omega, fun z => by omega⟩
  | tf h => exact ⟨n, rfl, fun _ => by omega, fun z => hx, fun _ z => by omega, fun _ z => by omega⟩
  | np h1 h2 h3 =>
    refine ⟨n, rfl, fun _ => by omega, fun z => by omega, fun _ _ _ => hx, fun _ _ hp => ?_⟩
    have := lpf_eq (Lpf.self hp)
    omega
structure ExRow (K : Frag) (cPE cNI cNO cNt cNR cNN cTF cNP c : Addr) (b1 b2 b3 : Bool) : Prop where
  ek : ExcK K c
  m : PySem.W.exmOne K (.ref c) (.ref cPE) = some true
  k1 : PySem.W.kitOne K (.ref c) (.ref cNI) = some false
  k2 : PySem.W.kitOne K (.ref c) (.ref cNO) = some false
  k3 : PySem.W.kitOne K (.ref c) (.ref cNt) = some false
  k4 : PySem.W.kitOne K (.ref c) (.ref cNR) = some false
  k5 : PySem.W.kitOne K (.ref c) (.ref cNN) = some b1
  k6 : PySem.W.kitOne K (.ref c) (.ref cTF) = some b2
  k7 : PySem.W.kitOne K (.ref c) (.ref cNP) = some b3
  k8 : PySem.W.kitOne K (.ref c) (.type "ValueError") = some true
structure ExNames (mg : Str → Option Value) (cPE cNI cNO cNt cNR cNN cTF cNP : Addr) : Prop where
  pe : mg "PrimeError" = some (.ref cPE)
  ni : mg "NoInverse" = some (.ref cNI)
  no : mg "NoOrder" = some (.ref cNO)
  nt : mg "Nought" = some (.ref cNt)
  nr : mg "NoRoot" = some (.ref cNR)
  nn : mg "NoNumber" = some (.ref cNN)
  tf : mg "TooFar" = some (.ref cTF)
  np : mg "NoPrime" = some (.ref cNP)
  ve : mg "ValueError" = none
  isi : mg "isinstance" = none
def sp__law_refused (cNN cTF cNP : Addr) : FSpec := fun ws M Φ _ => ∃ (n : Int) (c : Addr) (fs : Option (List (Str × V))) (b1 b2 b3 : Bool), ws = [wi n] ∧ Told cNN cTF cNP n c fs b1 b2 b3 ∧ Φ (.d (.lst [.bl b1, .bl b2, .bl b3, .bl true, .bl false])) M
theorem ok__law_refused {cPE cNI cNO cNt cNR cNN cTF cNP : Addr} {j : Nat} (D : DefAt K mg "_law_refused" s__law_refused ["_law_n"]) (N : ExNames mg cPE cNI cNO cNt cNR cNN cTF cNP) (c1 : Callee P w K mg base j "prime_paper" ["n"] (sp_prime_paper cNN cTF cNP))
    (R : ∀ n c fs b1 b2 b3, Told cNN cTF cNP n c fs b1 b2 b3 → ExRow K cPE cNI cNO cNt cNR cNN cTF cNP c b1 b2 b3) : Callee P w K mg base (j + 1) "_law_refused" ["_law_n"] (sp__law_refused cNN cTF cNP) := by
  refine callee D sc__law_refused (fun ws M Φ Ξ h => ?_) fun f cdv A outer s H E hr hk ws M Φ Ξ hM h => ?_
  · obtain ⟨n, c, fs, b1, b2, b3, rfl, _⟩ := h; rfl
  · obtain ⟨n, c, fs, b1, b2, b3, rfl, hT, hΦ⟩ := h
    have r := R _ _ _ _ _ _ hT
    refine st 1 hk (dv_non.ev ?_)
    refine dB_cons (dS_try (i := 2) (Ξb := fun y δ' M' => δ' = [sI n, sD .non, none, none] ∧ M' = M ∧ y = ⟨.ref c, fs⟩) hk rfl rfl (names_own N.pe) (fun pn xe hk' => dB_one (dS_expr (dE_call c1 hr ((da_cons (nm 0 rfl) da_nil).av (hT.pp ⟨rfl, rfl, rfl⟩))))) (fun y δ' M' h => ?_))
    obtain ⟨rfl, rfl, rfl⟩ := h
    refine ⟨true, r.m, (fun h => nomatch h), fun _ a oe dd pn hz hf => ?_⟩
    refine stS 3 hk.nd ((dv_or (k := false) (l := false) (dv_isX r.ek hz hf N.isi (nm 2 rfl) (dv_cls N.ni) rel_cls r.k1) fun _ => dv_or (k := false) (l := false) (dv_isX r.ek hz hf N.isi (nm 2 rfl) (dv_cls N.no) rel_cls r.k2) fun _ =>
      dv_or (k := false) (l := false) (dv_isX r.ek hz hf N.isi (nm 2 rfl) (dv_cls N.nt) rel_cls r.k3) fun _ => dv_one (dv_isX r.ek hz hf N.isi (nm 2 rfl) (dv_cls N.nr) rel_cls r.k4)).ev ?_)
    refine stS 1 hk.nd ((dv_lst (ds := [.bl b1, .bl b2, .bl b3]) (da_cons (dv_isX r.ek hz hf N.isi (nm 2 rfl) (dv_cls N.nn) rel_cls r.k5) (da_cons (dv_isX r.ek hz hf N.isi (nm 2 rfl) (dv_cls N.tf) rel_cls r.k6)
      (da_cons (dv_isX r.ek hz hf N.isi (nm 2 rfl) (dv_cls N.np) rel_cls r.k7) da_nil)))).ev ?_)
    refine stS 1 hk.nd ((dv_cat (ds := [.bl b1, .bl b2, .bl b3]) (es' := [.bl true, .bl false]) (nm 1 rfl) (dv_lst (ds := [.bl true, .bl false]) (da_cons (dv_isX r.ek hz hf N.isi (nm 2 rfl) (dv_ty N.ve rfl) rel_ty r.k8) (da_cons (nm 3 rfl) da_nil))) (by show 5 ≤ sizeLine; decide)).ev (dB_nil ?_))
    exact rt ((nm 1 rfl).ev (Ret.of0 hM hΦ))
def sp__law_divisor : FSpec := fun ws M Φ _ => ∃ n : Nat, ws = [wi n] ∧ 2 ≤ n ∧ n ≤ 1000000000 ∧ lpf n < n ∧ Φ (wi (lpf n)) M
theorem ok__law_divisor {cNN cTF cNP : Addr} {j : Nat} (D : DefAt K mg "_law_divisor" s__law_divisor ["_law_n"]) (g : mg "NoPrime" = some (.ref cNP)) (c1 : Callee P w K mg base j "prime_paper" ["n"] (sp_prime_paper cNN cTF cNP))
    (m : PySem.W.exmOne K (.ref cNP) (.ref cNP) = some true) (T : XfC K cNP) (hno : PySem.W.findIn K (.ref cNP) "divisor" = some none) : Callee P w K mg base (j + 1) "_law_divisor" ["_law_n"] sp__law_divisor := by
  refine callee D sc__law_divisor (fun ws M Φ Ξ h => ?_) fun f cdv A outer s H E hr hk ws M Φ Ξ hM h => ?_
  · obtain ⟨n, rfl, _⟩ := h; rfl
  · obtain ⟨n, rfl, h2, hB, hl, hΦ⟩ := h
    have hT : Told cNN cTF cNP n cNP (some [("divisor", .int (lpf n : Nat))]) false false true := Told.np (n := (n : Int)) (by omega) (by omega) hl
    refine st 1 hk (dv_non.ev ?_)
    refine dB_cons (dS_try (i := 2) (Ξb := fun y δ' M' => δ' = [sI n, sD .non, none] ∧ M' = M ∧ y = ⟨.ref cNP, some [("divisor", .int (lpf n : Nat))]⟩) hk rfl rfl (names_own g) (fun pn xe hk' => dB_one (dS_expr (dE_call c1 hr ((da_cons (nm 0 rfl) da_nil).av (hT.pp ⟨rfl, rfl, rfl⟩))))) (fun y δ' M' h => ?_))
    obtain ⟨rfl, rfl, rfl⟩ := h
    refine ⟨true, m, (fun h => nomatch h), fun _ a oe dd pn hz hf => ?_⟩
    refine stS 1 hk.nd ((dv_xf (d := .int (lpf n : Nat)) T hno hz hf (nm 2 rfl) rfl (fun _ _ => .int _)).ev (dB_nil ?_))
    exact rt ((nm 1 rfl).ev (Ret.of0 hM hΦ))
def sp__law_part : FSpec := fun ws M Φ _ => ∃ n : Int, ws = [wi n] ∧ 1000000000 < n ∧ Φ (wi n) M
theorem ok__law_part {cNN cTF cNP : Addr} {j : Nat} (D : DefAt K mg "_law_part" s__law_part ["_law_n"]) (g : mg "TooFar" = some (.ref cTF)) (c1 : Callee P w K mg base j "prime_paper" ["n"] (sp_prime_paper cNN cTF cNP))
    (m : PySem.W.exmOne K (.ref cTF) (.ref cTF) = some true) (T : XfC K cTF) (hno : PySem.W.findIn K (.ref cTF) "part" = some none) : Callee P w K mg base (j + 1) "_law_part" ["_law_n"] sp__law_part := by
  refine callee D sc__law_part (fun ws M Φ Ξ h => ?_) fun f cdv A outer s H E hr hk ws M Φ Ξ hM h => ?_
  · obtain ⟨n, rfl, _⟩ := h; rfl
  · obtain ⟨n, rfl, h2, hΦ⟩ := h
    have hT : Told cNN cTF cNP n cTF (some [("part", .int n)]) false true false := Told.tf h2
    refine st 1 hk (dv_non.ev ?_)
    refine dB_cons (dS_try (i := 2) (Ξb := fun y δ' M' => δ' = [sI n, sD .non, none] ∧ M' = M ∧ y = ⟨.ref cTF, some [("part", .int n)]⟩) hk rfl rfl (names_own g) (fun pn xe hk' => dB_one (dS_expr (dE_call c1 hr ((da_cons (nm 0 rfl) da_nil).av (hT.pp ⟨rfl, rfl, rfl⟩))))) (fun y δ' M' h => ?_))
    obtain ⟨rfl, rfl, rfl⟩ := h
    refine ⟨true, m, (fun h => nomatch h), fun _ a oe dd pn hz hf => ?_⟩
    refine stS 1 hk.nd ((dv_xf (d := .int n) T hno hz hf (nm 2 rfl) rfl (fun _ _ => .int _)).ev (dB_nil ?_))
    exact rt ((nm 1 rfl).ev (Ret.of0 hM hΦ))
/-! _law_right -/
def sp__law_right : FSpec := fun ws M Φ _ => ∃ n : Nat, ws = [wi n] ∧ 2 ≤ n ∧ n ≤ 1000000000 ∧ Φ (.d (.bl true)) M
theorem ok__law_right {cNN cTF cNP : Addr} {j : Nat} (D : DefAt K mg "_law_right" s__law_right ["_law_n"]) (c1 : Callee P w K mg base j "_law_least" ["_law_n"] sp__law_least) (c2 : Callee P w K mg base j "_law_is_paper" ["_law_p", "_law_thing"] (sp__law_is_paper 30))
    (c3 : Callee P w K mg base j "prime_paper" ["n"] (sp_prime_paper cNN cTF cNP)) (c4 : Callee P w K mg base j "_law_divisor" ["_law_n"] sp__law_divisor) (c5 : Callee P w K mg base j "_law_refused" ["_law_n"] (sp__law_refused cNN cTF cNP)) (c6 : Callee P w K mg base j "_law_whole" ["_law_found"] sp_int_true) :
    Callee P w K mg base (j + 1) "_law_right" ["_law_n"] sp__law_right := by
  refine callee D sc__law_right (fun ws M Φ Ξ h => ?_) fun f cdv A outer s H E hr hk ws M Φ Ξ hM h => ?_
  · obtain ⟨n, rfl, _⟩ := h; rfl
  · obtain ⟨n, rfl, h2, hB, hΦ⟩ := h
    have hq := lpf_is (n := n) (by omega)
    have hle := hq.le (by omega)
    refine st 1 hk ((dv_call (w := wi (lpf n)) c1 hr (da_cons (nm 0 rfl) da_nil) (fun Φ Ξ h => ⟨n, rfl, h2, Nat.lt_of_le_of_lt hB (by decide +kernel), h⟩)).ev ?_)
    refine ifn (dt_eqI (nm 1 rfl) (nm 0 rfl)) (fun h => ?_) (fun h => ?_)
    · have e : lpf n = n := by have := of_decide_eq_true h; omega
      have hp : Pr n := e ▸ hq.pr
      exact rt ((dv_call (w := .d (.bl true)) c2 hr (da_cons (nm 0 rfl) (da_cons (dv_call (w := .d (paperD (paper n))) c3 hr (da_cons (nm 0 rfl) da_nil) (fun Φ Ξ h => ⟨n, rfl, fun z => by omega, fun z => by omega, fun _ _ z => by exfalso; have z' : lpf n < n := z; have := lpf_eq (Lpf.self hp); omega, fun _ _ _ => h⟩)) da_nil)) (fun Φ Ξ h => ⟨n, rfl, hp, by omega, hB, h⟩)).ev (Ret.of0 hM hΦ))
    · have e : lpf n < n := by have := of_decide_eq_false h; omega
      refine st 2 hk ((dv_call (w := wi (lpf n)) c4 hr (da_cons (nm 0 rfl) da_nil) (fun Φ Ξ h => ⟨n, rfl, h2, hB, e, h⟩)).ev ?_)
      refine rt ((dv_to (dv_and (k := true) (l := true) (dv_eqD (x := .lst [.bl false, .bl false, .bl true, .bl true, .bl false]) (y := .lst [.bl false, .bl false, .bl true, .bl true, .bl false]) hr.units (dv_call c5 hr (da_cons (nm 0 rfl) da_nil) (fun Φ Ξ h => ⟨n, cNP, _, false, false, true, rfl, Told.np (by omega) (by omega) e, h⟩))
        (dv_lst (ds := [.bl false, .bl false, .bl true, .bl true, .bl false]) (da_cons dv_bl (da_cons dv_bl (da_cons dv_bl (da_cons dv_bl (da_cons dv_bl da_nil)))))) rfl) fun _ => dv_and (k := true) (l := true) (dv_call (w := .d (.bl true)) c6 hr (da_cons (nm 2 rfl) da_nil) (fun Φ Ξ h => ⟨_, rfl, h⟩)) fun _ => dv_one (dv_to (dv_eqI (nm 2 rfl) (nm 1 rfl)) (by simp))) rfl).ev (Ret.of0 hM hΦ))
end
end RP

set_option maxRecDepth 100000
set_option maxHeartbeats 4000000
namespace RP
open PySem L2 DL NT
open PySem.W (Frag)
def noDiv (n : Nat) : Nat → Nat → Bool
  | 0, _ => true
  | f + 1, k => if n % k = 0 then false else noDiv n f (k + 1)
theorem noDiv_ok {n : Nat} : ∀ (f k : Nat), noDiv n f k = true → ∀ d, k ≤ d → d < k + f → ¬ d ∣ n
  | 0, _, _, _, h1, h2 => by omega
  | f + 1, k, h, d, h1, h2 => by
    unfold noDiv at h
    by_cases e : n % k = 0
    · rw [if_pos e] at h; cases h
    · rw [if_neg e] at h
      rcases Nat.eq_or_lt_of_le h1 with z | z
      · subst z
        exact fun y => e (Nat.mod_eq_zero_of_dvd y)
      · exact noDiv_ok f (k + 1) h d z (by omega)
theorem big_pr : Pr 999999937 := by
  have h : noDiv 999999937 31622 2 = true := by decide +kernel
  exact lpf_root (n := 999999937) (d := 31624) (by decide) (by decide) fun k h1 h2 => noDiv_ok _ _ h k h1 (by omega)
section
variable {P : Program} {w : World} {K : Frag} {mg : Str → Option Value} {base : Heap}
def sp_law : FSpec := fun ws M Φ _ => ∃ ns : List Int, ws = [.d (.scr ns)] ∧ Φ (.d (.bl true)) M
theorem atI_3 {D : Type} {a b c e : D} {l : List D} : atI (a :: b :: c :: e :: l) 3 = some e := atI_nat (j := 3) rfl
theorem atI4 (i : Int) : ∃ r : Nat, atI [DL.D.int 999, .int 999, .int 999, .int (10 ^ (Int.toNat 5))] (i % 4) = some (.int r) ∧ 1 ≤ r ∧ r ≤ 100000 := by
  have h : i % 4 = 0 ∨ i % 4 = 1 ∨ i % 4 = 2 ∨ i % 4 = 3 := by omega
  rcases h with e | e | e | e
  · exact ⟨999, by rw [e]; rfl, by decide, by decide⟩
  · exact ⟨999, by rw [e]; rfl, by decide, by decide⟩
  · exact ⟨999, by rw [e]; rfl, by decide, by decide⟩
  · exact ⟨100000, by rw [e]; rfl, by decide, by decide⟩
theorem ok_law {cNN cTF cNP : Addr} {j : Nat} {f : Addr} {fd : FuncData} (F : Fun K "law" "law" s_law f fd) (br : mg "range" = none) (ba : mg "all" = none)
    (c1 : Callee P w K mg base j "_law_draws" ["_law_cell", "_law_many"] sp__law_draws) (c2 : Callee P w K mg base j "_law_least" ["_law_n"] sp__law_least) (c3 : Callee P w K mg base j "_law_right" ["_law_n"] sp__law_right)
    (c4 : Callee P w K mg base j "_law_refused" ["_law_n"] (sp__law_refused cNN cTF cNP)) (c5 : Callee P w K mg base j "_law_part" ["_law_n"] sp__law_part) (c6 : Callee P w K mg base j "_law_whole" ["_law_found"] sp_int_true) : FnOk P w K mg base (L2.CX P w) (j + 1) f fd ["_law_script"] (spD K sp_law) := by
  refine fnok_of F sc_law (fun ws M Φ Ξ h => ?_) fun cdv A outer s H E hr hk ws M Φ Ξ hM h => ?_
  · obtain ⟨n, rfl, _⟩ := h; rfl
  · obtain ⟨ns, rfl, hΦ⟩ := h
    refine dB_cons (dS_for hk (dI_list (dE_sl sl_list ((nm 0 rfl).ev (dO_none (dO_some (dv_int.ev ⟨4, rfl, rslScr ⟨_, fun _ => True, fun _ _ => .d _, trivial, fun i δ M' => ∃ u1 u2 u3 u4 u5 : Option W, δ = [sD (.scr ns), u1, u2, u3, u4, u5] ∧ M' = M, ⟨none, none, none, none, none, rfl, rfl⟩, fun _ _ _ _ => trivial, ⟨?_, ?_⟩⟩⟩)))))))
    · rintro i x δ M' hi hx ⟨u1, u2, u3, u4, u5, rfl, rfl⟩
      obtain ⟨c, rfl⟩ : ∃ c : Int, x = wi c := by
        have hx' : (((cutA ns none (some 4)).map DL.D.int).map W.d)[i]? = some x := hx
        rw [List.map_map, List.getElem?_map] at hx'
        cases e : (cutA ns none (some 4))[i]? with
        | none => rw [e] at hx'; cases hx'
        | some c => rw [e] at hx'; exact ⟨c, (Option.some.inj hx').symm⟩
      refine tg 1 hk (st 2 hk (dE_call c1 hr ((da_cons (nm 1 rfl) (da_cons dv_int da_nil)).av ⟨c, rfl, fun a b c' d ha hb hc hd => ?_⟩)))
      obtain ⟨r, hr4, h1, h2⟩ := atI4 b
      have h5 : CPow 10 5 := ⟨by decide, by decide, by decide⟩
      have h9 : CPow 10 9 := ⟨by decide, by decide, by decide⟩
      have h60 : CPow 10 60 := ⟨by decide, by decide, by decide⟩
      have hr0 : (0 : Int) < r := by omega
      have m1 := Int.emod_nonneg a (b := (r : Int)) (by omega)
      have m2 := Int.emod_lt_of_pos a (b := (r : Int)) hr0
      have m3 := Int.emod_nonneg a (b := 999999936) (by omega)
      have m4 := Int.emod_lt_of_pos a (b := 999999936) (by omega)
      refine st 3 hk ((dv_add dv_int (dv_mod hr0 (dv_ixD (nm 2 rfl) dv_int atI0) (dv_ixD (dv_lst (ds := [.int 999, .int 999, .int 999, .int (10 ^ (Int.toNat 5))]) (da_cons dv_int (da_cons dv_int (da_cons dv_int (da_cons (dv_pow h5 dv_int dv_int) da_nil))))) (dv_mod (by decide) (dv_ixD (nm 2 rfl) dv_int atI1) dv_int) hr4))).ev ?_)
      -- if ..: n = 2 + a % 999999936
      refine ifj (fun δ' M2 => ∃ n : Nat, δ' = [sD (.scr ns), sI c, sD (.lst [.int a, .int b, .int c', .int d]), sI n, u4, u5] ∧ M2 = M' ∧ 2 ≤ n ∧ n ≤ 999999937) (dt_eqI (dv_mod (by decide) (dv_div (cdL) (dv_ixD (nm 2 rfl) dv_int atI1) dv_int) dv_int) dv_int) (fun h => ?_) (fun h => ?_) ?_
      · refine st 3 hk ((dv_add dv_int (dv_mod (by decide) (dv_ixD (nm 2 rfl) dv_int atI0) dv_int)).ev (dB_nil ⟨(2 + a % 999999936).toNat, ?_, rfl, by omega, by omega⟩))
        rw [show (((2 + a % 999999936).toNat : Nat) : Int) = 2 + a % 999999936 by omega]
        rfl
      · refine dB_nil ⟨(2 + a % r).toNat, ?_, rfl, by omega, by omega⟩
        rw [show (((2 + a % r).toNat : Nat) : Int) = 2 + a % r by omega]
        rfl
      · rintro δ M2 ⟨n0, rfl, rfl, hn1, hn2⟩
        -- the least prime from there on
        refine ifj (fun δ' M3 => ∃ n : Nat, δ' = [sD (.scr ns), sI c, sD (.lst [.int a, .int b, .int c', .int d]), sI n, u4, u5] ∧ M3 = M2 ∧ 2 ≤ n ∧ n ≤ 999999937) (dt_eqI (dv_mod (by decide) (dv_div (cdL) (dv_ixD (nm 2 rfl) dv_int atI1) dv_int) dv_int) dv_int) (fun h => ?_) (fun h => dB_nil ⟨n0, rfl, rfl, hn1, hn2⟩) ?_
        · refine dB_one (dS_while hk (fun m δ' M3 => ∃ n : Nat, m = 999999937 - n ∧ δ' = [sD (.scr ns), sI c, sD (.lst [.int a, .int b, .int c', .int d]), sI n, u4, u5] ∧ M3 = M2 ∧ 2 ≤ n ∧ n ≤ 999999937) (999999937 - n0) ⟨n0, rfl, rfl, rfl, hn1, hn2⟩ fun m δ' M3 hI => ?_)
          obtain ⟨n, rfl, rfl, rfl, g1, g2⟩ := hI
          refine (dt_lt (dv_call (w := wi (lpf n)) c2 hr (da_cons (nm 3 rfl) da_nil) (fun Φ Ξ h => ⟨n, rfl, g1, Nat.lt_of_le_of_lt g2 (by decide +kernel), h⟩)) (nm 3 rfl)).tv ⟨fun h => ?_, fun h => ⟨n, rfl, rfl, g1, g2⟩⟩
          have hlt : lpf n < n := by have z : ((lpf n : Nat) : Int) < n := of_decide_eq_true h; omega
          have hne : n ≠ 999999937 := fun e => by
            have z := lpf_eq (Lpf.self big_pr)
            rw [e, z] at hlt
            exact Nat.lt_irrefl _ hlt
          exact st 3 hk ((dv_add (nm 3 rfl) dv_int).ev (dB_nil ⟨_, (by omega), n + 1, rfl, by rw [Int.natCast_add]; rfl, rfl, by omega, by omega⟩))
        · rintro δ M3 ⟨n, rfl, rfl, g1, g2⟩
          refine ifn (k := false) (dt_to (dt_not (dt_val (dv_call (w := .d (.bl true)) c3 hr (da_cons (nm 3 rfl) da_nil) (fun Φ Ξ h => ⟨n, rfl, g1, by omega, h⟩)))) rfl) (fun h => nomatch h) (fun _ => ?_)
          have m5 := Int.emod_nonneg c' (b := 5) (by omega)
          have m6 := Int.emod_nonneg d (b := 9) (by omega)
          have m7 := Int.emod_nonneg d (b := 10 ^ 60 - 2 * 10 ^ 9) (by decide)
          obtain ⟨x1, hx1, hx1'⟩ := atI2 (c' % 5) c' (b / 128)
          obtain ⟨x2, hx2, hx2'⟩ := atI2 (d % 9) (d % (10 ^ (Int.toNat 60) - 2 * 10 ^ (Int.toNat 9))) (b / 256)
          have p1 : 0 ≤ x1 := by rcases hx1' with e | e <;> omega
          have p2 : 0 ≤ x2 := by
            rcases hx2' with e | e
            · rw [e]; exact m6
            · rw [e]; exact m7
          refine st 4 hk ((dv_sub dv_int (dv_ixD (dv_lst (ds := [.int (c' % 5), .int c']) (da_cons (dv_mod (by decide) (dv_ixD (nm 2 rfl) dv_int atI_2) dv_int) (da_cons (dv_ixD (nm 2 rfl) dv_int atI_2) da_nil))) (dv_mod (by decide) (dv_div (cdL) (dv_ixD (nm 2 rfl) dv_int atI1) dv_int) dv_int) hx1)).ev ?_)
          refine st 5 hk ((dv_add (dv_add (dv_pow h9 dv_int dv_int) dv_int) (dv_ixD (dv_lst (ds := [.int (d % 9), .int (d % (10 ^ (Int.toNat 60) - 2 * 10 ^ (Int.toNat 9)))]) (da_cons (dv_mod (by decide) (dv_ixD (nm 2 rfl) dv_int atI_3) dv_int) (da_cons (dv_mod (by decide) (dv_ixD (nm 2 rfl) dv_int atI_3) (dv_sub (dv_pow h60 dv_int dv_int) (dv_mul (cmN (by decide) (by decide)) dv_int (dv_pow h9 dv_int dv_int)))) da_nil))) (dv_mod (by decide) (dv_div (cdL) (dv_ixD (nm 2 rfl) dv_int atI1) dv_int) dv_int) hx2)).ev ?_)
          have lo : 1 - x1 < 2 := by omega
          have hi2 : 1000000000 < (10 : Int) ^ (Int.toNat 9) + 1 + x2 := by
            have : (10 : Int) ^ (Int.toNat 9) = 1000000000 := by decide
            omega
          generalize (10 : Int) ^ (Int.toNat 9) + 1 + x2 = above at hi2
          refine ifn (k := false) (dt_neD (x := .lst [.bl true, .bl false, .bl false, .bl true, .bl false]) (y := .lst [.bl true, .bl false, .bl false, .bl true, .bl false]) hr.units (dv_call c4 hr (da_cons (nm 4 rfl) da_nil) (fun Φ Ξ h => ⟨1 - x1, cNN, none, true, false, false, rfl, Told.nn lo, h⟩))
            (dv_lst (ds := [.bl true, .bl false, .bl false, .bl true, .bl false]) (da_cons dv_bl (da_cons dv_bl (da_cons dv_bl (da_cons dv_bl (da_cons dv_bl da_nil)))))) rfl) (fun h => nomatch h) (fun _ => ?_)
          refine ifn (k := false) (dt_neD (x := .lst [.bl false, .bl true, .bl false, .bl true, .bl false]) (y := .lst [.bl false, .bl true, .bl false, .bl true, .bl false]) hr.units (dv_call c4 hr (da_cons (nm 5 rfl) da_nil) (fun Φ Ξ h => ⟨above, cTF, _, false, true, false, rfl, Told.tf hi2, h⟩))
            (dv_lst (ds := [.bl false, .bl true, .bl false, .bl true, .bl false]) (da_cons dv_bl (da_cons dv_bl (da_cons dv_bl (da_cons dv_bl (da_cons dv_bl da_nil)))))) rfl) (fun h => nomatch h) (fun _ => ?_)
          exact dB_one (ds_if (k := false) (dt_to (dt_w (dw_or (dt_neI (dv_call (w := wi above) c5 hr (da_cons (nm 5 rfl) da_nil) (fun Φ Ξ h => ⟨above, rfl, hi2, h⟩)) (nm 5 rfl)) fun _ => dw_or1 (dt_not (dt_val (dv_call (w := .d (.bl true)) c6 hr (da_cons (dv_call (w := wi above) c5 hr (da_cons (nm 5 rfl) da_nil) (fun Φ Ξ h => ⟨above, rfl, hi2, h⟩)) da_nil) (fun Φ Ξ h => ⟨above, rfl, h⟩)))))) (by simp)) (fun h => nomatch h) (fun _ => dB_nil ⟨_, _, _, _, _, rfl, rfl⟩))
    · rintro δ M' ⟨u1, u2, u3, u4, u5, rfl, rfl⟩
      refine rt ((dv_to (dv_all (bs := List.replicate 7 true) hk ba (dv_to (dv_lc0 (S := ⟨7, fun i => ([DL.D.int 2, .int 3, .int 4, .int 7, .int 561, .int 999999999, .int (10 ^ (Int.toNat 9))][i]?).map W.d, fun _ => True⟩) hk (tgName K 3) (own := [("_law_n", 3)]) (blkOk_by (N := n_law) (sc := defScope s_law) (by decide +kernel)) (fun _ _ _ _ _ => pg_name (i := 3) hk.nd rfl (.inl rfl)) (fun _ h => h)
        (fun Ψ Ξ h => dI_tup ((dv_tup (ds := [.int 2, .int 3, .int 4, .int 7, .int 561, .int 999999999, .int (10 ^ (Int.toNat 9))]) (da_cons dv_int (da_cons dv_int (da_cons dv_int (da_cons dv_int (da_cons dv_int (da_cons dv_int (da_cons (dv_pow ⟨by decide, by decide, by decide⟩ dv_int dv_int) da_nil)))))))).ev ⟨_, rfl, h⟩)) (fun _ => trivial) (by decide) (fun _ => .bl true) (fun i w hi hw => ?_)) rfl)) rfl).ev (Ret.of0 hM hΦ))
      obtain ⟨n, rfl, g1, g2⟩ : ∃ n : Nat, w = wi n ∧ 2 ≤ n ∧ n ≤ 1000000000 := by
        have hi7 : i < 7 := hi
        rcases i with _ | _ | _ | _ | _ | _ | _ | i
        · exact ⟨2, (Option.some.inj hw).symm, by decide, by decide⟩
        · exact ⟨3, (Option.some.inj hw).symm, by decide, by decide⟩
        · exact ⟨4, (Option.some.inj hw).symm, by decide, by decide⟩
        · exact ⟨7, (Option.some.inj hw).symm, by decide, by decide⟩
        · exact ⟨561, (Option.some.inj hw).symm, by decide, by decide⟩
        · exact ⟨999999999, (Option.some.inj hw).symm, by decide, by decide⟩
        · exact ⟨1000000000, (Option.some.inj hw).symm, by decide, by decide⟩
        · omega
      exact ⟨_, rfl, fun s H C cl fp M' => dv_call c3 hr (da_cons (nm 3 rfl) da_nil) (fun Φ Ξ h => ⟨n, rfl, g1, g2, h⟩)⟩
end
end RP

set_option maxRecDepth 100000
set_option maxHeartbeats 4000000
namespace RP
open PySem L2 DL NT
open PySem.W (Frag)
section
variable {P : Program} {w : World} {K : Frag} {mg : Str → Option Value} {base : Heap}
theorem exc_TooFar {C cPE fI : Addr} {mc : Value} {od an : Option Addr} {sl : Array (Option Value)} {oc kV dc pm cd ct : Value} (T : OexC K C) (hno : PySem.W.findIn K (.ref C) "part" = some none) (g : mg "TooFar" = some (.ref C)) (gPE : mg "PrimeError" = some (.ref cPE)) (r : ClX.CRead K cPE mc)
    (k : PySem.W.findCls K (.ref cPE) mc "__init__" = some (.val (.builtin "ValueError.__init__"))) (h1 : PySem.W.findIn K (.ref C) "__init__" = some (some (.ref fI))) (h2 : PySem.W.typeIn K (.ref fI) = some (.type "function"))
    (l : K.lookup fI = some ⟨oc, od, .func (PySem.W.fnOf "__init__" "TooFar.__init__" (defArgs m_TooFar___init__) (defBody m_TooFar___init__) (defScope m_TooFar___init__) .none kV dc pm an cd ct), sl⟩) (c : PySem.W.codeIn K cd "TooFar.__init__" = true) (kk : PySem.W.keepIn K (.ref fI) = true) : ExcI P w K mg base 1 "TooFar" C 1 (fun xs => match xs with | [x] => [("part", x)] | _ => []) := by
  have F := fun_mk (st := m_TooFar___init__) l c kk
  have b := F.binds (ps := ["self", "part"]) fun _ _ _ _ _ _ us hl => match us, hl with | [_, _], _ => rfl
  refine ⟨g, T, fI, _, _, h1, h2, F.ok sc_TooFar___init__ (fun vs H Q E h => h.1) (fun cdv A outer s H vs Q E hr h => ?_), b⟩
  obtain ⟨hl, a, xs, rfl, ha, q⟩ := h
  obtain ⟨x, rfl⟩ : ∃ x, xs = [x] := match xs, hl with | [x], _ => ⟨x, rfl⟩
  refine ⟨_, pss_cons (ps_expr (pe_ovinit (by rfl) gPE r k (pa_cons (pv 0) (pa_cons pe_str pa_nil)))) (pss_one (ps_ost (pv 0) (pv 1))), ?_⟩
  refine ⟨_, rfl, a, C, _, rfl, by decide, T, ha, ?_⟩
  refine ⟨_, rfl, _, rfl, a, C, rfl, T, hno, .inl ⟨ha, fun dx hdx hne => ?_⟩⟩
  exact q dx _ hdx hne upd_same (by rw [upd_ne hne, upd_same]) fun b h1 h2 => by rw [upd_ne h1, upd_ne h2]
theorem exc_NoPrime {C cPE fI : Addr} {mc : Value} {od an : Option Addr} {sl : Array (Option Value)} {oc kV dc pm cd ct : Value} (T : OexC K C) (hno : PySem.W.findIn K (.ref C) "divisor" = some none) (g : mg "NoPrime" = some (.ref C)) (gPE : mg "PrimeError" = some (.ref cPE)) (r : ClX.CRead K cPE mc)
    (k : PySem.W.findCls K (.ref cPE) mc "__init__" = some (.val (.builtin "ValueError.__init__"))) (h1 : PySem.W.findIn K (.ref C) "__init__" = some (some (.ref fI))) (h2 : PySem.W.typeIn K (.ref fI) = some (.type "function"))
    (l : K.lookup fI = some ⟨oc, od, .func (PySem.W.fnOf "__init__" "NoPrime.__init__" (defArgs m_NoPrime___init__) (defBody m_NoPrime___init__) (defScope m_NoPrime___init__) .none kV dc pm an cd ct), sl⟩) (c : PySem.W.codeIn K cd "NoPrime.__init__" = true) (kk : PySem.W.keepIn K (.ref fI) = true) : ExcI P w K mg base 1 "NoPrime" C 1 (fun xs => match xs with | [x] => [("divisor", x)] | _ => []) := by
  have F := fun_mk (st := m_NoPrime___init__) l c kk
  have b := F.binds (ps := ["self", "divisor"]) fun _ _ _ _ _ _ us hl => match us, hl with | [_, _], _ => rfl
  refine ⟨g, T, fI, _, _, h1, h2, F.ok sc_NoPrime___init__ (fun vs H Q E h => h.1) (fun cdv A outer s H vs Q E hr h => ?_), b⟩
  obtain ⟨hl, a, xs, rfl, ha, q⟩ := h
  obtain ⟨x, rfl⟩ : ∃ x, xs = [x] := match xs, hl with | [x], _ => ⟨x, rfl⟩
  refine ⟨_, pss_cons (ps_expr (pe_ovinit (by rfl) gPE r k (pa_cons (pv 0) (pa_cons pe_str pa_nil)))) (pss_one (ps_ost (pv 0) (pv 1))), ?_⟩
  refine ⟨_, rfl, a, C, _, rfl, by decide, T, ha, ?_⟩
  refine ⟨_, rfl, _, rfl, a, C, rfl, T, hno, .inl ⟨ha, fun dx hdx hne => ?_⟩⟩
  exact q dx _ hdx hne upd_same (by rw [upd_ne hne, upd_same]) fun b h1 h2 => by rw [upd_ne h1, upd_ne h2]
theorem cls_some {d : Addr} (h2 : PySem.W.isClsIn K d = true) : (PySem.W.clsIn K d).isSome = true := h2
theorem exm_of {c d : Addr} {b : Bool} (h1 : PySem.W.subIn K (.ref d) (.type "BaseException") = some true) (h2 : PySem.W.isClsIn K d = true) (h3 : PySem.W.typeIn K (.ref d) = some (.type "type")) (h4 : PySem.W.subIn K (.ref c) (.ref d) = some b) : PySem.W.exmOne K (.ref c) (.ref d) = some b := by
  have e1 : (PySem.W.subIn K (.ref d) (.type "BaseException") == some true) = true := by rw [h1] <;> rfl
  have e2 : ((PySem.W.clsIn K d).isSome && PySem.W.typeIn K (.ref d) == some (.type "type")) = true := by
    have h2' : (PySem.W.clsIn K d).isSome = true := h2
    rw [h2', h3] <;> rfl
  show (if (PySem.W.subIn K (.ref d) (.type "BaseException") == some true) = true then (if ((PySem.W.clsIn K d).isSome && PySem.W.typeIn K (.ref d) == some (.type "type")) = true then PySem.W.subIn K (.ref c) (.ref d) else none) else none) = some b
  rw [if_pos e1, if_pos e2]
  exact h4
theorem kit_of {c d : Addr} {b : Bool} (hb : c = d → b = true) (h2 : PySem.W.isClsIn K d = true) (h3 : PySem.W.typeIn K (.ref d) = some (.type "type")) (h4 : PySem.W.subIn K (.ref c) (.ref d) = some b) : PySem.W.kitOne K (.ref c) (.ref d) = some b := by
  have e2 : ((PySem.W.clsIn K d).isSome && PySem.W.typeIn K (.ref d) == some (.type "type")) = true := by
    have h2' : (PySem.W.clsIn K d).isSome = true := h2
    rw [h2', h3] <;> rfl
  show (if ((Value.ref c : Value) == Value.ref d) = true then some true else (if ((PySem.W.clsIn K d).isSome && PySem.W.typeIn K (.ref d) == some (.type "type")) = true then PySem.W.subIn K (.ref c) (.ref d) else none)) = some b
  by_cases e : ((Value.ref c : Value) == Value.ref d) = true
  · have ecd : c = d := by simpa using e
    rw [if_pos e, hb ecd]
  · rw [if_neg e, if_pos e2]
    exact h4
theorem kit_ve {c : Addr} {b : Bool} (h4 : PySem.W.subIn K (.ref c) (.type "ValueError") = some b) : PySem.W.kitOne K (.ref c) (.type "ValueError") = some b := by
  show (if ((Value.ref c : Value) == Value.type "ValueError") = true then some true else (if PySem.W.kitMeta "ValueError" = true then PySem.W.subIn K (.ref c) (.type "ValueError") else none)) = some b
  have e : ((Value.ref c : Value) == Value.type "ValueError") = false := rfl
  have e2 : PySem.W.kitMeta "ValueError" = true := by decide +kernel
  rw [e, if_neg (by decide), if_pos e2]
  exact h4
theorem oexC_of {C : Addr} {nm q : Str} {N : Addr} {bs bm : List Value} {sn : List Str} {sub : List Value} {ab : Bool} {col : Option Bool} {dd : Option Addr} {m0 m1 m2 m3 m5 : Option Value}
    (xL : K.lookup C = some (excClassObj nm q C N bs bm true sn sub ab col dd m0 m1 m2 m3 m5 "ValueError.__new__")) (hb : PySem.HandSPX.refsVE bm = true) (sa : PySem.W.findIn K (.ref C) "__setattr__" = some (some (.builtin "object.__setattr__")))
    (eC : PySem.W.subIn K (.ref C) (.type "BaseException") = some true) (tC : PySem.W.typeIn K (.ref C) = some (.type "type")) (kC : PySem.W.keepIn K (.ref C) = true) : OexC K C := ⟨⟨nm, q, N, bs, bm, sn, sub, ab, col, dd, m0, m1, m2, m3, m5, xL, hb⟩, sa, eC, tC, kC⟩
theorem excI_mono {j k n : Nat} {x : Str} {C : Addr} {fs : List V → List (Str × V)} (e : ExcI P w K mg base j x C n fs) (h : j ≤ k) : ExcI P w K mg base k x C n fs :=
  let ⟨fI, fd, ps, h1, h2, F, b⟩ := e.i
  ⟨e.g, e.o, fI, fd, ps, h1, h2, F.mono h, b⟩
end
theorem ends {P : Program} {w : World} {K : Frag} {h : Heap} {mg : Str → Option Value} {fa f4 : Addr} (X : K.In h) (G : h.Ns mainGlobals mg) (hfa : mg "law" = some (.ref fa))
    {od4 an4 : Option Addr} {sl4 : Array (Option Value)} {oc4 kV4 dc4 pm4 cd4 ct4 : Value}
    (a4 : PySem.W.nsIn K mainGlobals "law" = some (some (.ref f4))) (l4 : K.lookup f4 = some ⟨oc4, od4, .func (PySem.W.fnOf "law" "law" (defArgs s_law) (defBody s_law) (defScope s_law) .none kV4 dc4 pm4 an4 cd4 ct4), sl4⟩) (c4 : PySem.W.codeIn K cd4 "law" = true) (k4 : PySem.W.keepIn K (.ref f4) = true)
    (D_look_at : DefAt K mg "look_at" s_look_at ["n", "least"]) (D_divisor_from : DefAt K mg "divisor_from" s_divisor_from ["n", "d"]) (D_least_divisor : DefAt K mg "least_divisor" s_least_divisor ["n"]) (D_parted : DefAt K mg "parted" s_parted ["n"]) (D_power : DefAt K mg "power" s_power ["n", "a", "e"]) (D_has_full_order : DefAt K mg "has_full_order" s_has_full_order ["p", "a", "parting"]) (D_least_full : DefAt K mg "least_full" s_least_full ["p", "parting"]) (D_paper_of : DefAt K mg "paper_of" s_paper_of ["p"]) (D_papers_by : DefAt K mg "papers_by" s_papers_by ["parting"]) (D_prime_paper : DefAt K mg "prime_paper" s_prime_paper ["n"]) (D__law_whole : DefAt K mg "_law_whole" s__law_whole ["_law_found"]) (D__law_draws : DefAt K mg "_law_draws" s__law_draws ["_law_cell", "_law_many"]) (D__law_least : DefAt K mg "_law_least" s__law_least ["_law_n"]) (D__law_power : DefAt K mg "_law_power" s__law_power ["_law_n", "_law_a", "_law_e"]) (D__law_is_full : DefAt K mg "_law_is_full" s__law_is_full ["_law_p", "_law_a", "_law_parts"]) (D__law_is_paper : DefAt K mg "_law_is_paper" s__law_is_paper ["_law_p", "_law_thing"]) (D__law_refused : DefAt K mg "_law_refused" s__law_refused ["_law_n"]) (D__law_divisor : DefAt K mg "_law_divisor" s__law_divisor ["_law_n"]) (D__law_part : DefAt K mg "_law_part" s__law_part ["_law_n"]) (D__law_right : DefAt K mg "_law_right" s__law_right ["_law_n"])
    (b_abs : mg "abs" = none) (b_all : mg "all" = none) (b_any : mg "any" = none) (b_bool : mg "bool" = none) (b_int : mg "int" = none) (b_isinstance : mg "isinstance" = none) (b_len : mg "len" = none) (b_range : mg "range" = none) (b_tuple : mg "tuple" = none) {t : Tok} (mp : mg "MOST_PARTED" = some (.int 1000000000 t)) {cPE cNI cNO cNt cNR cNN cTF cNP : Addr} (N : ExNames mg cPE cNI cNO cNt cNR cNN cTF cNP)
    (oN : ExcO K mg "NoNumber" cNN) (eT : ∀ (P : Program) (w : World) (base : Heap), ExcI P w K mg base 1 "TooFar" cTF 1 (fun xs => match xs with | [x] => [("part", x)] | _ => [])) (eP : ∀ (P : Program) (w : World) (base : Heap), ExcI P w K mg base 1 "NoPrime" cNP 1 (fun xs => match xs with | [x] => [("divisor", x)] | _ => []))
    (rN : ExRow K cPE cNI cNO cNt cNR cNN cTF cNP cNN true false false) (rT : ExRow K cPE cNI cNO cNt cNR cNN cTF cNP cTF false true false) (rP : ExRow K cPE cNI cNO cNt cNR cNN cTF cNP cNP false false true)
    (mP : PySem.W.exmOne K (.ref cNP) (.ref cNP) = some true) (mT : PySem.W.exmOne K (.ref cTF) (.ref cTF) = some true) (xP : XfC K cNP) (xT : XfC K cTF) (nP : PySem.W.findIn K (.ref cNP) "divisor" = some none) (nT : PySem.W.findIn K (.ref cTF) "part" = some none) :
    ∃ fd : FuncData, (∀ (s : Shared) (v : Value), BindsTo s fd ⟨[v], []⟩ [("_law_script", v)]) ∧ ∀ base : Heap, K.In base → base.Ns mainGlobals mg → FnOk P w K mg base (L2.CX P w) 70 fa fd ["_law_script"] (spD K sp_law) := by
  have e := hfa.symm.trans (PySem.W.mg_of X G a4)
  cases e
  have F4 := fun_mk (st := s_law) l4 c4 k4
  refine ⟨PySem.W.fnOf "law" "law" (defArgs s_law) (defBody s_law) (defScope s_law) .none kV4 dc4 pm4 an4 cd4 ct4, fun s v => .of_eq rfl, fun base _ _ => ?_⟩
  have c_look := ok_look_at (P := P) (w := w) (base := base) D_look_at oN (eT P w base) mp
  have c_div := ok_divisor_from (P := P) (w := w) (base := base) D_divisor_from b_int
  have c_least := ok_least_divisor D_least_divisor c_look (c_div.mono (by decide))
  have c_parted := ok_parted D_parted c_look (c_div.mono (by decide))
  have c_pow := ok_power0 (P := P) (w := w) (base := base) D_power
  have c_full := ok_has_full_order D_has_full_order c_pow
  have c_lf := ok_least_full D_least_full c_full
  have c_paper := papers_ok D_paper_of D_papers_by b_tuple c_parted c_lf 30
  have c_pp := ok_prime_paper (j := 65) D_prime_paper (c_least.mono (by decide)) c_paper (excI_mono (eP P w base) (by decide))
  have l_whole := ok__law_whole (P := P) (w := w) (base := base) D__law_whole b_isinstance b_int b_bool
  have l_draws := ok__law_draws (P := P) (w := w) (base := base) D__law_draws b_range b_abs
  have l_least := ok__law_least (P := P) (w := w) (base := base) D__law_least b_int
  have l_pow := ok__law_power (P := P) (w := w) (base := base) D__law_power
  have l_full := ok__law_is_full D__law_is_full l_pow
  have l_paper := law_papers_ok D__law_is_paper b_isinstance b_tuple b_len b_range b_any l_whole l_full 30
  have l_ref := ok__law_refused D__law_refused N c_pp (fun n c fs b1 b2 b3 h => by
    cases h with
    | nn _ => exact rN
    | tf _ => exact rT
    | np _ _ _ => exact rP)
  have l_div := ok__law_divisor D__law_divisor N.np c_pp mP xP nP
  have l_part := ok__law_part D__law_part N.tf c_pp mT xT nT
  have l_right := ok__law_right (j := 68) D__law_right (l_least.mono (by decide)) (l_paper.mono (by decide)) (c_pp.mono (by decide)) l_div l_ref (l_whole.mono (by decide))
  exact ok_law (j := 69) F4 b_range b_all (l_draws.mono (by decide)) (l_least.mono (by decide)) l_right (l_ref.mono (by decide)) (l_part.mono (by decide)) (l_whole.mono (by decide))
theorem cx_no (P : Program) (w : World) (H : Hp) (s : Shared) (e : Value) (s' : Shared) (h : L2.CX P w [] H s (fun _ _ _ => False) e s') : False := by
  obtain ⟨_, _, _, _, _, _, _, _, _, _, _, _, z⟩ := h
  exact z
theorem law_sp (K : Frag) (H : Hp) (a : Addr) (ns : List Int) (hS : SqL K H a (ns.map V.int)) : spD K sp_law [.ref a] H (fun v _ => v = .bl true) fun _ _ _ => False := by
  refine ⟨H, [], [.d (.scr ns)], [], fun w _ => w = .d (.bl true), fun _ _ => False, ⟨fun _ _ e => e, rfl, List.nodup_nil, fun _ h => (nomatch h), fun k o h => by simp at h⟩, .cons (.scr hS) .nil, ⟨ns, rfl, rfl⟩, fun v H' z => ?_, fun _ _ _ _ _ _ _ z => z.elim⟩
  obtain ⟨w, M', G', α', e, _, _, q⟩ := z
  subst e
  exact wbl q
end RP

open PySem PySem.W PyProof.Rows
set_option maxRecDepth 100000 in
set_option maxHeartbeats 0 in
theorem PySem.Challenge.cw_rootprime_k20_prime_papers_told_holds : PySem.Challenge.rw_rootprime_k20_prime_papers_told.Holds := by
  w_on; o_law; k_head; (case hw => w_witness2)
  k_fill
  refine L2.walk_of (l := PySem.Challenge.rw_rootprime_k20_prime_papers_told) (n := 63) (k := 70) (x := "_law_script") (CX := fun w => L2.CX PySem.Challenge.rw_rootprime_k20_prime_papers_told.prog w) (sp := fun w => DL.spD _ RP.sp_law) rfl (by decide) rfl ⟨rfl, by decide, by decide⟩ (fun w h Y => PySem.W.kIn_of Y) ?F (fun _ _ a ns hl _ hS => RP.law_sp _ _ a ns hS) (fun w H s e s' z => RP.cx_no _ w H s e s' z)
  case F =>
    intro w mg fa h KX G hmg
    refine' RP.ends KX G hmg ?a4 ?l4 ?c4 ?k4 ?D_look_at ?D_divisor_from ?D_least_divisor ?D_parted ?D_power ?D_has_full_order ?D_least_full ?D_paper_of ?D_papers_by ?D_prime_paper ?D__law_whole ?D__law_draws ?D__law_least ?D__law_power ?D__law_is_full ?D__law_is_paper ?D__law_refused ?D__law_divisor ?D__law_part ?D__law_right (PySem.W.mg_none_of KX G ?b_abs) (PySem.W.mg_none_of KX G ?b_all) (PySem.W.mg_none_of KX G ?b_any) (PySem.W.mg_none_of KX G ?b_bool) (PySem.W.mg_none_of KX G ?b_int) (PySem.W.mg_none_of KX G ?b_isinstance) (PySem.W.mg_none_of KX G ?b_len) (PySem.W.mg_none_of KX G ?b_range) (PySem.W.mg_none_of KX G ?b_tuple) (PySem.W.mg_of KX G ?mp) ⟨PySem.W.mg_of KX G ?n1, PySem.W.mg_of KX G ?n2, PySem.W.mg_of KX G ?n3, PySem.W.mg_of KX G ?n4, PySem.W.mg_of KX G ?n5, PySem.W.mg_of KX G ?n6, PySem.W.mg_of KX G ?n7, PySem.W.mg_of KX G ?n8, PySem.W.mg_none_of KX G ?n9, PySem.W.mg_none_of KX G ?n10⟩ ⟨PySem.W.mg_of KX G ?n6', ?o2, ?o3, ?o4, ?o5⟩ ?eT ?eP ?rN ?rT ?rP ?mP ?mT ⟨?x1, ?x2, ?x3, ?x4⟩ ⟨?y1, ?y2, ?y3, ?y4⟩ ?nP ?nT
    (case a4 => k_is)
    (case l4 => k_is)
    (case c4 => k_is)
    (case k4 => k_is)
    (case mp => k_is)
    (case n1 => k_is)
    (case n2 => k_is)
    (case n3 => k_is)
    (case n4 => k_is)
    (case n5 => k_is)
    (case n6 => k_is)
    (case n7 => k_is)
    (case n8 => k_is)
    (case n9 => k_is)
    (case n10 => k_is)
    (case b_abs => k_is)
    (case b_all => k_is)
    (case b_any => k_is)
    (case b_bool => k_is)
    (case b_int => k_is)
    (case b_isinstance => k_is)
    (case b_len => k_is)
    (case b_range => k_is)
    (case b_tuple => k_is)
    (case n6' => k_is); (case o2 => k_is); (case o3 => k_exc); (case o4 => k_is); (case o5 => k_is)
    (case x1 => k_is)
    (case x2 => k_is)
    (case x3 => k_is)
    (case x4 => k_is)
    (case y1 => k_is)
    (case y2 => k_is)
    (case y3 => k_is)
    (case y4 => k_is)
    (case nP => k_is)
    (case nT => k_is)
    case D_look_at =>
      refine' DL.defAt_mk KX G ?a ?l ?c ?k ?b
      (case a => k_is); (case l => k_is); (case c => k_is); (case k => k_is)
      case b => exact fun _ _ _ _ _ _ us hl => match us, hl with | [_, _], _ => rfl
    case D_divisor_from =>
      refine' DL.defAt_mk KX G ?a ?l ?c ?k ?b
      (case a => k_is); (case l => k_is); (case c => k_is); (case k => k_is)
      case b => exact fun _ _ _ _ _ _ us hl => match us, hl with | [_, _], _ => rfl
    case D_least_divisor =>
      refine' DL.defAt_mk KX G ?a ?l ?c ?k ?b
      (case a => k_is); (case l => k_is); (case c => k_is); (case k => k_is)
      case b => exact fun _ _ _ _ _ _ us hl => match us, hl with | [_], _ => rfl
    case D_parted =>
      refine' DL.defAt_mk KX G ?a ?l ?c ?k ?b
      (case a => k_is); (case l => k_is); (case c => k_is); (case k => k_is)
      case b => exact fun _ _ _ _ _ _ us hl => match us, hl with | [_], _ => rfl
    case D_power =>
      refine' DL.defAt_mk KX G ?a ?l ?c ?k ?b
      (case a => k_is); (case l => k_is); (case c => k_is); (case k => k_is)
      case b => exact fun _ _ _ _ _ _ us hl => match us, hl with | [_, _, _], _ => rfl
    case D_has_full_order =>
      refine' DL.defAt_mk KX G ?a ?l ?c ?k ?b
      (case a => k_is); (case l => k_is); (case c => k_is); (case k => k_is)
      case b => exact fun _ _ _ _ _ _ us hl => match us, hl with | [_, _, _], _ => rfl
    case D_least_full =>
      refine' DL.defAt_mk KX G ?a ?l ?c ?k ?b
      (case a => k_is); (case l => k_is); (case c => k_is); (case k => k_is)
      case b => exact fun _ _ _ _ _ _ us hl => match us, hl with | [_, _], _ => rfl
    case D_paper_of =>
      refine' DL.defAt_mk KX G ?a ?l ?c ?k ?b
      (case a => k_is); (case l => k_is); (case c => k_is); (case k => k_is)
      case b => exact fun _ _ _ _ _ _ us hl => match us, hl with | [_], _ => rfl
    case D_papers_by =>
      refine' DL.defAt_mk KX G ?a ?l ?c ?k ?b
      (case a => k_is); (case l => k_is); (case c => k_is); (case k => k_is)
      case b => exact fun _ _ _ _ _ _ us hl => match us, hl with | [_], _ => rfl
    case D_prime_paper =>
      refine' DL.defAt_mk KX G ?a ?l ?c ?k ?b
      (case a => k_is); (case l => k_is); (case c => k_is); (case k => k_is)
      case b => exact fun _ _ _ _ _ _ us hl => match us, hl with | [_], _ => rfl
    case D__law_whole =>
      refine' DL.defAt_mk KX G ?a ?l ?c ?k ?b
      (case a => k_is); (case l => k_is); (case c => k_is); (case k => k_is)
      case b => exact fun _ _ _ _ _ _ us hl => match us, hl with | [_], _ => rfl
    case D__law_draws =>
      refine' DL.defAt_mk KX G ?a ?l ?c ?k ?b
      (case a => k_is); (case l => k_is); (case c => k_is); (case k => k_is)
      case b => exact fun _ _ _ _ _ _ us hl => match us, hl with | [_, _], _ => rfl
    case D__law_least =>
      refine' DL.defAt_mk KX G ?a ?l ?c ?k ?b
      (case a => k_is); (case l => k_is); (case c => k_is); (case k => k_is)
      case b => exact fun _ _ _ _ _ _ us hl => match us, hl with | [_], _ => rfl
    case D__law_power =>
      refine' DL.defAt_mk KX G ?a ?l ?c ?k ?b
      (case a => k_is); (case l => k_is); (case c => k_is); (case k => k_is)
      case b => exact fun _ _ _ _ _ _ us hl => match us, hl with | [_, _, _], _ => rfl
    case D__law_is_full =>
      refine' DL.defAt_mk KX G ?a ?l ?c ?k ?b
      (case a => k_is); (case l => k_is); (case c => k_is); (case k => k_is)
      case b => exact fun _ _ _ _ _ _ us hl => match us, hl with | [_, _, _], _ => rfl
    case D__law_is_paper =>
      refine' DL.defAt_mk KX G ?a ?l ?c ?k ?b
      (case a => k_is); (case l => k_is); (case c => k_is); (case k => k_is)
      case b => exact fun _ _ _ _ _ _ us hl => match us, hl with | [_, _], _ => rfl
    case D__law_refused =>
      refine' DL.defAt_mk KX G ?a ?l ?c ?k ?b
      (case a => k_is); (case l => k_is); (case c => k_is); (case k => k_is)
      case b => exact fun _ _ _ _ _ _ us hl => match us, hl with | [_], _ => rfl
    case D__law_divisor =>
      refine' DL.defAt_mk KX G ?a ?l ?c ?k ?b
      (case a => k_is); (case l => k_is); (case c => k_is); (case k => k_is)
      case b => exact fun _ _ _ _ _ _ us hl => match us, hl with | [_], _ => rfl
    case D__law_part =>
      refine' DL.defAt_mk KX G ?a ?l ?c ?k ?b
      (case a => k_is); (case l => k_is); (case c => k_is); (case k => k_is)
      case b => exact fun _ _ _ _ _ _ us hl => match us, hl with | [_], _ => rfl
    case D__law_right =>
      refine' DL.defAt_mk KX G ?a ?l ?c ?k ?b
      (case a => k_is); (case l => k_is); (case c => k_is); (case k => k_is)
      case b => exact fun _ _ _ _ _ _ us hl => match us, hl with | [_], _ => rfl
    (case mP => exact RP.exm_of (by k_is) (by k_is) (by k_is) (by k_is))
    (case mT => exact RP.exm_of (by k_is) (by k_is) (by k_is) (by k_is))
    case rN =>
      refine' ⟨⟨?e1, ?e2, ?e3, ?e4, ?e5, ?e6, ?e7, ?e8⟩, ?m, ?k1, ?k2, ?k3, ?k4, ?k5, ?k6, ?k7, ?k8⟩
      (case e1 => exact RP.cls_some (by k_is))
      (case e2 => k_is)
      (case e3 => k_is)
      (case e4 => k_is)
      (case e5 => k_is)
      (case e6 => k_is)
      (case e7 => k_is)
      (case e8 => k_is)
      (case m => exact RP.exm_of (by k_is) (by k_is) (by k_is) (by k_is))
      (case k1 => exact RP.kit_of (by decide) (by k_is) (by k_is) (by k_is))
      (case k2 => exact RP.kit_of (by decide) (by k_is) (by k_is) (by k_is))
      (case k3 => exact RP.kit_of (by decide) (by k_is) (by k_is) (by k_is))
      (case k4 => exact RP.kit_of (by decide) (by k_is) (by k_is) (by k_is))
      (case k5 => exact RP.kit_of (by decide) (by k_is) (by k_is) (by k_is))
      (case k6 => exact RP.kit_of (by decide) (by k_is) (by k_is) (by k_is))
      (case k7 => exact RP.kit_of (by decide) (by k_is) (by k_is) (by k_is))
      (case k8 => exact RP.kit_ve (by k_is))
    case rT =>
      refine' ⟨⟨?e1, ?e2, ?e3, ?e4, ?e5, ?e6, ?e7, ?e8⟩, ?m, ?k1, ?k2, ?k3, ?k4, ?k5, ?k6, ?k7, ?k8⟩
      (case e1 => exact RP.cls_some (by k_is))
      (case e2 => k_is)
      (case e3 => k_is)
      (case e4 => k_is)
      (case e5 => k_is)
      (case e6 => k_is)
      (case e7 => k_is)
      (case e8 => k_is)
      (case m => exact RP.exm_of (by k_is) (by k_is) (by k_is) (by k_is))
      (case k1 => exact RP.kit_of (by decide) (by k_is) (by k_is) (by k_is))
      (case k2 => exact RP.kit_of (by decide) (by k_is) (by k_is) (by k_is))
      (case k3 => exact RP.kit_of (by decide) (by k_is) (by k_is) (by k_is))
      (case k4 => exact RP.kit_of (by decide) (by k_is) (by k_is) (by k_is))
      (case k5 => exact RP.kit_of (by decide) (by k_is) (by k_is) (by k_is))
      (case k6 => exact RP.kit_of (by decide) (by k_is) (by k_is) (by k_is))
      (case k7 => exact RP.kit_of (by decide) (by k_is) (by k_is) (by k_is))
      (case k8 => exact RP.kit_ve (by k_is))
    case rP =>
      refine' ⟨⟨?e1, ?e2, ?e3, ?e4, ?e5, ?e6, ?e7, ?e8⟩, ?m, ?k1, ?k2, ?k3, ?k4, ?k5, ?k6, ?k7, ?k8⟩
      (case e1 => exact RP.cls_some (by k_is))
      (case e2 => k_is)
      (case e3 => k_is)
      (case e4 => k_is)
      (case e5 => k_is)
      (case e6 => k_is)
      (case e7 => k_is)
      (case e8 => k_is)
      (case m => exact RP.exm_of (by k_is) (by k_is) (by k_is) (by k_is))
      (case k1 => exact RP.kit_of (by decide) (by k_is) (by k_is) (by k_is))
      (case k2 => exact RP.kit_of (by decide) (by k_is) (by k_is) (by k_is))
      (case k3 => exact RP.kit_of (by decide) (by k_is) (by k_is) (by k_is))
      (case k4 => exact RP.kit_of (by decide) (by k_is) (by k_is) (by k_is))
      (case k5 => exact RP.kit_of (by decide) (by k_is) (by k_is) (by k_is))
      (case k6 => exact RP.kit_of (by decide) (by k_is) (by k_is) (by k_is))
      (case k7 => exact RP.kit_of (by decide) (by k_is) (by k_is) (by k_is))
      (case k8 => exact RP.kit_ve (by k_is))
    case eT =>
      intro P w' base
      refine' RP.exc_TooFar (mc := .type "type") (RP.oexC_of ?z1 ?z2 ?z3 ?z4 ?z5 ?z6) ?hno (PySem.W.mg_of KX G ?g) (PySem.W.mg_of KX G ?gP) ⟨?r1, ?r2⟩ ?k ?h1 ?h2 ?l ?c ?kk
      (case z1 => k_is)
      (case z3 => k_is)
      (case z4 => k_is)
      (case z5 => k_is)
      (case z6 => k_is)
      (case hno => k_is)
      (case g => k_is)
      (case gP => k_is)
      (case h1 => k_is)
      (case h2 => k_is)
      (case l => k_is)
      (case c => k_is)
      (case kk => k_is)
      (case r1 => k_is)
      (case r2 => k_is)
      (case k => k_is)
      (case z2 => decide +kernel)
    case eP =>
      intro P w' base
      refine' RP.exc_NoPrime (mc := .type "type") (RP.oexC_of ?z1 ?z2 ?z3 ?z4 ?z5 ?z6) ?hno (PySem.W.mg_of KX G ?g) (PySem.W.mg_of KX G ?gP) ⟨?r1, ?r2⟩ ?k ?h1 ?h2 ?l ?c ?kk
      (case z1 => k_is)
      (case z3 => k_is)
      (case z4 => k_is)
      (case z5 => k_is)
      (case z6 => k_is)
      (case hno => k_is)
      (case g => k_is)
      (case gP => k_is)
      (case h1 => k_is)
      (case h2 => k_is)
      (case l => k_is)
      (case c => k_is)
      (case kk => k_is)
      (case r1 => k_is)
      (case r2 => k_is)
      (case k => k_is)
      (case z2 => decide +kernel)
#print axioms PySem.Challenge.cw_rootprime_k20_prime_papers_told_holds

