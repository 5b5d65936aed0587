import PyProof.Rows.All
import Wide.All
import OpenK.AllK
import Wide.FinOn
import HandS.ForMost
import HandS.Exc
import HandS.ExcInit
import HandS.ExcField
import HandS.TryMany
import HandS.TryOnly
import HandS.WordsExc
import HandS.Defaults
import HandS.IsInst
import HandS.Codes
import HandS.Deep
import HandS.Conv
import HandS.SortInts
import HandS.Wide
import HandS.TupAny
import HandS.Flow
import HandS.NoneIn
import HandS.DictComp
import HandS.Strs
import HandS.SetBool
import HandS.More
import HandS.Head0
import HandS.Head1
import HandS.Head2
import KE.GoesEnum
import HandS.SlotsOwn
import HandS.Walk
import HandS.HeadEnd
import HandS.HeadHook1
import HandS.HeadHook2
import HandS.HeadHook3
import HandS.HeadHook4
import PySem.Challenge.RW_alreadytold_k53_whole_days_that_have_a_s
set_option Elab.async false
set_option linter.all false
set_option maxRecDepth 100000
set_option maxHeartbeats 4000000
namespace K53


/-! ### lists without doubles -/
theorem nd_le : ∀ {a b : List Nat}, a.Nodup → (∀ x ∈ a, x ∈ b) → a.length ≤ b.length
  | [], _, _, _ => Nat.zero_le _
  | x :: xs, b, h, hs => by
    have hx : x ∈ b := hs x (List.mem_cons_self ..)
    have hn := List.nodup_cons.mp h
    have ih := nd_le (a := xs) (b := b.erase x) hn.2 (fun y hy => by
      have hne : y ≠ x := fun e => hn.1 (e ▸ hy)
      exact (List.mem_erase_of_ne hne).mpr (hs y (List.mem_cons_of_mem _ hy)))
    have hl := List.length_erase_of_mem hx
    have hp : 0 < b.length := List.length_pos_of_mem hx
    rw [List.length_cons]
    omega
theorem nd_lt {a : List Nat} {n : Nat} (h : a.Nodup) (hs : ∀ x ∈ a, x < n) : a.length ≤ n := by
  have := nd_le (b := List.range n) h (fun x hx => List.mem_range.mpr (hs x hx))
  rwa [List.length_range] at this
/-- values that are all unlike, as a list -/
theorem nd_map {w : Nat → Nat} : ∀ {k : Nat}, (∀ i j, i < j → j < k → w i ≠ w j) → ((List.range k).map w).Nodup
  | 0, _ => List.nodup_nil
  | k + 1, h => by
    rw [List.range_succ, List.map_append, List.map_singleton, List.nodup_append]
    refine ⟨nd_map fun i j hij hj => h i j hij (by omega), List.pairwise_singleton .., ?_⟩
    intro a ha b hb e
    obtain ⟨i, hi, rfl⟩ := List.mem_map.mp ha
    rw [List.mem_singleton] at hb
    subst hb
    exact h i k (List.mem_range.mp hi) (by omega) e
/-- more places than values -/
theorem pigeon {w : Nat → Nat} {k n : Nat} (hw : ∀ i, i < k → w i < n) (hk : n < k) : ∃ i j, i < j ∧ j < k ∧ w i = w j := by
  apply Classical.byContradiction
  intro hno
  have h := nd_map (w := w) (k := k) fun i j hij hj e => hno ⟨i, j, hij, hj, e⟩
  have := nd_lt h (n := n) fun x hx => by
    obtain ⟨i, hi, rfl⟩ := List.mem_map.mp hx
    exact hw i (List.mem_range.mp hi)
  rw [List.length_map, List.length_range] at this
  omega

/-! ### walks -/
section
variable (E : Nat → Nat → Prop)
/-- a walk of so many steps -/
def R : Nat → Nat → Nat → Prop
  | 0, a, b => a = b
  | k + 1, a, b => ∃ c, E a c ∧ R k c b
end
section
variable {E : Nat → Nat → Prop}
theorem R_add : ∀ {j k a b c : Nat}, R E j a b → R E k b c → R E (j + k) a c
  | 0, k, a, b, c, h1, h2 => by
    cases (show a = b from h1)
    rw [Nat.zero_add]
    exact h2
  | j + 1, k, a, b, c, h1, h2 => by
    obtain ⟨d, e, r⟩ := h1
    rw [show j + 1 + k = (j + k) + 1 by omega]
    exact ⟨d, e, R_add r h2⟩
theorem R_split : ∀ {j k a c : Nat}, R E (j + k) a c → ∃ b, R E j a b ∧ R E k b c
  | 0, k, a, c, h => ⟨a, rfl, by rw [Nat.zero_add] at h; exact h⟩
  | j + 1, k, a, c, h => by
    rw [show j + 1 + k = (j + k) + 1 by omega] at h
    obtain ⟨d, e, r⟩ := h
    obtain ⟨b, r1, r2⟩ := R_split r
    exact ⟨b, ⟨d, e, r1⟩, r2⟩
theorem R_cast {j k a b : Nat} (h : R E j a b) (e : j = k) : R E k a b := e ▸ h
/-- a walk as a sequence -/
theorem R_seq : ∀ {k a b : Nat}, R E k a b → ∃ w : Nat → Nat, w 0 = a ∧ w k = b ∧ ∀ i, i < k → E (w i) (w (i + 1))
  | 0, a, b, h => ⟨fun _ => a, rfl, h, fun i hi => absurd hi (Nat.not_lt_zero _)⟩
  | k + 1, a, b, h => by
    obtain ⟨c, e, r⟩ := h
    obtain ⟨w, h0, h1, h2⟩ := R_seq r
    refine ⟨fun i => match i with | 0 => a | i + 1 => w i, rfl, h1, fun i hi => ?_⟩
    cases i with
    | zero =>
      show E a (w 0)
      rw [h0]
      exact e
    | succ i => exact h2 i (by omega)
theorem R_of {w : Nat → Nat} {k : Nat} (h : ∀ i, i < k → E (w i) (w (i + 1))) : ∀ (d i : Nat), i + d ≤ k → R E d (w i) (w (i + d))
  | 0, i, _ => rfl
  | d + 1, i, hd => ⟨w (i + 1), h i (by omega), by
    have := R_of h d (i + 1) (by omega)
    rw [show i + 1 + d = i + (d + 1) by omega] at this
    exact this⟩
theorem R_rep {c x : Nat} (h : R E c x x) : ∀ t : Nat, R E (t * c) x x
  | 0 => by rw [Nat.zero_mul]; exact rfl
  | t + 1 => by
    have := R_add (R_rep h t) h
    rw [show (t + 1) * c = t * c + c by rw [Nat.succ_mul]]
    exact this

/-- a walk made shorter by circles whose lengths together are a multiple of c -/
theorem shorten {n c : Nat} (hn : ∀ a b, E a b → a < n ∧ b < n) (hc : 0 < c) : ∀ (k a b : Nat), a < n → R E k a b → ∃ k', k' < n * c ∧ k' % c = k % c ∧ k' ≤ k ∧ R E k' a b := by
  intro k
  induction k using Nat.strongRecOn with
  | ind k ih =>
    intro a b ha h
    by_cases hk : k < n * c
    · exact ⟨k, hk, rfl, Nat.le_refl _, h⟩
    · obtain ⟨w, w0, wk, ws⟩ := R_seq h
      have lt : ∀ i, i ≤ k → w i < n := fun i hi => by
        cases i with
        | zero => rw [w0]; exact ha
        | succ i => exact (hn _ _ (ws i (by omega))).2
      obtain ⟨i, j, hij, hj, e⟩ := pigeon (w := fun i => w i * c + i % c) (k := k + 1) (n := n * c) (fun i hi => by
        have h1 := lt i (by omega)
        have h2 := Nat.mod_lt i hc
        have h3 : (w i + 1) * c ≤ n * c := Nat.mul_le_mul_right c h1
        rw [Nat.succ_mul] at h3
        show w i * c + i % c < n * c
        omega) (by omega)
      have e' : w i * c + i % c = w j * c + j % c := e
      have em : i % c = j % c := by
        have h1 : (w i * c + i % c) % c = i % c := by rw [Nat.mul_add_mod_self_right, Nat.mod_mod]
        have h2 : (w j * c + j % c) % c = j % c := by rw [Nat.mul_add_mod_self_right, Nat.mod_mod]
        rw [← h1, ← h2, e']
      have ew : w i = w j := by
        have : w i * c = w j * c := by omega
        exact Nat.eq_of_mul_eq_mul_right hc this
      have r1 := R_of (k := k) ws i 0 (by omega)
      have r2 := R_of (k := k) ws (k - j) j (by omega)
      rw [Nat.zero_add, w0] at r1
      rw [show j + (k - j) = k by omega, wk, ← ew] at r2
      have r := R_add r1 r2
      obtain ⟨k', h1, h2, h3, h4⟩ := ih (i + (k - j)) (by omega) a b ha r
      refine ⟨k', h1, ?_, by omega, h4⟩
      rw [h2]
      have hd : (j - i) % c = 0 := (Nat.sub_mod_eq_zero_of_mod_eq em.symm)
      have e3 : ((i + (k - j)) + (j - i)) % c = (i + (k - j)) % c := by rw [Nat.add_mod, hd, Nat.add_zero, Nat.mod_mod]
      rw [← e3]
      congr 1
      omega

/-- the bound of the product of lengths that sum to at most 16 -/
def gTab (m : Nat) : Nat := [1, 1, 2, 3, 4, 6, 9, 12, 18, 27, 36, 54, 81, 108, 162, 243, 324].getD m 0
theorem gTab_mul : ∀ m, m < 17 → ∀ c, c < 17 → 1 ≤ c → c ≤ m → c * gTab (m - c) ≤ gTab m := by decide
theorem gTab_pos : ∀ m, m < 17 → 1 ≤ gTab m ∧ gTab m ≤ 324 := by decide
theorem gTab_mono : ∀ m, m < 17 → ∀ k, k < 17 → k ≤ m → gTab k ≤ gTab m := by decide

/-- circles that every long walk within S meets -/
theorem circles : ∀ (m : Nat), m < 17 → ∀ S : List Nat, S.length ≤ m →
    ∃ P, 1 ≤ P ∧ P ≤ gTab m ∧ ∀ (w : Nat → Nat) (k : Nat), m ≤ k → (∀ i, i ≤ k → w i ∈ S) → (∀ i, i < k → E (w i) (w (i + 1))) → ∃ i c, i ≤ k ∧ 1 ≤ c ∧ c ≤ 16 ∧ c ∣ P ∧ R E c (w i) (w i) := by
  intro m
  induction m using Nat.strongRecOn with
  | ind m ih =>
    intro hm S hS
    -- is there a closed walk in S
    by_cases hex : ∃ c, ∃ v : Nat → Nat, 1 ≤ c ∧ v 0 = v c ∧ (∀ i, i ≤ c → v i ∈ S) ∧ ∀ i, i < c → E (v i) (v (i + 1))
    · -- a shortest one
      have least : ∀ c, (∃ v : Nat → Nat, 1 ≤ c ∧ v 0 = v c ∧ (∀ i, i ≤ c → v i ∈ S) ∧ ∀ i, i < c → E (v i) (v (i + 1))) →
          ∃ c, (∃ v : Nat → Nat, 1 ≤ c ∧ v 0 = v c ∧ (∀ i, i ≤ c → v i ∈ S) ∧ ∀ i, i < c → E (v i) (v (i + 1))) ∧
            ∀ d, d < c → ¬ ∃ v : Nat → Nat, 1 ≤ d ∧ v 0 = v d ∧ (∀ i, i ≤ d → v i ∈ S) ∧ ∀ i, i < d → E (v i) (v (i + 1)) := by
        intro c
        induction c using Nat.strongRecOn with
        | ind c ihc =>
          intro h
          by_cases hd : ∃ d, d < c ∧ ∃ v : Nat → Nat, 1 ≤ d ∧ v 0 = v d ∧ (∀ i, i ≤ d → v i ∈ S) ∧ ∀ i, i < d → E (v i) (v (i + 1))
          · obtain ⟨d, h1, h2⟩ := hd
            exact ihc d h1 h2
          · exact ⟨c, h, fun d h1 h2 => hd ⟨d, h1, h2⟩⟩
      obtain ⟨c0, h0⟩ := hex
      obtain ⟨c, ⟨v, hc, vc, vS, vE⟩, hmin⟩ := least c0 h0
      have dif : ∀ i j, i < j → j < c → v i ≠ v j := fun i j hij hj e => by
        refine hmin (j - i) (by omega) ⟨fun t => v (i + t), by omega, ?_, fun t ht => vS _ (by omega), fun t ht => ?_⟩
        · show v (i + 0) = v (i + (j - i))
          rw [show i + (j - i) = j by omega]
          exact e
        · have := vE (i + t) (by omega)
          exact this
      have ndT := nd_map dif
      have hTS : ∀ x ∈ (List.range c).map v, x ∈ S := fun x hx => by
        obtain ⟨i, hi, rfl⟩ := List.mem_map.mp hx
        exact vS i (by have := List.mem_range.mp hi; omega)
      have lenT : ((List.range c).map v).length = c := by rw [List.length_map, List.length_range]
      have hcm : c ≤ m := by
        have := nd_le ndT hTS
        omega
      -- the rest
      have lenS : (S.filter fun x => !decide (x ∈ (List.range c).map v)).length + c ≤ S.length := by
        have h1 : c ≤ (S.filter fun x => decide (x ∈ (List.range c).map v)).length := by
          have := nd_le (b := S.filter fun x => decide (x ∈ (List.range c).map v)) ndT (fun x hx => List.mem_filter.mpr ⟨hTS x hx, decide_eq_true hx⟩)
          omega
        have h2 : ∀ l : List Nat, (l.filter fun x => decide (x ∈ (List.range c).map v)).length + (l.filter fun x => !decide (x ∈ (List.range c).map v)).length = l.length := by
          intro l
          induction l with
          | nil => rfl
          | cons x xs ihl =>
            by_cases hx : x ∈ (List.range c).map v
            · rw [List.filter_cons_of_pos (by simpa using hx), List.filter_cons_of_neg (by simpa using hx), List.length_cons, List.length_cons]
              omega
            · rw [List.filter_cons_of_neg (by simpa using hx), List.filter_cons_of_pos (by simpa using hx), List.length_cons, List.length_cons]
              omega
        have := h2 S
        omega
      obtain ⟨P, hP1, hP2, hP3⟩ := ih (m - c) (by omega) (by omega) (S.filter fun x => !decide (x ∈ (List.range c).map v)) (by omega)
      refine ⟨c * P, Nat.mul_pos (by omega) (by omega), Nat.le_trans (Nat.mul_le_mul_left c hP2) (gTab_mul m hm c (by omega) hc hcm), fun w k hk wS wE => ?_⟩
      by_cases hin : ∃ i, i ≤ k ∧ w i ∈ (List.range c).map v
      · obtain ⟨i, hi, hx⟩ := hin
        obtain ⟨j, hj, e⟩ := List.mem_map.mp hx
        have hj := List.mem_range.mp hj
        refine ⟨i, c, hi, hc, by omega, ⟨P, rfl⟩, ?_⟩
        have r1 := R_of (k := c) vE (c - j) j (by omega)
        have r2 := R_of (k := c) vE j 0 (by omega)
        rw [show j + (c - j) = c by omega, ← vc] at r1
        rw [Nat.zero_add] at r2
        have r := R_add r1 r2
        rw [e] at r
        exact R_cast r (by omega)
      · obtain ⟨i, d, h1, h2, h3, h4, h5⟩ := hP3 w k (by omega) (fun i hi => List.mem_filter.mpr ⟨wS i hi, by
          have : ¬ w i ∈ (List.range c).map v := fun hx => hin ⟨i, hi, hx⟩
          rw [decide_eq_false this]
          rfl⟩) wE
        exact ⟨i, d, h1, h2, h3, Nat.dvd_trans h4 ⟨c, Nat.mul_comm c P⟩, h5⟩
    · refine ⟨1, Nat.le_refl _, (gTab_pos m hm).1, fun w k hk wS wE => ?_⟩
      -- a long walk in S meets itself
      exfalso
      have key : ∃ i j, i < j ∧ j < k + 1 ∧ w i = w j := by
        apply Classical.byContradiction
        intro hno
        have h := nd_map (w := w) (k := k + 1) fun i j hij hj e => hno ⟨i, j, hij, hj, e⟩
        have := nd_le h (b := S) fun x hx => by
          obtain ⟨i, hi, rfl⟩ := List.mem_map.mp hx
          exact wS i (by have := List.mem_range.mp hi; omega)
        rw [List.length_map, List.length_range] at this
        omega
      obtain ⟨i, j, hij, hj, e⟩ := key
      refine hex ⟨j - i, fun t => w (i + t), by omega, ?_, fun t ht => wS _ (by omega), fun t ht => wE (i + t) (by omega)⟩
      show w (i + 0) = w (i + (j - i))
      rw [show i + (j - i) = j by omega]
      exact e

/-- walks of great lengths come round -/
theorem comes_round (n : Nat) (hn16 : n ≤ 16) (hn : ∀ a b, E a b → a < n ∧ b < n) :
    ∃ P, 1 ≤ P ∧ P ≤ 324 ∧ ∀ k, 512 ≤ k → ∀ a b, a < n → (R E k a b ↔ R E (k + P) a b) := by
  obtain ⟨P, h1, h2, h3⟩ := circles 16 (by omega) (List.range n) (by rw [List.length_range]; exact hn16)
  refine ⟨P, h1, Nat.le_trans h2 (gTab_pos 16 (by omega)).2, ?_⟩
  -- from any long walk one of any long length that differs by a multiple of P
  have key : ∀ k k' a b, 512 ≤ k → 512 ≤ k' → k % P = k' % P → a < n → R E k a b → R E k' a b := by
    intro k k' a b hk hk' hmod ha h
    obtain ⟨w, w0, wk, ws⟩ := R_seq h
    have lt : ∀ i, i ≤ k → w i < n := fun i hi => by
      cases i with
      | zero => rw [w0]; exact ha
      | succ i => exact (hn _ _ (ws i (by omega))).2
    obtain ⟨i, c, hi, hc, hc16, hcP, hR⟩ := h3 w k (by omega) (fun i hi => List.mem_range.mpr (lt i hi)) ws
    have r1 := R_of (k := k) ws i 0 (by omega)
    have r2 := R_of (k := k) ws (k - i) i (by omega)
    rw [Nat.zero_add, w0] at r1
    rw [show i + (k - i) = k by omega, wk] at r2
    obtain ⟨i', a1, a2, a3, a4⟩ := shorten hn (by omega : 0 < c) i a (w i) ha r1
    obtain ⟨j', b1, b2, b3, b4⟩ := shorten hn (by omega : 0 < c) (k - i) (w i) b (lt i hi) r2
    have hnc : n * c ≤ 256 := Nat.le_trans (Nat.mul_le_mul hn16 hc16) (by decide)
    have hm1 : (i' + j') % c = k % c := by
      rw [Nat.add_mod, a2, b2, ← Nat.add_mod]
      congr 1
      omega
    have hm2 : k % c = k' % c := by
      have e1 : k % P % c = k % c := Nat.mod_mod_of_dvd k hcP
      have e2 : k' % P % c = k' % c := Nat.mod_mod_of_dvd k' hcP
      rw [← e1, ← e2, hmod]
    have hd : (k' - (i' + j')) % c = 0 := Nat.sub_mod_eq_zero_of_mod_eq (by rw [hm1, hm2])
    have hdv := Nat.div_add_mod (k' - (i' + j')) c
    rw [hd, Nat.add_zero] at hdv
    have r := R_add (R_add a4 (R_rep hR ((k' - (i' + j')) / c))) b4
    refine R_cast r ?_
    rw [Nat.mul_comm] at hdv
    omega
  intro k hk a b ha
  constructor
  · exact key k (k + P) a b hk (by omega) (by rw [Nat.add_mod_right]) ha
  · exact key (k + P) k a b (by omega) hk (by rw [Nat.add_mod_right]) ha
end

end K53
namespace K53


/-! ### a sequence of lots that comes round -/
structure Orb {α : Type} (L : Nat → α) (T m : Nat) : Prop where
  lt : m < T
  eq : L T = L m
  dif : ∀ i j, i < j → j < T → L i ≠ L j
section
variable {α : Type} {L : Nat → α} {T m T' m' : Nat}
theorem Orb.le (o : Orb L T m) {i j : Nat} (h : i < j) (e : L i = L j) : T ≤ j := by
  apply Nat.le_of_not_lt
  intro hj
  exact o.dif i j h hj e
theorem Orb.uniq (o : Orb L T m) (o' : Orb L T' m') : T = T' ∧ m = m' := by
  have h1 : T ≤ T' := o.le o'.lt o'.eq.symm
  have h2 : T' ≤ T := o'.le o.lt o.eq.symm
  have e : T = T' := Nat.le_antisymm h1 h2
  subst e
  refine ⟨rfl, ?_⟩
  rcases Nat.lt_trichotomy m m' with h | h | h
  · exact absurd (o.eq.symm.trans o'.eq) (o.dif _ _ h o'.lt)
  · exact h
  · exact absurd (o'.eq.symm.trans o.eq) (o.dif _ _ h o.lt)
variable {F : α → α} (hF : ∀ k, L (k + 1) = F (L k))
include hF in
theorem Orb.per (o : Orb L T m) : ∀ k, m ≤ k → L (k + (T - m)) = L k := by
  intro k hk
  obtain ⟨d, rfl⟩ : ∃ d, k = m + d := ⟨k - m, by omega⟩
  have hl := o.lt
  clear hk
  induction d with
  | zero =>
    rw [show m + 0 + (T - m) = T by omega]
    exact o.eq
  | succ d ih =>
    rw [show m + (d + 1) + (T - m) = (m + d + (T - m)) + 1 by omega, hF, ih, ← hF]
    rfl
theorem per_mul {f : Nat → α} {h p : Nat} (hp : ∀ k, h ≤ k → f (k + p) = f k) : ∀ t k, h ≤ k → f (k + t * p) = f k
  | 0, k, _ => by rw [Nat.zero_mul]; rfl
  | t + 1, k, hk => by
    rw [Nat.succ_mul, ← Nat.add_assoc, hp _ (by omega)]
    exact per_mul hp t k hk
theorem per_mod {f : Nat → α} {h p : Nat} (hp : ∀ k, h ≤ k → f (k + p) = f k) (k : Nat) (hk : h ≤ k) : f (h + (k - h) % p) = f k := by
  have e := per_mul hp ((k - h) / p) (h + (k - h) % p) (by omega)
  rw [← e]
  congr 1
  have := Nat.div_add_mod (k - h) p
  rw [Nat.mul_comm] at this
  omega
include hF in
theorem Orb.rep (o : Orb L T m) (k : Nat) (hk : m ≤ k) : L (m + (k - m) % (T - m)) = L k := per_mod (o.per hF) k hk
end

/-! ### rounds: the least turn and head -/
structure IsRnd (f : Nat → Bool) (h p : Nat) : Prop where
  pos : 1 ≤ p
  per : ∀ k, h ≤ k → f (k + p) = f k
  low : ∀ q m, 1 ≤ q → (∀ k, m ≤ k → f (k + q) = f k) → p ≤ q
  hd : h = 0 ∨ f (h - 1) ≠ f (h - 1 + p)
section
variable {f : Nat → Bool} {h p h' p' : Nat}
theorem IsRnd.uniq (r : IsRnd f h p) (r' : IsRnd f h' p') : h = h' ∧ p = p' := by
  have e : p = p' := Nat.le_antisymm (r.low p' h' r'.pos r'.per) (r'.low p h r.pos r.per)
  subst e
  refine ⟨?_, rfl⟩
  rcases Nat.lt_trichotomy h h' with q | q | q
  · rcases r'.hd with z | z
    · omega
    · exact absurd (r.per (h' - 1) (by omega)).symm z
  · exact q
  · rcases r.hd with z | z
    · omega
    · exact absurd (r'.per (h - 1) (by omega)).symm z
/-- a period from somewhere is one from where another one begins -/
theorem per_back {q m t h : Nat} (ht : 1 ≤ t) (hp : ∀ k, h ≤ k → f (k + t) = f k) (hq : ∀ k, m ≤ k → f (k + q) = f k) : ∀ k, h ≤ k → f (k + q) = f k := by
  intro k hk
  have e1 := per_mul hp m (k + q) (by omega)
  have e2 := per_mul hp m k hk
  have hm : m ≤ m * t := Nat.le_mul_of_pos_right m ht
  rw [← e1, ← e2, show k + q + m * t = (k + m * t) + q by omega]
  exact hq _ (by omega)
theorem per_sub_mul {p t h : Nat} (hp : ∀ k, h ≤ k → f (k + p) = f k) (ht : ∀ k, h ≤ k → f (k + t) = f k) (u : Nat) (hu : u * p ≤ t) : ∀ k, h ≤ k → f (k + (t - u * p)) = f k := by
  intro k hk
  have e := per_mul hp u (k + (t - u * p)) (by omega)
  rw [← e, show k + (t - u * p) + u * p = k + t by omega]
  exact ht k hk
/-- the least period divides every one -/
theorem low_dvd {p t h m : Nat} (h1 : 1 ≤ p) (hp : ∀ k, h ≤ k → f (k + p) = f k) (low : ∀ q m, 1 ≤ q → (∀ k, m ≤ k → f (k + q) = f k) → p ≤ q) (ht : ∀ k, m ≤ k → f (k + t) = f k) : t % p = 0 := by
  have ht' := per_back h1 hp ht
  have hd := Nat.div_add_mod t p
  rw [Nat.mul_comm] at hd
  have q := per_sub_mul hp ht' (t / p) (by omega)
  rw [show t - t / p * p = t % p by omega] at q
  apply Classical.byContradiction
  intro hne
  have := low (t % p) h (by omega) q
  have := Nat.mod_lt t h1
  omega
theorem IsRnd.dvd (r : IsRnd f h p) {t m : Nat} (ht : ∀ k, m ≤ k → f (k + t) = f k) : t % p = 0 := low_dvd r.pos r.per r.low ht
theorem IsRnd.head_le (r : IsRnd f h p) {t m : Nat} (h1 : 1 ≤ t) (ht : ∀ k, m ≤ k → f (k + t) = f k) : h ≤ m := by
  apply Nat.le_of_not_lt
  intro hl
  have hp := per_back h1 ht r.per
  rcases r.hd with z | z
  · omega
  · exact z (hp (h - 1) (by omega)).symm
theorem IsRnd.turn_le (r : IsRnd f h p) {t m : Nat} (h1 : 1 ≤ t) (ht : ∀ k, m ≤ k → f (k + t) = f k) : p ≤ t := r.low t m h1 ht

/-- the test of one part: all that belong to the round belong behind the part too -/
def part (f : Nat → Bool) (h t q : Nat) : Prop := ∀ i, i < t → f (h + i) = true → f (h + (i + q) % t) = true
theorem part_iff {t q h : Nat} (ht : 1 ≤ t) (hp : ∀ k, h ≤ k → f (k + t) = f k) : part f h t q ↔ ∀ k, h ≤ k → f (k + q) = f k := by
  have md : ∀ k, h ≤ k → f (h + (k - h) % t) = f k := fun k hk => per_mod hp k hk
  constructor
  · intro hq
    have one : ∀ k, h ≤ k → f k = true → f (k + q) = true := fun k hk e => by
      have e1 := hq ((k - h) % t) (Nat.mod_lt _ ht) (by rw [md k hk]; exact e)
      have e2 := md (k + q) (by omega)
      rw [← e2]
      rw [Nat.mod_add_mod] at e1
      rw [show k + q - h = k - h + q by omega]
      exact e1
    have many : ∀ (u k : Nat), h ≤ k → f k = true → f (k + u * q) = true := by
      intro u
      induction u with
      | zero => intro k _ e; rw [Nat.zero_mul]; exact e
      | succ u ih =>
        intro k hk e
        rw [Nat.succ_mul, ← Nat.add_assoc]
        exact one _ (by omega) (ih k hk e)
    intro k hk
    cases e : f k with
    | true => exact one k hk e
    | false =>
      cases e2 : f (k + q) with
      | false => rfl
      | true =>
        have e3 := many (t - 1) (k + q) (by omega) e2
        have e4 := per_mul hp q k hk
        rw [show k + q + (t - 1) * q = k + q * t by
          obtain ⟨s, rfl⟩ : ∃ s, t = s + 1 := ⟨t - 1, by omega⟩
          rw [Nat.add_sub_cancel, Nat.mul_add, Nat.mul_one, Nat.mul_comm q s]
          omega, e4, e] at e3
        cases e3
  · intro hq i hi e
    have e1 := md (h + (i + q)) (by omega)
    rw [show h + (i + q) - h = i + q by omega] at e1
    rw [e1, ← Nat.add_assoc, hq (h + i) (by omega)]
    exact e
/-- the law's test: two stretches alike -/
theorem stretch_iff {t q h : Nat} (ht : 1 ≤ t) (hp : ∀ k, h ≤ k → f (k + t) = f k) : (∀ i, i < t → f (h + i) = f (h + q + i)) ↔ ∀ k, h ≤ k → f (k + q) = f k := by
  constructor
  · intro hq
    refine (part_iff ht hp).mp fun i hi e => ?_
    have e1 := per_mod hp (h + q + i) (by omega)
    rw [show h + q + i - h = i + q by omega] at e1
    rw [e1, ← hq i hi]
    exact e
  · intro hq i _
    rw [show h + q + i = h + i + q by omega]
    exact (hq _ (by omega)).symm
/-- the first part of 1 .. t that is a period (the program's: that divides t too) is the least turn -/
theorem first_low {t h q : Nat} (ht : 1 ≤ t) (hp : ∀ k, h ≤ k → f (k + t) = f k) (h1 : 1 ≤ q) (hq : ∀ k, h ≤ k → f (k + q) = f k)
    (first : ∀ r, 1 ≤ r → r < q → t % r = 0 → ¬ ∀ k, h ≤ k → f (k + r) = f k) : ∀ r m, 1 ≤ r → (∀ k, m ≤ k → f (k + r) = f k) → q ≤ r := by
  -- the least period
  have ex : ∀ r, 1 ≤ r → (∀ k, h ≤ k → f (k + r) = f k) → ∃ p, 1 ≤ p ∧ p ≤ r ∧ (∀ k, h ≤ k → f (k + p) = f k) ∧ ∀ s, 1 ≤ s → (∀ k, h ≤ k → f (k + s) = f k) → p ≤ s := by
    intro r
    induction r using Nat.strongRecOn with
    | ind r ih =>
      intro hr1 hr
      by_cases hd : ∃ s, 1 ≤ s ∧ s < r ∧ ∀ k, h ≤ k → f (k + s) = f k
      · obtain ⟨s, s1, s2, s3⟩ := hd
        obtain ⟨p, p1, p2, p3, p4⟩ := ih s s2 s1 s3
        exact ⟨p, p1, by omega, p3, p4⟩
      · exact ⟨r, hr1, Nat.le_refl _, hr, fun s s1 s3 => Nat.le_of_not_lt fun hl => hd ⟨s, s1, hl, s3⟩⟩
  intro r m hr1 hr
  obtain ⟨p, p1, p2, p3, p4⟩ := ex r hr1 (per_back ht hp hr)
  have dv : t % p = 0 := low_dvd p1 p3 (fun s m' s1 s3 => p4 s s1 (per_back ht hp s3)) hp
  apply Nat.le_of_not_lt
  intro hl
  exact first p p1 (by omega) dv p3
/-- from the found turn and head -/
theorem isRnd_of {t h q g : Nat} (ht : 1 ≤ t) (hp : ∀ k, h ≤ k → f (k + t) = f k) (h1 : 1 ≤ q) (hq : ∀ k, h ≤ k → f (k + q) = f k)
    (first : ∀ r, 1 ≤ r → r < q → t % r = 0 → ¬ ∀ k, h ≤ k → f (k + r) = f k) (hg : g ≤ h) (back : ∀ i, g ≤ i → i < h → f i = f (i + q)) (stop : g = 0 ∨ f (g - 1) ≠ f (g - 1 + q)) : IsRnd f g q := by
  refine ⟨h1, fun k hk => ?_, first_low ht hp h1 hq first, stop⟩
  by_cases hl : k < h
  · exact (back k hk hl).symm
  · exact hq k (by omega)
/-- there is one -/
theorem isRnd_ex {t m : Nat} (ht : 1 ≤ t) (hp : ∀ k, m ≤ k → f (k + t) = f k) : ∃ h p, IsRnd f h p ∧ h ≤ m ∧ p ≤ t := by
  -- the first period that divides t
  have ex : ∀ r, 1 ≤ r → (∀ k, m ≤ k → f (k + r) = f k) → ∃ p, 1 ≤ p ∧ p ≤ r ∧ (∀ k, m ≤ k → f (k + p) = f k) ∧ ∀ s, 1 ≤ s → s < p → t % s = 0 → ¬ ∀ k, m ≤ k → f (k + s) = f k := by
    intro r
    induction r using Nat.strongRecOn with
    | ind r ih =>
      intro hr1 hr
      by_cases hd : ∃ s, 1 ≤ s ∧ s < r ∧ ∀ k, m ≤ k → f (k + s) = f k
      · obtain ⟨s, s1, s2, s3⟩ := hd
        obtain ⟨p, p1, p2, p3, p4⟩ := ih s s2 s1 s3
        exact ⟨p, p1, by omega, p3, p4⟩
      · exact ⟨r, hr1, Nat.le_refl _, hr, fun s s1 s2 _ s3 => hd ⟨s, s1, s2, s3⟩⟩
  obtain ⟨p, p1, p2, p3, p4⟩ := ex t ht hp
  have hx : ∀ d, d ≤ m → ∃ g, g ≤ m - d ∧ (∀ i, g ≤ i → i < m - d → f i = f (i + p)) ∧ (g = 0 ∨ f (g - 1) ≠ f (g - 1 + p)) := by
    intro d hd
    generalize hz : m - d = z
    clear hz hd
    induction z with
    | zero => exact ⟨0, Nat.le_refl _, fun i _ h => absurd h (Nat.not_lt_zero _), .inl rfl⟩
    | succ z ih =>
      by_cases e : f z = f (z + p)
      · obtain ⟨g, g1, g2, g3⟩ := ih
        refine ⟨g, by omega, fun i h1 h2 => ?_, g3⟩
        by_cases hi : i = z
        · rw [hi]; exact e
        · exact g2 i h1 (by omega)
      · exact ⟨z + 1, Nat.le_refl _, fun i h1 h2 => by omega, .inr (by rw [Nat.add_sub_cancel]; exact e)⟩
  obtain ⟨g, g1, g2, g3⟩ := hx 0 (Nat.zero_le _)
  rw [Nat.sub_zero] at g1 g2
  exact ⟨g, p, isRnd_of ht hp p1 p3 p4 g1 g2 g3, g1, p2⟩
end
/-- what of a round's numbers is told -/
def rlot (f : Nat → Bool) (h p : Nat) : List Nat := (List.range (h + p)).filter f
theorem mem_rlot {f : Nat → Bool} {h p k : Nat} : k ∈ rlot f h p ↔ k < h + p ∧ f k = true := by
  unfold rlot
  rw [List.mem_filter, List.mem_range]
theorem IsRnd.mem {f : Nat → Bool} {h p : Nat} (r : IsRnd f h p) (k : Nat) : f k = if k < h then decide (k ∈ rlot f h p) else decide (h + (k - h) % p ∈ rlot f h p) := by
  by_cases hk : k < h
  · rw [if_pos hk]
    cases e : f k with
    | true => exact (decide_eq_true (mem_rlot.mpr ⟨by omega, e⟩)).symm
    | false => exact (decide_eq_false fun z => by rw [(mem_rlot.mp z).2] at e; cases e).symm
  · rw [if_neg hk]
    have hm := per_mod r.per k (by omega)
    have hl := Nat.mod_lt (k - h) r.pos
    cases e : f k with
    | true => exact (decide_eq_true (mem_rlot.mpr ⟨by omega, by rw [hm]; exact e⟩)).symm
    | false => exact (decide_eq_false fun z => by have := (mem_rlot.mp z).2; rw [hm, e] at this; cases this).symm

end K53
namespace K53


structure Hou where
  hs : Nat
  ls : Nat
  rows : List (Nat × Nat)
def Hou.n (g : Hou) : Nat := g.hs * g.ls
structure Hou.Ok (g : Hou) : Prop where
  h2 : 2 ≤ g.hs
  h4 : g.hs ≤ 4
  l2 : 2 ≤ g.ls
  l4 : g.ls ≤ 4
  len : g.rows.length = g.n
  rng : ∀ r ∈ g.rows, r.1 < g.hs ∧ r.2 < g.ls
def Hou.row (g : Hou) (k : Nat) : Nat × Nat := g.rows.getD k (0, 0)
/-- a step from couple a to couple b, by numbers -/
def Hou.stp (g : Hou) (a b : Nat) : Bool := decide (g.row (a / g.ls * g.ls + b % g.ls) = (b / g.ls, a % g.ls))
def Hou.ahead (g : Hou) (a : Nat) : List Nat := (List.range g.n).filter (g.stp a)
def Hou.nxt (g : Hou) (S : List Nat) : List Nat := (List.range g.n).filter fun b => S.any fun a => g.stp a b
def Hou.lot (g : Hou) (S : List Nat) : Nat → List Nat
  | 0 => S
  | k + 1 => g.nxt (g.lot S k)
def Hou.wh (g : Hou) (h : Nat) : List Nat := (List.range g.ls).map fun y => h * g.ls + y
def Hou.wl (g : Hou) (y : Nat) : List Nat := (List.range g.hs).map fun h => h * g.ls + y
/-- is there a story of k days from hand h with blank b -/
def Hou.tr (g : Hou) (h b k : Nat) : Bool := (g.lot (g.wh h) k).any fun x => decide (x ∈ g.wl b)
/-- is there one at all -/
def Hou.go (g : Hou) (h k : Nat) : Bool := !(g.lot (g.wh h) k).isEmpty
def Hou.E (g : Hou) (a b : Nat) : Prop := a < g.n ∧ b < g.n ∧ g.stp a b = true

section
variable {g : Hou}
theorem Hou.Ok.n16 (o : g.Ok) : g.n ≤ 16 := Nat.le_trans (Nat.mul_le_mul o.h4 o.l4) (by decide)
theorem Hou.Ok.n4 (o : g.Ok) : 4 ≤ g.n := Nat.le_trans (by decide : 4 ≤ 2 * 2) (Nat.mul_le_mul o.h2 o.l2)
theorem Hou.E_lt : ∀ a b, g.E a b → a < g.n ∧ b < g.n := fun _ _ e => ⟨e.1, e.2.1⟩
theorem Hou.num_lt (o : g.Ok) {h y : Nat} (hh : h < g.hs) (hy : y < g.ls) : h * g.ls + y < g.n := by
  have := Nat.mul_le_mul_right g.ls (show h + 1 ≤ g.hs by omega)
  rw [Nat.succ_mul] at this
  unfold Hou.n
  omega
theorem Hou.num_div (o : g.Ok) {h y : Nat} (hy : y < g.ls) : (h * g.ls + y) / g.ls = h := by
  rw [Nat.mul_comm, Nat.mul_add_div (by omega), Nat.div_eq_of_lt hy, Nat.add_zero]
theorem Hou.num_mod (o : g.Ok) {h y : Nat} (hy : y < g.ls) : (h * g.ls + y) % g.ls = y := by
  rw [Nat.mul_comm, Nat.mul_add_mod, Nat.mod_eq_of_lt hy]
theorem Hou.div_lt (o : g.Ok) {x : Nat} (hx : x < g.n) : x / g.ls < g.hs := (Nat.div_lt_iff_lt_mul (by have := o.l2; omega)).mpr hx
theorem Hou.mod_lt (o : g.Ok) (x : Nat) : x % g.ls < g.ls := Nat.mod_lt _ (by have := o.l2; omega)
theorem Hou.num_eq (x : Nat) : x / g.ls * g.ls + x % g.ls = x := by rw [Nat.mul_comm]; exact Nat.div_add_mod x g.ls
theorem Hou.mem_wh (o : g.Ok) {h x : Nat} (hh : h < g.hs) : x ∈ g.wh h ↔ x < g.n ∧ x / g.ls = h := by
  unfold Hou.wh
  constructor
  · intro hx
    obtain ⟨y, hy, rfl⟩ := List.mem_map.mp hx
    have hy := List.mem_range.mp hy
    exact ⟨Hou.num_lt o hh hy, Hou.num_div o hy⟩
  · rintro ⟨hx, rfl⟩
    exact List.mem_map.mpr ⟨x % g.ls, List.mem_range.mpr (Hou.mod_lt o x), Hou.num_eq x⟩
theorem Hou.mem_wl (o : g.Ok) {b x : Nat} (hb : b < g.ls) : x ∈ g.wl b ↔ x < g.n ∧ x % g.ls = b := by
  unfold Hou.wl
  constructor
  · intro hx
    obtain ⟨h, hh, rfl⟩ := List.mem_map.mp hx
    have hh := List.mem_range.mp hh
    exact ⟨Hou.num_lt o hh hb, Hou.num_mod o hb⟩
  · rintro ⟨hx, rfl⟩
    exact List.mem_map.mpr ⟨x / g.ls, List.mem_range.mpr (Hou.div_lt o hx), Hou.num_eq x⟩
theorem Hou.wh_lt (o : g.Ok) {h : Nat} (hh : h < g.hs) : ∀ x ∈ g.wh h, x < g.n := fun x hx => ((Hou.mem_wh o hh).mp hx).1
theorem Hou.wh_ne (o : g.Ok) (h : Nat) : g.wh h ≠ [] := by
  have := o.l2
  intro e
  have e2 := congrArg List.length e
  unfold Hou.wh at e2
  rw [List.length_map, List.length_range] at e2
  simp at e2
  omega
theorem Hou.mem_ahead {a b : Nat} : b ∈ g.ahead a ↔ b < g.n ∧ g.stp a b = true := by
  unfold Hou.ahead
  rw [List.mem_filter, List.mem_range]
theorem Hou.mem_nxt {S : List Nat} {b : Nat} : b ∈ g.nxt S ↔ b < g.n ∧ ∃ a, a ∈ S ∧ g.stp a b = true := by
  unfold Hou.nxt
  rw [List.mem_filter, List.mem_range, List.any_eq_true]
theorem Hou.lot_lt {S : List Nat} (hS : ∀ x ∈ S, x < g.n) : ∀ k, ∀ x ∈ g.lot S k, x < g.n
  | 0 => hS
  | _ + 1 => fun _ hx => (Hou.mem_nxt.mp hx).1
theorem Hou.mem_lot {S : List Nat} (hS : ∀ x ∈ S, x < g.n) : ∀ {k b : Nat}, b ∈ g.lot S k ↔ ∃ a, a ∈ S ∧ R g.E k a b
  | 0, b => ⟨fun h => ⟨b, h, rfl⟩, fun ⟨a, h, e⟩ => by cases (show a = b from e); exact h⟩
  | k + 1, b => by
    show b ∈ g.nxt (g.lot S k) ↔ _
    rw [Hou.mem_nxt]
    constructor
    · rintro ⟨hb, c, hc, hs⟩
      obtain ⟨a, ha, r⟩ := (Hou.mem_lot hS).mp hc
      exact ⟨a, ha, R_add (k := 1) r ⟨b, ⟨Hou.lot_lt hS k c hc, hb, hs⟩, rfl⟩⟩
    · rintro ⟨a, ha, r⟩
      obtain ⟨c, r1, b', e, r2⟩ := R_split (j := k) (k := 1) r
      cases (show b' = b from r2)
      exact ⟨e.2.1, c, (Hou.mem_lot hS).mpr ⟨a, ha, r1⟩, e.2.2⟩
theorem Hou.lot_succ (S : List Nat) (k : Nat) : g.lot S (k + 1) = g.nxt (g.lot S k) := rfl
/-- lots behind one step are told by what stands in them -/
theorem Hou.lot_ext {S S' : List Nat} {j k : Nat} (h : ∀ b, b < g.n → (b ∈ g.lot S (j + 1) ↔ b ∈ g.lot S' (k + 1))) : g.lot S (j + 1) = g.lot S' (k + 1) := by
  show (List.range g.n).filter _ = (List.range g.n).filter _
  refine List.filter_congr fun b hb => ?_
  have hb := List.mem_range.mp hb
  have q := h b hb
  rw [Hou.lot_succ, Hou.lot_succ, Hou.mem_nxt, Hou.mem_nxt] at q
  rw [Bool.eq_iff_iff, List.any_eq_true, List.any_eq_true]
  exact ⟨fun z => (q.mp ⟨hb, z⟩).2, fun z => (q.mpr ⟨hb, z⟩).2⟩
/-- the lots come round -/
theorem Hou.orb_ex (o : g.Ok) {S : List Nat} (hS : ∀ x ∈ S, x < g.n) : ∃ i j, i < j ∧ j ≤ 836 ∧ g.lot S i = g.lot S j := by
  obtain ⟨P, h1, h2, h3⟩ := comes_round (E := g.E) g.n o.n16 Hou.E_lt
  refine ⟨512, 512 + P, by omega, by omega, ?_⟩
  have e : 512 + P = (511 + P) + 1 := by omega
  rw [e]
  refine Hou.lot_ext (j := 511) (k := 511 + P) fun b hb => ?_
  rw [show 511 + P + 1 = 512 + P by omega]
  show b ∈ g.lot S 512 ↔ _
  rw [Hou.mem_lot hS, Hou.mem_lot hS]
  exact ⟨fun ⟨a, ha, r⟩ => ⟨a, ha, (h3 512 (by omega) a b (hS a ha)).mp r⟩, fun ⟨a, ha, r⟩ => ⟨a, ha, (h3 512 (by omega) a b (hS a ha)).mpr r⟩⟩
theorem Hou.orb_le (o : g.Ok) {S : List Nat} (hS : ∀ x ∈ S, x < g.n) {T m : Nat} (b : Orb (g.lot S) T m) : T ≤ 836 := by
  obtain ⟨i, j, h1, h2, e⟩ := Hou.orb_ex o hS
  have := b.le h1 e
  omega
/-- so many unlike lots can't stand in a row -/
theorem Hou.dif_le (o : g.Ok) {S : List Nat} (hS : ∀ x ∈ S, x < g.n) {T : Nat} (h : ∀ i j, i < j → j < T → g.lot S i ≠ g.lot S j) : T ≤ 836 := by
  obtain ⟨i, j, h1, h2, e⟩ := Hou.orb_ex o hS
  apply Nat.le_of_not_lt
  intro hl
  exact h i j h1 (by omega) e
theorem Hou.tr_per {h b T m : Nat} (o : Orb (g.lot (g.wh h)) T m) : ∀ k, m ≤ k → g.tr h b (k + (T - m)) = g.tr h b k := fun k hk => by
  unfold Hou.tr
  rw [o.per (F := g.nxt) (fun _ => rfl) k hk]
theorem Hou.go_per {h T m : Nat} (o : Orb (g.lot (g.wh h)) T m) : ∀ k, m ≤ k → g.go h (k + (T - m)) = g.go h k := fun k hk => by
  unfold Hou.go
  rw [o.per (F := g.nxt) (fun _ => rfl) k hk]
/-- some blank's story -/
theorem Hou.go_any (o : g.Ok) {h : Nat} (hh : h < g.hs) (k : Nat) : g.go h k = (List.range g.ls).any fun b => g.tr h b k := by
  rw [Bool.eq_iff_iff, List.any_eq_true]
  unfold Hou.go
  constructor
  · intro hn
    cases e : g.lot (g.wh h) k with
    | nil => rw [e] at hn; cases hn
    | cons x xs =>
      have hx : x < g.n := Hou.lot_lt (Hou.wh_lt o hh) k x (by rw [e]; exact List.mem_cons_self ..)
      refine ⟨x % g.ls, List.mem_range.mpr (Hou.mod_lt o x), ?_⟩
      unfold Hou.tr
      rw [e, List.any_cons, decide_eq_true ((Hou.mem_wl o (Hou.mod_lt o x)).mpr ⟨hx, rfl⟩), Bool.true_or]
  · rintro ⟨b, _, hb⟩
    unfold Hou.tr at hb
    cases e : g.lot (g.wh h) k with
    | nil => rw [e] at hb; cases hb
    | cons x xs => rfl
theorem Hou.lot_nil {S : List Nat} {k : Nat} (h : g.lot S k = []) : ∀ d, g.lot S (k + d) = []
  | 0 => h
  | d + 1 => by
    show g.nxt (g.lot S (k + d)) = []
    rw [Hou.lot_nil h d]
    unfold Hou.nxt
    rw [List.filter_eq_nil_iff]
    intro x _ hx
    cases hx
/-- ends, or comes never to nothing -/
theorem Hou.ends_iff {S : List Nat} {T m : Nat} (o : Orb (g.lot S) T m) : (∃ k, g.lot S k = []) ↔ ∃ k, k < T ∧ g.lot S k = [] := by
  constructor
  · rintro ⟨k, hk⟩
    by_cases hl : k < T
    · exact ⟨k, hl, hk⟩
    · have hm := o.lt
      refine ⟨m + (k - m) % (T - m), ?_, ?_⟩
      · have := Nat.mod_lt (k - m) (show 0 < T - m by omega)
        omega
      · rw [o.rep (F := g.nxt) (fun _ => rfl) k (by omega)]
        exact hk
  · rintro ⟨k, _, hk⟩
    exact ⟨k, hk⟩

/-! ### couples that step on for ever -/
def Hou.al (g : Hou) : Nat → List Nat
  | 0 => List.range g.n
  | j + 1 => (g.al j).filter fun x => (g.ahead x).any fun y => decide (y ∈ g.al j)
theorem Hou.al_lt : ∀ j, ∀ x ∈ g.al j, x < g.n
  | 0 => fun x hx => List.mem_range.mp hx
  | j + 1 => fun x hx => Hou.al_lt j x (List.mem_filter.mp hx).1
theorem Hou.al_nd : ∀ j, (g.al j).Nodup
  | 0 => List.nodup_range
  | j + 1 => (Hou.al_nd j).sublist List.filter_sublist
theorem Hou.mem_al_succ {j x : Nat} : x ∈ g.al (j + 1) ↔ x ∈ g.al j ∧ ∃ y, y ∈ g.al j ∧ g.stp x y = true := by
  show x ∈ (g.al j).filter _ ↔ _
  rw [List.mem_filter, List.any_eq_true]
  constructor
  · rintro ⟨h, y, hy, hd⟩
    exact ⟨h, y, of_decide_eq_true hd, (Hou.mem_ahead.mp hy).2⟩
  · rintro ⟨h, y, hy, hs⟩
    exact ⟨h, y, Hou.mem_ahead.mpr ⟨Hou.al_lt j y hy, hs⟩, decide_eq_true hy⟩
/-- a way of j steps keeps j turns -/
theorem Hou.al_of : ∀ {j x y : Nat}, x < g.n → R g.E j x y → x ∈ g.al j := by
  have sub : ∀ j x y, R g.E (j + 1) x y → x < g.n → (∀ z w, R g.E j z w → z < g.n → z ∈ g.al j) → x ∈ g.al (j + 1) := by
    intro j x y r hx ih
    obtain ⟨c, e, r'⟩ := r
    refine Hou.mem_al_succ.mpr ⟨?_, c, ih c y r' e.2.1, e.2.2⟩
    obtain ⟨z, r1, _⟩ := R_split (j := j) (k := 1) (show R g.E (j + 1) x y from ⟨c, e, r'⟩)
    exact ih x z r1 hx
  have all : ∀ j, ∀ z w, R g.E j z w → z < g.n → z ∈ g.al j := by
    intro j
    induction j with
    | zero => intro z w _ hz; exact List.mem_range.mpr hz
    | succ j ih => intro z w r hz; exact sub j z w r hz ih
  intro j x y hx r
  exact all j x y r hx
/-- behind as many turns as there are couples nothing falls any more -/
theorem Hou.al_stop : ∀ j, g.al (j + 1) = g.al j ∨ (g.al (j + 1)).length + 1 ≤ (g.al j).length := by
  intro j
  show (g.al j).filter _ = g.al j ∨ _
  by_cases h : ∀ x ∈ g.al j, ((g.ahead x).any fun y => decide (y ∈ g.al j)) = true
  · exact .inl (List.filter_eq_self.mpr h)
  · refine .inr ?_
    show ((g.al j).filter _).length + 1 ≤ _
    have : ((g.al j).filter fun x => (g.ahead x).any fun y => decide (y ∈ g.al j)).length ≠ (g.al j).length := fun e => h (List.length_filter_eq_length_iff.mp e)
    have := List.length_filter_le (fun x => (g.ahead x).any fun y => decide (y ∈ g.al j)) (g.al j)
    omega
theorem Hou.al_keep {j : Nat} (h : g.al (j + 1) = g.al j) : ∀ d, g.al (j + d) = g.al j
  | 0 => rfl
  | d + 1 => by
    have ih := Hou.al_keep h d
    have e : g.al (j + d + 1) = (g.al (j + d)).filter fun x => (g.ahead x).any fun y => decide (y ∈ g.al (j + d)) := rfl
    rw [ih] at e
    exact e.trans h
theorem Hou.al_fix : g.al (g.n + 1) = g.al g.n := by
  have key : ∀ j, j ≤ g.n → (∃ i, i < j ∧ g.al (i + 1) = g.al i) ∨ (g.al j).length + j ≤ g.n := by
    intro j
    induction j with
    | zero =>
      intro _
      refine .inr ?_
      show (List.range g.n).length + 0 ≤ g.n
      rw [List.length_range]
      exact Nat.le_refl _
    | succ j ih =>
      intro hj
      rcases ih (by omega) with ⟨i, h1, h2⟩ | h
      · exact .inl ⟨i, by omega, h2⟩
      · rcases Hou.al_stop (g := g) j with e | e
        · exact .inl ⟨j, by omega, e⟩
        · exact .inr (by omega)
  rcases key g.n (Nat.le_refl _) with ⟨i, h1, h2⟩ | h
  · have e1 := Hou.al_keep h2 (g.n - i)
    have e2 := Hou.al_keep h2 (g.n + 1 - i)
    rw [show i + (g.n - i) = g.n by omega] at e1
    rw [show i + (g.n + 1 - i) = g.n + 1 by omega] at e2
    rw [e1, e2]
  · have e : g.al g.n = [] := List.eq_nil_of_length_eq_zero (by omega)
    show (g.al g.n).filter _ = _
    rw [e]
    rfl
theorem Hou.al_step {x : Nat} (h : x ∈ g.al g.n) : ∃ y, y ∈ g.al g.n ∧ g.stp x y = true := by
  rw [← Hou.al_fix] at h
  exact (Hou.mem_al_succ.mp h).2
theorem Hou.al_on {S : List Nat} {x : Nat} (hS : ∀ z ∈ S, z < g.n) (hx : x ∈ S) (h : x ∈ g.al g.n) : ∀ k, ∃ y, y ∈ g.lot S k ∧ y ∈ g.al g.n
  | 0 => ⟨x, hx, h⟩
  | k + 1 => by
    obtain ⟨y, h1, h2⟩ := Hou.al_on hS hx h k
    obtain ⟨z, h3, h4⟩ := Hou.al_step h2
    exact ⟨z, Hou.mem_nxt.mpr ⟨Hou.al_lt _ z h3, y, h1, h4⟩, h3⟩
/-- the couples give out exactly if none of the beginnings stays -/
theorem Hou.ends_al {S : List Nat} (hS : ∀ z ∈ S, z < g.n) : (∃ k, g.lot S k = []) ↔ ∀ x ∈ S, x ∉ g.al g.n := by
  constructor
  · rintro ⟨k, hk⟩ x hx h
    obtain ⟨y, h1, _⟩ := Hou.al_on hS hx h k
    rw [hk] at h1
    cases h1
  · intro h
    refine ⟨g.n, ?_⟩
    cases e : g.lot S g.n with
    | nil => rfl
    | cons y ys =>
      obtain ⟨a, ha, r⟩ := (Hou.mem_lot hS).mp (show y ∈ g.lot S g.n by rw [e]; exact List.mem_cons_self ..)
      exact absurd (Hou.al_of (hS a ha) r) (h a ha)

/-! ### far days by doubling -/
/-- the couples behind d steps from x, told as sorted -/
def Hou.bnd (g : Hou) (d x : Nat) : List Nat := g.lot [x] d
def Hou.jn (g : Hou) (base : List (List Nat)) (S : List Nat) : List Nat := (List.range g.n).filter fun b => S.any fun a => decide (b ∈ base.getD a [])
theorem Hou.jn_bnd {k m x : Nat} (hx : x < g.n) (hm : 1 ≤ m) : g.jn ((List.range g.n).map (g.bnd m)) (g.bnd k x) = g.bnd (k + m) x := by
  obtain ⟨m, rfl⟩ : ∃ s, m = s + 1 := ⟨m - 1, by omega⟩
  have hS : ∀ z ∈ [x], z < g.n := fun z hz => by rw [List.mem_singleton.mp hz]; exact hx
  show (List.range g.n).filter _ = (List.range g.n).filter _
  refine List.filter_congr fun b hb => ?_
  have hb := List.mem_range.mp hb
  rw [Bool.eq_iff_iff, List.any_eq_true, List.any_eq_true]
  have q : (∃ a, a ∈ g.lot [x] (k + m) ∧ g.stp a b = true) ↔ b ∈ g.lot [x] (k + (m + 1)) := by
    show _ ↔ b ∈ g.nxt (g.lot [x] (k + m))
    rw [Hou.mem_nxt]
    exact ⟨fun z => ⟨hb, z⟩, fun z => z.2⟩
  refine Iff.trans ?_ q.symm
  · rw [Hou.mem_lot hS]
    constructor
    · rintro ⟨a, ha, hd⟩
      have hal : a < g.n := Hou.lot_lt hS k a ha
      have hd := of_decide_eq_true hd
      rw [List.getD_eq_getElem?_getD, List.getElem?_map, List.getElem?_range hal] at hd
      have hd : b ∈ g.lot [a] (m + 1) := hd
      obtain ⟨a', ha', r⟩ := (Hou.mem_lot (fun z hz => by rw [List.mem_singleton.mp hz]; exact hal)).mp hd
      rw [List.mem_singleton.mp ha'] at r
      obtain ⟨x', hx', r'⟩ := (Hou.mem_lot hS).mp ha
      exact ⟨x', hx', R_add r' r⟩
    · rintro ⟨x', hx', r⟩
      obtain ⟨a, r1, r2⟩ := R_split r
      have ha : a ∈ g.lot [x] k := (Hou.mem_lot hS).mpr ⟨x', hx', r1⟩
      have hal : a < g.n := Hou.lot_lt hS k a ha
      refine ⟨a, ha, decide_eq_true ?_⟩
      rw [List.getD_eq_getElem?_getD, List.getElem?_map, List.getElem?_range hal]
      exact (Hou.mem_lot (fun z hz => by rw [List.mem_singleton.mp hz]; exact hal)).mpr ⟨a, List.mem_singleton.mpr rfl, r2⟩
theorem Hou.bnd_one {x : Nat} : g.bnd 1 x = g.ahead x := by
  show (List.range g.n).filter _ = (List.range g.n).filter _
  refine List.filter_congr fun b _ => ?_
  show ([x].any fun a => g.stp a b) = _
  rw [List.any_cons, List.any_nil, Bool.or_false]
theorem Hou.mem_bnds (o : g.Ok) {h d b : Nat} (hh : h < g.hs) : (∃ a, a ∈ g.wh h ∧ b ∈ g.bnd d a) ↔ b ∈ g.lot (g.wh h) d := by
  rw [Hou.mem_lot (Hou.wh_lt o hh)]
  constructor
  · rintro ⟨a, ha, hb⟩
    obtain ⟨a', ha', r⟩ := (Hou.mem_lot (fun z hz => by rw [List.mem_singleton.mp hz]; exact Hou.wh_lt o hh a ha)).mp hb
    rw [List.mem_singleton.mp ha'] at r
    exact ⟨a, ha, r⟩
  · rintro ⟨a, ha, r⟩
    exact ⟨a, ha, (Hou.mem_lot (fun z hz => by rw [List.mem_singleton.mp hz]; exact Hou.wh_lt o hh a ha)).mpr ⟨a, List.mem_singleton.mpr rfl, r⟩⟩
end

end K53
namespace K53

/-! ### sorted lists; what lists_ahead gathers -/
theorem lt_uniq : ∀ {a b : List Nat}, a.Pairwise (· < ·) → b.Pairwise (· < ·) → (∀ x, x ∈ a ↔ x ∈ b) → a = b
  | [], [], _, _, _ => rfl
  | [], y :: b, _, _, h => absurd ((h y).mpr (List.mem_cons_self ..)) (List.not_mem_nil)
  | x :: a, [], _, _, h => absurd ((h x).mp (List.mem_cons_self ..)) (List.not_mem_nil)
  | x :: a, y :: b, ha, hb, h => by
    have ha' := List.pairwise_cons.mp ha
    have hb' := List.pairwise_cons.mp hb
    have hxy : x = y := by
      have h1 := (h x).mp (List.mem_cons_self ..)
      have h2 := (h y).mpr (List.mem_cons_self ..)
      rcases List.mem_cons.mp h1 with e | e
      · exact e
      · rcases List.mem_cons.mp h2 with e' | e'
        · exact e'.symm
        · have := hb'.1 x e
          have := ha'.1 y e'
          omega
    subst hxy
    refine congrArg _ (lt_uniq ha'.2 hb'.2 fun z => ?_)
    constructor
    · intro hz
      rcases List.mem_cons.mp ((h z).mp (List.mem_cons_of_mem _ hz)) with e | e
      · have := ha'.1 z hz
        omega
      · exact e
    · intro hz
      rcases List.mem_cons.mp ((h z).mpr (List.mem_cons_of_mem _ hz)) with e | e
      · have := hb'.1 z hz
        omega
      · exact e
theorem nats_of : ∀ {ns : List Int}, (∀ x ∈ ns, (0 : Int) ≤ x) → ∃ ms : List Nat, ns = ms.map fun (m : Nat) => (m : Int)
  | [], _ => ⟨[], rfl⟩
  | x :: ns, h => by
    obtain ⟨ms, e⟩ := nats_of (ns := ns) fun y hy => h y (List.mem_cons_of_mem _ hy)
    have := h x (List.mem_cons_self ..)
    exact ⟨x.toNat :: ms, by rw [List.map_cons, ← e, Int.toNat_of_nonneg this]⟩
/-- what sorted gives of whole numbers without doubles -/
theorem srt_eq {ns : List Int} {ms bs : List Nat} (hp : ns.Perm (ms.map fun (m : Nat) => (m : Int))) (hs : ns.Pairwise (· ≤ ·)) (hn : ms.Nodup) (hb : bs.Pairwise (· < ·)) (hm : ∀ x, x ∈ ms ↔ x ∈ bs) : ns = bs.map fun (m : Nat) => (m : Int) := by
  have hmem : ∀ y, y ∈ ns ↔ ∃ m, m ∈ ms ∧ (m : Int) = y := fun y => by rw [hp.mem_iff, List.mem_map]
  obtain ⟨ks, e⟩ := nats_of (ns := ns) fun x hx => by
    obtain ⟨m, _, rfl⟩ := (hmem x).mp hx
    omega
  subst e
  have hnd : (ks.map fun (m : Nat) => (m : Int)).Nodup := hp.nodup_iff.mpr (by
    rw [List.Nodup, List.pairwise_map]
    exact hn.imp fun h z => h (by omega))
  refine congrArg _ (lt_uniq ?_ hb fun x => ?_)
  · rw [List.pairwise_map] at hs
    rw [List.Nodup, List.pairwise_map] at hnd
    exact (hs.and hnd).imp fun ⟨h1, h2⟩ => by omega
  · rw [← hm]
    have q := hmem x
    rw [List.mem_map] at q
    constructor
    · intro hx
      obtain ⟨m, h1, h2⟩ := q.mp ⟨x, hx, rfl⟩
      have : m = x := by omega
      exact this ▸ h1
    · intro hx
      obtain ⟨m, h1, h2⟩ := q.mpr ⟨x, hx, rfl⟩
      have : m = x := by omega
      exact this ▸ h1
theorem range_lt (n : Nat) : (List.range n).Pairwise (· < ·) := List.pairwise_lt_range
theorem filter_lt {n : Nat} {p : Nat → Bool} : ((List.range n).filter p).Pairwise (· < ·) := (range_lt n).filter _
def Hou.src (g : Hou) (k : Nat) : Nat := k / g.ls * g.ls + (g.row k).2
def Hou.tgt (g : Hou) (k : Nat) : Nat := (g.row k).1 * g.ls + k % g.ls
def Hou.gat (g : Hou) (i a : Nat) : List Nat := ((List.range i).filter fun k => decide (g.src k = a)).map g.tgt
section
variable {g : Hou}
theorem Hou.gat_succ (i a : Nat) : g.gat (i + 1) a = if g.src i = a then g.gat i a ++ [g.tgt i] else g.gat i a := by
  unfold Hou.gat
  rw [List.range_succ, List.filter_append, List.map_append]
  by_cases h : g.src i = a
  · rw [if_pos h, List.filter_cons_of_pos (p := fun k => decide (g.src k = a)) (decide_eq_true h)]
    rfl
  · rw [if_neg h, List.filter_cons_of_neg (p := fun k => decide (g.src k = a)) (by rw [decide_eq_false h]; decide)]
    show _ ++ [] = _
    rw [List.append_nil]
theorem Hou.row_in (o : g.Ok) {k : Nat} (h : k < g.n) : (g.row k).1 < g.hs ∧ (g.row k).2 < g.ls := by
  unfold Hou.row
  rw [List.getD_eq_getElem?_getD, List.getElem?_eq_getElem (by rw [o.len]; exact h)]
  exact o.rng _ (List.getElem_mem _)
theorem Hou.src_lt (o : g.Ok) {k : Nat} (h : k < g.n) : g.src k < g.n := Hou.num_lt o (Hou.div_lt o h) (Hou.row_in o h).2
theorem Hou.mem_gat (o : g.Ok) {a b : Nat} (ha : a < g.n) : b ∈ g.gat g.n a ↔ b ∈ g.ahead a := by
  unfold Hou.gat
  rw [List.mem_map, Hou.mem_ahead]
  unfold Hou.stp
  rw [decide_eq_true_iff]
  constructor
  · rintro ⟨k, hk, rfl⟩
    rw [List.mem_filter, List.mem_range, decide_eq_true_iff] at hk
    obtain ⟨hk, hs⟩ := hk
    have hr := Hou.row_in o hk
    have hm := Hou.mod_lt o k
    refine ⟨Hou.num_lt o hr.1 hm, ?_⟩
    unfold Hou.tgt
    subst hs
    unfold Hou.src
    rw [Hou.num_div o hr.2, Hou.num_mod o hm, Hou.num_div o hm, Hou.num_mod o hr.2, Hou.num_eq]
  · rintro ⟨hb, e⟩
    have hk : a / g.ls * g.ls + b % g.ls < g.n := Hou.num_lt o (Hou.div_lt o ha) (Hou.mod_lt o b)
    refine ⟨a / g.ls * g.ls + b % g.ls, ?_, ?_⟩
    · rw [List.mem_filter, List.mem_range, decide_eq_true_iff]
      refine ⟨hk, ?_⟩
      unfold Hou.src
      rw [e, Hou.num_div o (Hou.mod_lt o b), Hou.num_eq]
    · unfold Hou.tgt
      rw [e, Hou.num_mod o (Hou.mod_lt o b), Hou.num_eq]
theorem Hou.gat_nd (o : g.Ok) (a : Nat) : (g.gat g.n a).Nodup := by
  unfold Hou.gat
  rw [List.Nodup, List.pairwise_map]
  refine List.Pairwise.imp_of_mem ?_ (filter_lt (n := g.n) (p := fun k => decide (g.src k = a)))
  intro x y hx hy hlt e
  rw [List.mem_filter, List.mem_range, decide_eq_true_iff] at hx hy
  have h1 := Hou.row_in o hx.1
  have h2 := Hou.row_in o hy.1
  have e1 : x / g.ls = y / g.ls := by
    have s1 : g.src x / g.ls = g.src y / g.ls := congrArg (· / g.ls) (hx.2.trans hy.2.symm)
    unfold Hou.src at s1
    rwa [Hou.num_div o h1.2, Hou.num_div o h2.2] at s1
  have e2 : x % g.ls = y % g.ls := by
    have s1 : g.tgt x % g.ls = g.tgt y % g.ls := congrArg (· % g.ls) e
    unfold Hou.tgt at s1
    rwa [Hou.num_mod o (Hou.mod_lt o x), Hou.num_mod o (Hou.mod_lt o y)] at s1
  have := Hou.num_eq (g := g) x
  have := Hou.num_eq (g := g) y
  rw [e1, e2] at *
  omega
theorem Hou.gat_srt (o : g.Ok) {a : Nat} (ha : a < g.n) {ns : List Int} (hp : ns.Perm ((g.gat g.n a).map fun (m : Nat) => (m : Int))) (hs : ns.Pairwise (· ≤ ·)) : ns = (g.ahead a).map fun (m : Nat) => (m : Int) :=
  srt_eq hp hs (Hou.gat_nd o a) filter_lt fun _ => Hou.mem_gat o ha
end

end K53
namespace K53

/-! ### what least_telling finds -/
section
variable {f : Nat → Bool} {h t : Nat}
theorem rlot_nd (f : Nat → Bool) (h t : Nat) : (rlot f h t).Nodup := List.nodup_range.sublist List.filter_sublist
theorem rlot_len (f : Nat → Bool) (h t : Nat) : (rlot f h t).length ≤ h + t := by
  unfold rlot
  refine Nat.le_trans (List.length_filter_le _ _) ?_
  rw [List.length_range]
  exact Nat.le_refl _
theorem filter_range_le {M N : Nat} (p : Nat → Bool) (hM : M ≤ N) : ((List.range N).filter p).filter (fun n => decide (n < M)) = (List.range M).filter p := by
  refine lt_uniq (filter_lt.filter _) filter_lt fun x => ?_
  rw [List.mem_filter, List.mem_filter, List.mem_range, List.mem_filter, List.mem_range, decide_eq_true_iff]
  exact ⟨fun z => ⟨z.2, z.1.2⟩, fun z => ⟨⟨by omega, z.2⟩, z.1⟩⟩
theorem cb_iff (ht : 1 ≤ t) (q : Nat) : (((rlot f h t).filter fun n => decide (h ≤ n)).all fun n => decide (h + (n - h + q) % t ∈ rlot f h t)) = true ↔ part f h t q := by
  rw [List.all_eq_true]
  constructor
  · intro hA i hi e
    have hm := hA (h + i) (List.mem_filter.mpr ⟨mem_rlot.mpr ⟨by omega, e⟩, decide_eq_true (by omega)⟩)
    have := (mem_rlot.mp (of_decide_eq_true hm)).2
    rwa [Nat.add_sub_cancel_left] at this
  · intro hp n hn
    obtain ⟨h1, h2⟩ := List.mem_filter.mp hn
    have h2 := of_decide_eq_true h2
    obtain ⟨h3, h4⟩ := mem_rlot.mp h1
    have hl := Nat.mod_lt (n - h + q) (show 0 < t by omega)
    refine decide_eq_true (mem_rlot.mpr ⟨by omega, hp (n - h) (by omega) ?_⟩)
    rw [show h + (n - h) = n by omega]
    exact h4
end

end K53
namespace K53

/-! ### what numbers_below gathers -/
section
variable {f : Nat → Bool} {h t lim : Nat}
def agn (f : Nat → Bool) (h t : Nat) : List Nat := (rlot f h t).filter fun n => decide (h ≤ n)
def nbP (f : Nat → Bool) (h t lim i j k : Nat) : Prop := k < lim ∧ f k = true ∧ (k < h ∨ (k - h) / t < i ∨ ((k - h) / t = i ∧ h + (k - h) % t ∈ (agn f h t).take j))
theorem mem_agn {n : Nat} : n ∈ agn f h t ↔ h ≤ n ∧ n < h + t ∧ f n = true := by
  unfold agn
  rw [List.mem_filter, mem_rlot, decide_eq_true_iff]
  exact ⟨fun z => ⟨z.2, z.1.1, z.1.2⟩, fun z => ⟨⟨z.2.1, z.2.2⟩, z.1⟩⟩
theorem agn_lt : (agn f h t).Pairwise (· < ·) := filter_lt.filter _
theorem agn_nd : (agn f h t).Nodup := agn_lt.imp fun h => Nat.ne_of_lt h
theorem agn_len : (agn f h t).length ≤ h + t := Nat.le_trans (List.length_filter_le _ _) (rlot_len f h t)
theorem nb_start {k : Nat} : nbP f h t lim 0 0 k ↔ k < lim ∧ f k = true ∧ k < h := by
  unfold nbP
  rw [List.take_zero]
  constructor
  · rintro ⟨h1, h2, h3 | h3 | ⟨_, h3⟩⟩
    · exact ⟨h1, h2, h3⟩
    · exact absurd h3 (Nat.not_lt_zero _)
    · cases h3
  · rintro ⟨h1, h2, h3⟩
    exact ⟨h1, h2, .inl h3⟩
theorem blk_div {n i : Nat} (ht : 1 ≤ t) (h1 : h ≤ n) (h2 : n < h + t) : (n + i * t - h) / t = i ∧ (n + i * t - h) % t = n - h := by
  have e : n + i * t - h = (n - h) + i * t := by omega
  have hl : n - h < t := by omega
  rw [e]
  constructor
  · rw [Nat.add_mul_div_right _ _ (by omega), Nat.div_eq_of_lt hl, Nat.zero_add]
  · rw [Nat.add_mul_mod_self_right, Nat.mod_eq_of_lt hl]
theorem blk_mk {n i k : Nat} (hk : h ≤ k) (e1 : (k - h) / t = i) (e2 : h + (k - h) % t = n) : k = n + i * t := by
  have := Nat.div_add_mod (k - h) t
  rw [e1, Nat.mul_comm] at this
  omega
theorem nb_step (ht : 1 ≤ t) (hper : ∀ k, h ≤ k → f (k + t) = f k) {i j n k : Nat} (hn : (agn f h t)[j]? = some n) : nbP f h t lim i (j + 1) k ↔ nbP f h t lim i j k ∨ (k = n + i * t ∧ k < lim) := by
  have hm := mem_agn.mp (List.mem_of_getElem? hn)
  have tk : ∀ x, x ∈ (agn f h t).take (j + 1) ↔ x ∈ (agn f h t).take j ∨ x = n := fun x => by
    rw [List.take_add_one, hn, List.mem_append]
    show _ ∨ x ∈ [n] ↔ _
    rw [List.mem_singleton]
  unfold nbP
  constructor
  · rintro ⟨h1, h2, h3 | h3 | ⟨h3, h4⟩⟩
    · exact .inl ⟨h1, h2, .inl h3⟩
    · exact .inl ⟨h1, h2, .inr (.inl h3)⟩
    · rcases (tk _).mp h4 with h4 | h4
      · exact .inl ⟨h1, h2, .inr (.inr ⟨h3, h4⟩)⟩
      · by_cases hk : k < h
        · exact .inl ⟨h1, h2, .inl hk⟩
        · exact .inr ⟨blk_mk (by omega) h3 h4, h1⟩
  · rintro (⟨h1, h2, h3 | h3 | ⟨h3, h4⟩⟩ | ⟨rfl, h1⟩)
    · exact ⟨h1, h2, .inl h3⟩
    · exact ⟨h1, h2, .inr (.inl h3)⟩
    · exact ⟨h1, h2, .inr (.inr ⟨h3, (tk _).mpr (.inl h4)⟩)⟩
    · obtain ⟨e1, e2⟩ := blk_div (i := i) ht hm.1 hm.2.1
      refine ⟨h1, by rw [per_mul hper i n hm.1]; exact hm.2.2, .inr (.inr ⟨e1, (tk _).mpr (.inr ?_)⟩)⟩
      rw [e2]
      omega
theorem nb_fresh (ht : 1 ≤ t) {i j n : Nat} (hn : (agn f h t)[j]? = some n) : ¬ nbP f h t lim i j (n + i * t) := by
  have hm := mem_agn.mp (List.mem_of_getElem? hn)
  obtain ⟨e1, e2⟩ := blk_div (i := i) ht hm.1 hm.2.1
  unfold nbP
  rw [e1, e2]
  rintro ⟨_, _, h3 | h3 | ⟨_, h4⟩⟩
  · omega
  · omega
  · rw [show h + (n - h) = n by omega] at h4
    obtain ⟨j', hj, e⟩ := List.getElem_of_mem h4
    rw [List.length_take] at hj
    rw [List.getElem_take] at e
    have := (List.getElem?_inj (by omega) (agn_nd (f := f) (h := h) (t := t))).mp (show (agn f h t)[j']? = (agn f h t)[j]? by rw [hn, List.getElem?_eq_getElem (by omega), e])
    omega
theorem nb_in (ht : 1 ≤ t) (hper : ∀ k, h ≤ k → f (k + t) = f k) {k : Nat} (hk : h ≤ k) (e : f k = true) : h + (k - h) % t ∈ agn f h t := by
  have hl := Nat.mod_lt (k - h) (show 0 < t by omega)
  exact mem_agn.mpr ⟨by omega, by omega, by rw [per_mod hper k hk]; exact e⟩
theorem nb_next (ht : 1 ≤ t) (hper : ∀ k, h ≤ k → f (k + t) = f k) {i k : Nat} : nbP f h t lim i (agn f h t).length k ↔ nbP f h t lim (i + 1) 0 k := by
  unfold nbP
  rw [List.take_length, List.take_zero]
  constructor
  · rintro ⟨h1, h2, h3 | h3 | ⟨h3, _⟩⟩
    · exact ⟨h1, h2, .inl h3⟩
    · exact ⟨h1, h2, .inr (.inl (by omega))⟩
    · exact ⟨h1, h2, .inr (.inl (by omega))⟩
  · rintro ⟨h1, h2, h3 | h3 | ⟨_, h3⟩⟩
    · exact ⟨h1, h2, .inl h3⟩
    · by_cases e : (k - h) / t = i
      · by_cases hk : k < h
        · exact ⟨h1, h2, .inl hk⟩
        · exact ⟨h1, h2, .inr (.inr ⟨e, nb_in ht hper (by omega) h2⟩)⟩
      · exact ⟨h1, h2, .inr (.inl (by omega))⟩
    · cases h3
theorem nb_end (ht : 1 ≤ t) {k : Nat} (hl : h ≤ lim) : nbP f h t lim ((lim - h + t - 1) / t) 0 k ↔ k < lim ∧ f k = true := by
  unfold nbP
  constructor
  · rintro ⟨h1, h2, _⟩
    exact ⟨h1, h2⟩
  · rintro ⟨h1, h2⟩
    refine ⟨h1, h2, ?_⟩
    by_cases hk : k < h
    · exact .inl hk
    · refine .inr (.inl ?_)
      rw [Nat.div_lt_iff_lt_mul (by omega)]
      have h3 := Nat.div_add_mod (lim - h + t - 1) t
      have h4 := Nat.mod_lt (lim - h + t - 1) (show 0 < t by omega)
      rw [Nat.mul_comm] at h3
      omega
theorem nb_none (ht : 1 ≤ t) (hper : ∀ k, h ≤ k → f (k + t) = f k) (e : agn f h t = []) {k : Nat} : nbP f h t lim 0 0 k ↔ k < lim ∧ f k = true := by
  rw [nb_start]
  constructor
  · rintro ⟨h1, h2, _⟩
    exact ⟨h1, h2⟩
  · rintro ⟨h1, h2⟩
    refine ⟨h1, h2, Nat.lt_of_not_le fun hk => ?_⟩
    have := nb_in ht hper hk h2
    rw [e] at this
    cases this
end

end K53
namespace K53
open PySem PySem.Spec PyProof.Rows L2
def top (i : Nat) : Stmt := PySem.Challenge.pw_alreadytold_k53_whole_days_that_have_a_s.main.body.getD i (.Pass ⟨0, 0, 0, 0⟩)
def mkD (p : Str × Option Str) (x q : Str) (st : Stmt) (dfl : List He.Dv) : He.DefD := ⟨p, x, q, defArgs st, defBody st, defScope st, dfl, []⟩

abbrev s_BadDays__init__ : Stmt := (inClass (top 3) 0)
def d_BadDays__init__ : He.DefD := mkD ("BadDays", some "__init__") "__init__" "BadDays.__init__" s_BadDays__init__ []
abbrev s_BadHand__init__ : Stmt := (inClass (top 5) 0)
def d_BadHand__init__ : He.DefD := mkD ("BadHand", some "__init__") "__init__" "BadHand.__init__" s_BadHand__init__ []
abbrev s_BadLetter__init__ : Stmt := (inClass (top 6) 0)
def d_BadLetter__init__ : He.DefD := mkD ("BadLetter", some "__init__") "__init__" "BadLetter.__init__" s_BadLetter__init__ []
abbrev s_is_whole : Stmt := (top 9)
def d_is_whole : He.DefD := mkD ("is_whole", none) "is_whole" "is_whole" s_is_whole [.non, .non]
abbrev s_is_couple_of : Stmt := (top 13)
def d_is_couple_of : He.DefD := mkD ("is_couple_of", none) "is_couple_of" "is_couple_of" s_is_couple_of []
abbrev s_House__init__ : Stmt := (inClass (top 14) 0)
def d_House__init__ : He.DefD := mkD ("House", some "__init__") "__init__" "House.__init__" s_House__init__ []
abbrev s_check_days : Stmt := (top 15)
def d_check_days : He.DefD := mkD ("check_days", none) "check_days" "check_days" s_check_days [.int 60]
abbrev s_check_hand : Stmt := (top 16)
def d_check_hand : He.DefD := mkD ("check_hand", none) "check_hand" "check_hand" s_check_hand []
abbrev s_check_letter : Stmt := (top 17)
def d_check_letter : He.DefD := mkD ("check_letter", none) "check_letter" "check_letter" s_check_letter []
abbrev s_are_couples : Stmt := (top 18)
def d_are_couples : He.DefD := mkD ("are_couples", none) "are_couples" "are_couples" s_are_couples []
abbrev s_first_fall : Stmt := (top 19)
def d_first_fall : He.DefD := mkD ("first_fall", none) "first_fall" "first_fall" s_first_fall []
abbrev s_numbers_with_hand : Stmt := (top 20)
def d_numbers_with_hand : He.DefD := mkD ("numbers_with_hand", none) "numbers_with_hand" "numbers_with_hand" s_numbers_with_hand []
abbrev s_numbers_with_letter : Stmt := (top 21)
def d_numbers_with_letter : He.DefD := mkD ("numbers_with_letter", none) "numbers_with_letter" "numbers_with_letter" s_numbers_with_letter []
abbrev s_couples_of : Stmt := (top 22)
def d_couples_of : He.DefD := mkD ("couples_of", none) "couples_of" "couples_of" s_couples_of []
abbrev s_lists_ahead : Stmt := (top 23)
def d_lists_ahead : He.DefD := mkD ("lists_ahead", none) "lists_ahead" "lists_ahead" s_lists_ahead []
abbrev s_comes_back : Stmt := (top 26)
def d_comes_back : He.DefD := mkD ("comes_back", none) "comes_back" "comes_back" s_comes_back []
abbrev s_least_telling : Stmt := (top 27)
def d_least_telling : He.DefD := mkD ("least_telling", none) "least_telling" "least_telling" s_least_telling []
abbrev s_common_turn : Stmt := (top 28)
def d_common_turn : He.DefD := mkD ("common_turn", none) "common_turn" "common_turn" s_common_turn []
abbrev s_numbers_below : Stmt := (top 29)
def d_numbers_below : He.DefD := mkD ("numbers_below", none) "numbers_below" "numbers_below" s_numbers_below []
abbrev s_shared_telling : Stmt := (top 30)
def d_shared_telling : He.DefD := mkD ("shared_telling", none) "shared_telling" "shared_telling" s_shared_telling []
abbrev s_Round__init__ : Stmt := (inClass (top 31) 0)
def d_Round__init__ : He.DefD := mkD ("Round", some "__init__") "__init__" "Round.__init__" s_Round__init__ []
abbrev s_Round__eq__ : Stmt := (inClass (top 31) 1)
def d_Round__eq__ : He.DefD := mkD ("Round", some "__eq__") "__eq__" "Round.__eq__" s_Round__eq__ []
abbrev s_Round__contains__ : Stmt := (inClass (top 31) 2)
def d_Round__contains__ : He.DefD := mkD ("Round", some "__contains__") "__contains__" "Round.__contains__" s_Round__contains__ []
abbrev s_Round__or__ : Stmt := (inClass (top 31) 4)
def d_Round__or__ : He.DefD := mkD ("Round", some "__or__") "__or__" "Round.__or__" s_Round__or__ []
abbrev s_Endless__init__ : Stmt := (inClass (top 33) 0)
def d_Endless__init__ : He.DefD := mkD ("Endless", some "__init__") "__init__" "Endless.__init__" s_Endless__init__ []
abbrev s_Endless__eq__ : Stmt := (inClass (top 33) 1)
def d_Endless__eq__ : He.DefD := mkD ("Endless", some "__eq__") "__eq__" "Endless.__eq__" s_Endless__eq__ []
abbrev s_Ends__init__ : Stmt := (inClass (top 34) 0)
def d_Ends__init__ : He.DefD := mkD ("Ends", some "__init__") "__init__" "Ends.__init__" s_Ends__init__ []
abbrev s_Ends__eq__ : Stmt := (inClass (top 34) 1)
def d_Ends__eq__ : He.DefD := mkD ("Ends", some "__eq__") "__eq__" "Ends.__eq__" s_Ends__eq__ []
abbrev s_numbers_after : Stmt := (top 35)
def d_numbers_after : He.DefD := mkD ("numbers_after", none) "numbers_after" "numbers_after" s_numbers_after []
abbrev s_lots_in_turn : Stmt := (top 36)
def d_lots_in_turn : He.DefD := mkD ("lots_in_turn", none) "lots_in_turn" "lots_in_turn" s_lots_in_turn []
abbrev s_lot_behind : Stmt := (top 37)
def d_lot_behind : He.DefD := mkD ("lot_behind", none) "lot_behind" "lot_behind" s_lot_behind []
abbrev s_has_story : Stmt := (top 38)
def d_has_story : He.DefD := mkD ("has_story", none) "has_story" "has_story" s_has_story []
abbrev s_days_with_story : Stmt := (top 39)
def d_days_with_story : He.DefD := mkD ("days_with_story", none) "days_with_story" "days_with_story" s_days_with_story []
abbrev s_endless_story : Stmt := (top 40)
def d_endless_story : He.DefD := mkD ("endless_story", none) "endless_story" "endless_story" s_endless_story []
abbrev s_endless_fault : Stmt := (top 41)
def d_endless_fault : He.DefD := mkD ("endless_fault", none) "endless_fault" "endless_fault" s_endless_fault []
abbrev s_days_fault : Stmt := (top 43)
def d_days_fault : He.DefD := mkD ("days_fault", none) "days_fault" "days_fault" s_days_fault []
abbrev s__law_house : Stmt := (top 45)
def d__law_house : He.DefD := mkD ("_law_house", none) "_law_house" "_law_house" s__law_house []
abbrev s__law_house_rows : Stmt := (top 46)
def d__law_house_rows : He.DefD := mkD ("_law_house_rows", none) "_law_house_rows" "_law_house_rows" s__law_house_rows []
abbrev s__law_housed : Stmt := (top 47)
def d__law_housed : He.DefD := mkD ("_law_housed", none) "_law_housed" "_law_housed" s__law_housed []
abbrev s__law_is_house : Stmt := (top 48)
def d__law_is_house : He.DefD := mkD ("_law_is_house", none) "_law_is_house" "_law_is_house" s__law_is_house []
abbrev s__law_ahead : Stmt := (top 49)
def d__law_ahead : He.DefD := mkD ("_law_ahead", none) "_law_ahead" "_law_ahead" s__law_ahead []
abbrev s__law_with_hand : Stmt := (top 50)
def d__law_with_hand : He.DefD := mkD ("_law_with_hand", none) "_law_with_hand" "_law_with_hand" s__law_with_hand []
abbrev s__law_with_letter : Stmt := (top 51)
def d__law_with_letter : He.DefD := mkD ("_law_with_letter", none) "_law_with_letter" "_law_with_letter" s__law_with_letter []
abbrev s__law_goes : Stmt := (top 52)
def d__law_goes : He.DefD := mkD ("_law_goes", none) "_law_goes" "_law_goes" s__law_goes []
abbrev s__law_whole : Stmt := (top 53)
def d__law_whole : He.DefD := mkD ("_law_whole", none) "_law_whole" "_law_whole" s__law_whole []
abbrev s__law_is_couple : Stmt := (top 54)
def d__law_is_couple : He.DefD := mkD ("_law_is_couple", none) "_law_is_couple" "_law_is_couple" s__law_is_couple []
abbrev s__law_are_couples : Stmt := (top 55)
def d__law_are_couples : He.DefD := mkD ("_law_are_couples", none) "_law_are_couples" "_law_are_couples" s__law_are_couples []
abbrev s__law_lots : Stmt := (top 56)
def d__law_lots : He.DefD := mkD ("_law_lots", none) "_law_lots" "_law_lots" s__law_lots []
abbrev s__law_next : Stmt := (top 57)
def d__law_next : He.DefD := mkD ("_law_next", none) "_law_next" "_law_next" s__law_next []
abbrev s__law_powered : Stmt := (top 58)
def d__law_powered : He.DefD := mkD ("_law_powered", none) "_law_powered" "_law_powered" s__law_powered []
abbrev s__law_told_round : Stmt := (top 59)
def d__law_told_round : He.DefD := mkD ("_law_told_round", none) "_law_told_round" "_law_told_round" s__law_told_round []
abbrev s__law_is_round : Stmt := (top 60)
def d__law_is_round : He.DefD := mkD ("_law_is_round", none) "_law_is_round" "_law_is_round" s__law_is_round []
abbrev s__law_far : Stmt := (top 61)
def d__law_far : He.DefD := mkD ("_law_far", none) "_law_far" "_law_far" s__law_far []
abbrev s__law_spoilt : Stmt := (top 62)
def d__law_spoilt : He.DefD := mkD ("_law_spoilt", none) "_law_spoilt" "_law_spoilt" s__law_spoilt []
abbrev s__law_hand : Stmt := (top 63)
def d__law_hand : He.DefD := mkD ("_law_hand", none) "_law_hand" "_law_hand" s__law_hand []
abbrev s__law_mixed : Stmt := (top 64)
def d__law_mixed : He.DefD := mkD ("_law_mixed", none) "_law_mixed" "_law_mixed" s__law_mixed []
abbrev s__law_take : Stmt := (top 65)
def d__law_take : He.DefD := mkD ("_law_take", none) "_law_take" "_law_take" s__law_take []
abbrev s__law_tuples : Stmt := (top 66)
def d__law_tuples : He.DefD := mkD ("_law_tuples", none) "_law_tuples" "_law_tuples" s__law_tuples []
abbrev s__law_odd : Stmt := (top 67)
def d__law_odd : He.DefD := mkD ("_law_odd", none) "_law_odd" "_law_odd" s__law_odd []
abbrev s__law_rid : Stmt := (top 68)
def d__law_rid : He.DefD := mkD ("_law_rid", none) "_law_rid" "_law_rid" s__law_rid []
abbrev s__law_asked : Stmt := (top 69)
def d__law_asked : He.DefD := mkD ("_law_asked", none) "_law_asked" "_law_asked" s__law_asked []
abbrev s__law_refusals_right : Stmt := (top 70)
def d__law_refusals_right : He.DefD := mkD ("_law_refusals_right", none) "_law_refusals_right" "_law_refusals_right" s__law_refusals_right []
abbrev s__law_truth : Stmt := (top 71)
def d__law_truth : He.DefD := mkD ("_law_truth", none) "_law_truth" "_law_truth" s__law_truth []
abbrev s__law_blank_right : Stmt := (top 72)
def d__law_blank_right : He.DefD := mkD ("_law_blank_right", none) "_law_blank_right" "_law_blank_right" s__law_blank_right []
abbrev s__law_powers_right : Stmt := (top 73)
def d__law_powers_right : He.DefD := mkD ("_law_powers_right", none) "_law_powers_right" "_law_powers_right" s__law_powers_right []
abbrev s__law_fault_word : Stmt := (top 74)
def d__law_fault_word : He.DefD := mkD ("_law_fault_word", none) "_law_fault_word" "_law_fault_word" s__law_fault_word []
abbrev s__law_endless_right : Stmt := (top 75)
def d__law_endless_right : He.DefD := mkD ("_law_endless_right", none) "_law_endless_right" "_law_endless_right" s__law_endless_right []
abbrev s__law_case : Stmt := (top 76)
def d__law_case : He.DefD := mkD ("_law_case", none) "_law_case" "_law_case" s__law_case []
abbrev s_law : Stmt := (top 77)
def d_law : He.DefD := mkD ("law", none) "law" "law" s_law []
def fn0 : List He.DefD := [d_BadDays__init__, d_BadHand__init__, d_BadLetter__init__, d_is_whole, d_is_couple_of, d_House__init__, d_check_days, d_check_hand, d_check_letter, d_are_couples, d_first_fall, d_numbers_with_hand, d_numbers_with_letter, d_couples_of, d_lists_ahead, d_comes_back, d_least_telling, d_common_turn, d_numbers_below, d_shared_telling, d_Round__init__, d_Round__eq__, d_Round__contains__, d_Round__or__, d_Endless__init__, d_Endless__eq__, d_Ends__init__, d_Ends__eq__, d_numbers_after, d_lots_in_turn]
def fn1 : List He.DefD := [d_lot_behind, d_has_story, d_days_with_story, d_endless_story, d_endless_fault, d_days_fault, d__law_house, d__law_house_rows, d__law_housed, d__law_is_house, d__law_ahead, d__law_with_hand, d__law_with_letter, d__law_goes, d__law_whole, d__law_is_couple, d__law_are_couples, d__law_lots, d__law_next, d__law_powered, d__law_told_round, d__law_is_round, d__law_far, d__law_spoilt, d__law_hand, d__law_mixed, d__law_take, d__law_tuples, d__law_odd, d__law_rid]
def fn2 : List He.DefD := [d__law_asked, d__law_refusals_right, d__law_truth, d__law_blank_right, d__law_powers_right, d__law_fault_word, d__law_endless_right, d__law_case, d_law]
def fnL : List He.DefD := fn0 ++ fn1 ++ fn2
def fa0 : List He.Fa := [.glo "BadDays", .glo "BadHand", .glo "BadLetter", .glo "is_whole", .glo "is_couple_of", .glo "House", .glo "check_days", .glo "check_hand", .glo "check_letter", .glo "are_couples", .glo "first_fall", .glo "numbers_with_hand", .glo "numbers_with_letter", .glo "couples_of", .glo "lists_ahead", .glo "comes_back", .glo "least_telling", .glo "common_turn", .glo "numbers_below", .glo "shared_telling", .glo "Round", .glo "Endless", .glo "Ends", .glo "numbers_after", .glo "lots_in_turn", .glo "lot_behind", .glo "has_story", .glo "days_with_story", .glo "endless_story", .glo "endless_fault", .glo "days_fault", .glo "_law_house", .glo "_law_house_rows", .glo "_law_housed", .glo "_law_is_house"]
def fa1 : List He.Fa := [.glo "_law_ahead", .glo "_law_with_hand", .glo "_law_with_letter", .glo "_law_goes", .glo "_law_whole", .glo "_law_is_couple", .glo "_law_are_couples", .glo "_law_lots", .glo "_law_next", .glo "_law_powered", .glo "_law_told_round", .glo "_law_is_round", .glo "_law_far", .glo "_law_spoilt", .glo "_law_hand", .glo "_law_mixed", .glo "_law_take", .glo "_law_tuples", .glo "_law_odd", .glo "_law_rid", .glo "_law_asked", .glo "_law_refusals_right", .glo "_law_truth", .glo "_law_blank_right", .glo "_law_powers_right", .glo "_law_fault_word", .glo "_law_endless_right", .glo "_law_case", .glo "law"]
def fa2 : List He.Fa := [.free "isinstance", .free "int", .free "bool", .free "len", .free "list", .free "tuple", .free "all", .free "any", .free "enumerate", .free "range", .free "sorted", .free "max", .free "min", .free "abs", .free "str", .int "MOST_DAYS" 60, .int "FAR_DAYS" 1000000000000000000000000000000, .int "MOST_TURN" 10000, .cls "House", .mkr "House", .keep "House", .cls "Round", .mkr "Round", .keep "Round", .cls "Endless", .mkr "Endless", .keep "Endless", .cls "Ends", .mkr "Ends", .keep "Ends", .noat "House" "hand_size", .noat "House" "letter_size", .noat "House" "rows", .noat "Round" "head", .noat "Round" "turn"]
def fa3 : List He.Fa := [.noat "Round" "lot", .noat "Endless" "before", .noat "Endless" "again", .noat "Ends" "days", .meth "Round" "__eq__", .meth "Round" "__contains__", .meth "Round" "__or__", .meth "Endless" "__eq__", .meth "Ends" "__eq__", .noat "BadDays" "days", .meth "BadDays" "__init__", .keep "BadDays", .noat "BadHand" "hand", .meth "BadHand" "__init__", .keep "BadHand", .noat "BadLetter" "letter", .meth "BadLetter" "__init__", .keep "BadLetter", .exm "BadDays" "BadDays" true, .exm "BadDays" "BadHand" false, .exm "BadDays" "BadLetter" false, .exm "BadHand" "BadDays" false, .exm "BadHand" "BadHand" true, .exm "BadHand" "BadLetter" false, .exm "BadLetter" "BadDays" false, .exm "BadLetter" "BadHand" false, .exm "BadLetter" "BadLetter" true]
def faL : List He.Fa := fa0 ++ fa1 ++ fa2 ++ fa3
/-- an own exception's class, as the making asks for it -/
def exB (K : PySem.W.Frag) (x : Str) : Bool := match K.lookup (He.ga K x) with
  | some ⟨.type t, _, .cls cd, sl⟩ => decide (t = "type") && (match cd.mro, sl.toList with
    | .ref C :: bm, [_, _, _, _, some (.builtin n), _] => decide (C = He.ga K x) && (decide (n = "ValueError.__new__") && (!cd.hasDel && (cd.hasDict && PySem.HandSPX.refsVE bm)))
    | _, _ => false)
  | _ => false
def ex2B (K : PySem.W.Frag) (x : Str) : Bool := exB K x && (decide (PySem.W.findIn K (.ref (He.ga K x)) "__setattr__" = some (some (.builtin "object.__setattr__"))) && (decide (PySem.W.typeIn K (.ref (He.ga K x)) = some (.type "type")) && xfB K (He.ga K x)))
/-- an own class's instances in isinstance -/
def isB (K : PySem.W.Frag) (x : Str) : Bool := decide (PySem.W.findIn K (.ref (He.ga K x)) "__class__" = some (some (.builtin "object.__class__"))) && (decide (PySem.W.takesIn K (.builtin "object.__class__") = some true) &&
  (decide (PySem.W.specialIn K (.builtin "object.__class__") "__get__" = some (some (.builtin "getset_descriptor.__get__"))) && decide (PySem.W.mroIn K (He.ga K x) (.type "object") = some true)))
def kiB (K : PySem.W.Frag) (t : Value) (x : Str) (b : Bool) : Bool := decide (PySem.W.kitOne K t (.ref (He.ga K x)) = some b)
def clsN : List Str := ["House", "Round", "Endless", "Ends"]
def tyN : List String := ["NoneType", "bool", "int", "str", "list", "tuple", "dict"]
def moreB (K : PySem.W.Frag) : Bool := (["BadDays", "BadHand", "BadLetter"] : List Str).all (ex2B K) && (clsN.all (isB K) && ((clsN.all fun x => clsN.all fun y => kiB K (.ref (He.ga K x)) y (decide (x = y))) &&
  ((tyN.all fun t => clsN.all fun y => kiB K (.type t) y false) && ((clsN.all fun x => tyN.all fun t => decide (PySem.W.kitOne K (.ref (He.ga K x)) (.type t) = some false)) &&
  ((["Round", "Endless", "Ends"] : List Str).all (fun x => decide (PySem.W.findIn K (.ref (He.ga K x)) "__ne__" = some (some (.builtin "object.__ne__")))) && PySem.W.selfFirst K (He.ga K "Round"))))))
abbrev Rw : PySem.W.OpenRow := PySem.W.OpenLaw.row PySem.Challenge.rw_alreadytold_k53_whole_days_that_have_a_s
abbrev hk : PySem.W.Hook := He.hookX 4 faL fnL [] [] moreB

end K53
section
namespace K53
open PySem PySem.Spec PyProof.Rows L2
set_option maxHeartbeats 0
def lo0 : List PySem.Str := ["_wall", "LetterError", "BadDays", "BadHouse", "BadHand", "BadLetter", "BadRound", "is_whole", "MOST_DAYS", "FAR_DAYS", "is_couple_of", "House", "check_days", "check_hand", "check_letter", "are_couples", "first_fall", "numbers_with_hand", "numbers_with_letter", "couples_of"]
def lo1 : List PySem.Str := ["lists_ahead", "MOST_TURN", "comes_back", "least_telling", "common_turn", "numbers_below", "shared_telling", "Round", "Endless", "Ends", "numbers_after", "lots_in_turn", "lot_behind", "has_story", "days_with_story", "endless_story", "endless_fault", "days_fault", "_law_house", "_law_house_rows"]
def lo2 : List PySem.Str := ["_law_housed", "_law_is_house", "_law_ahead", "_law_with_hand", "_law_with_letter", "_law_goes", "_law_whole", "_law_is_couple", "_law_are_couples", "_law_lots", "_law_next", "_law_powered", "_law_told_round", "_law_is_round", "_law_far", "_law_spoilt", "_law_hand", "_law_mixed", "_law_take", "_law_tuples"]
def lo3 : List PySem.Str := ["_law_odd", "_law_rid", "_law_asked", "_law_refusals_right", "_law_truth", "_law_blank_right", "_law_powers_right", "_law_fault_word", "_law_endless_right", "_law_case"]
def loL : List PySem.Str := lo0 ++ lo1 ++ lo2 ++ lo3
def ob (s : PySem.W.SharedT) : He.AlX := He.obsX 4 faL fnL [] [] moreB (HandSHeadRun.getT s)
theorem ob_eq (s : PySem.W.SharedT) : ob s = hk.obs s.abs := He.obsX_eq (HandSHeadRun.getT_eq s)
theorem run (w : World) : HandSHeadRun.RunEq Rw (PySem.W.view Rw.prog [77]) hk ob 8000 loL w := by
  intro os
  kernel_rfl

end K53
end
namespace K53
open PySem PySem.Spec PyProof.Rows L2
/-- a def as the top leaves it -/
def FnD (K : PySem.W.Frag) (d : He.DefD) : Prop := ∃ fd, FunD K d.name d.qual d.params d.body d.scope (d.dvs K) (d.kws K) (He.fAd K d.at_) fd
abbrev gA (K : PySem.W.Frag) (x : Str) : Addr := He.ga K x
/-- an own exception class -/
structure ExC (K : PySem.W.Frag) (x f : Str) : Prop where
  o : OexC K (gA K x)
  xf : XfC K (gA K x)
  no : PySem.W.findIn K (.ref (gA K x)) f = some none
  ini : PySem.W.findIn K (.ref (gA K x)) "__init__" = some (some (.ref (He.ma K (gA K x) "__init__")))
  fn : PySem.W.typeIn K (.ref (He.ma K (gA K x) "__init__")) = some (.type "function")
/-- an own class in isinstance -/
structure IsC (K : PySem.W.Frag) (x : Str) : Prop where
  ha : PySem.W.findIn K (.ref (gA K x)) "__class__" = some (some (.builtin "object.__class__"))
  hn : PySem.W.specialIn K (.builtin "object.__class__") "__get__" = some (some (.builtin "getset_descriptor.__get__"))
  htk : PySem.W.takesIn K (.builtin "object.__class__") = some true
  hm : PySem.W.mroIn K (gA K x) (.type "object") = some true
theorem exB_ok {K : PySem.W.Frag} {x : Str} (h : exB K x = true) : ∃ nm q N bs bm sn sub ab col dd k0 k1 k2 k3 k5, K.lookup (gA K x) = some (excClassObj nm q (gA K x) N bs bm true sn sub ab col dd k0 k1 k2 k3 k5 "ValueError.__new__") ∧ PySem.HandSPX.refsVE bm = true := by
  unfold exB at h
  split at h
  · rename_i t dd cd sl ho
    obtain ⟨ht, h⟩ := He.ba h
    have ht := of_decide_eq_true ht
    split at h
    · rename_i C bm k0 k1 k2 k3 n k5 hm hs
      obtain ⟨h1, h⟩ := He.ba h
      obtain ⟨h2, h⟩ := He.ba h
      obtain ⟨h3, h⟩ := He.ba h
      obtain ⟨h4, h5⟩ := He.ba h
      have h1 := of_decide_eq_true h1
      have h2 := of_decide_eq_true h2
      subst h1 h2 ht
      obtain ⟨a1, a2, a3, a4, a5, a6, a7, a8, a9, a10, a11⟩ := cd
      simp only at hm h3 h4
      subst hm
      have h3 : a11 = false := by simpa using h3
      subst h3 h4
      have hs2 : sl = #[k0, k1, k2, k3, some (.builtin "ValueError.__new__"), k5] := by
        apply Array.toList_inj.mp
        rw [hs]
      subst hs2
      exact ⟨_, _, _, _, bm, _, _, _, _, dd, k0, k1, k2, k3, k5, ho, h5⟩
    · cases h
  · cases h
theorem ex2B_ok {K : PySem.W.Frag} {x f : Str} (h : ex2B K x = true) (hk : PySem.W.keepIn K (.ref (gA K x)) = true) (hno : NoAttr K (gA K x) f) (m : Meth K (gA K x) "__init__" (He.ma K (gA K x) "__init__")) : ExC K x f := by
  obtain ⟨h1, h⟩ := He.ba h
  obtain ⟨h2, h⟩ := He.ba h
  obtain ⟨h3, h4⟩ := He.ba h
  have xf := xfB_ok h4
  exact ⟨⟨exB_ok h1, of_decide_eq_true h2, xf.exC, of_decide_eq_true h3, hk⟩, xf, hno, m.at_, beq_iff_eq.mp m.fn⟩
theorem isB_ok {K : PySem.W.Frag} {x : Str} (h : isB K x = true) : IsC K x := by
  obtain ⟨h1, h⟩ := He.ba h
  obtain ⟨h2, h⟩ := He.ba h
  obtain ⟨h3, h4⟩ := He.ba h
  exact ⟨of_decide_eq_true h1, of_decide_eq_true h3, of_decide_eq_true h2, of_decide_eq_true h4⟩

structure TX (K : PySem.W.Frag) (mg : Str → Option Value) : Prop where
  g_BadDays : mg "BadDays" = some (.ref (gA K "BadDays"))
  g_BadHand : mg "BadHand" = some (.ref (gA K "BadHand"))
  g_BadLetter : mg "BadLetter" = some (.ref (gA K "BadLetter"))
  g_is_whole : mg "is_whole" = some (.ref (gA K "is_whole"))
  g_is_couple_of : mg "is_couple_of" = some (.ref (gA K "is_couple_of"))
  g_House : mg "House" = some (.ref (gA K "House"))
  g_check_days : mg "check_days" = some (.ref (gA K "check_days"))
  g_check_hand : mg "check_hand" = some (.ref (gA K "check_hand"))
  g_check_letter : mg "check_letter" = some (.ref (gA K "check_letter"))
  g_are_couples : mg "are_couples" = some (.ref (gA K "are_couples"))
  g_first_fall : mg "first_fall" = some (.ref (gA K "first_fall"))
  g_numbers_with_hand : mg "numbers_with_hand" = some (.ref (gA K "numbers_with_hand"))
  g_numbers_with_letter : mg "numbers_with_letter" = some (.ref (gA K "numbers_with_letter"))
  g_couples_of : mg "couples_of" = some (.ref (gA K "couples_of"))
  g_lists_ahead : mg "lists_ahead" = some (.ref (gA K "lists_ahead"))
  g_comes_back : mg "comes_back" = some (.ref (gA K "comes_back"))
  g_least_telling : mg "least_telling" = some (.ref (gA K "least_telling"))
  g_common_turn : mg "common_turn" = some (.ref (gA K "common_turn"))
  g_numbers_below : mg "numbers_below" = some (.ref (gA K "numbers_below"))
  g_shared_telling : mg "shared_telling" = some (.ref (gA K "shared_telling"))
  g_Round : mg "Round" = some (.ref (gA K "Round"))
  g_Endless : mg "Endless" = some (.ref (gA K "Endless"))
  g_Ends : mg "Ends" = some (.ref (gA K "Ends"))
  g_numbers_after : mg "numbers_after" = some (.ref (gA K "numbers_after"))
  g_lots_in_turn : mg "lots_in_turn" = some (.ref (gA K "lots_in_turn"))
  g_lot_behind : mg "lot_behind" = some (.ref (gA K "lot_behind"))
  g_has_story : mg "has_story" = some (.ref (gA K "has_story"))
  g_days_with_story : mg "days_with_story" = some (.ref (gA K "days_with_story"))
  g_endless_story : mg "endless_story" = some (.ref (gA K "endless_story"))
  g_endless_fault : mg "endless_fault" = some (.ref (gA K "endless_fault"))
  g_days_fault : mg "days_fault" = some (.ref (gA K "days_fault"))
  g__law_house : mg "_law_house" = some (.ref (gA K "_law_house"))
  g__law_house_rows : mg "_law_house_rows" = some (.ref (gA K "_law_house_rows"))
  g__law_housed : mg "_law_housed" = some (.ref (gA K "_law_housed"))
  g__law_is_house : mg "_law_is_house" = some (.ref (gA K "_law_is_house"))
  g__law_ahead : mg "_law_ahead" = some (.ref (gA K "_law_ahead"))
  g__law_with_hand : mg "_law_with_hand" = some (.ref (gA K "_law_with_hand"))
  g__law_with_letter : mg "_law_with_letter" = some (.ref (gA K "_law_with_letter"))
  g__law_goes : mg "_law_goes" = some (.ref (gA K "_law_goes"))
  g__law_whole : mg "_law_whole" = some (.ref (gA K "_law_whole"))
  g__law_is_couple : mg "_law_is_couple" = some (.ref (gA K "_law_is_couple"))
  g__law_are_couples : mg "_law_are_couples" = some (.ref (gA K "_law_are_couples"))
  g__law_lots : mg "_law_lots" = some (.ref (gA K "_law_lots"))
  g__law_next : mg "_law_next" = some (.ref (gA K "_law_next"))
  g__law_powered : mg "_law_powered" = some (.ref (gA K "_law_powered"))
  g__law_told_round : mg "_law_told_round" = some (.ref (gA K "_law_told_round"))
  g__law_is_round : mg "_law_is_round" = some (.ref (gA K "_law_is_round"))
  g__law_far : mg "_law_far" = some (.ref (gA K "_law_far"))
  g__law_spoilt : mg "_law_spoilt" = some (.ref (gA K "_law_spoilt"))
  g__law_hand : mg "_law_hand" = some (.ref (gA K "_law_hand"))
  g__law_mixed : mg "_law_mixed" = some (.ref (gA K "_law_mixed"))
  g__law_take : mg "_law_take" = some (.ref (gA K "_law_take"))
  g__law_tuples : mg "_law_tuples" = some (.ref (gA K "_law_tuples"))
  g__law_odd : mg "_law_odd" = some (.ref (gA K "_law_odd"))
  g__law_rid : mg "_law_rid" = some (.ref (gA K "_law_rid"))
  g__law_asked : mg "_law_asked" = some (.ref (gA K "_law_asked"))
  g__law_refusals_right : mg "_law_refusals_right" = some (.ref (gA K "_law_refusals_right"))
  g__law_truth : mg "_law_truth" = some (.ref (gA K "_law_truth"))
  g__law_blank_right : mg "_law_blank_right" = some (.ref (gA K "_law_blank_right"))
  g__law_powers_right : mg "_law_powers_right" = some (.ref (gA K "_law_powers_right"))
  g__law_fault_word : mg "_law_fault_word" = some (.ref (gA K "_law_fault_word"))
  g__law_endless_right : mg "_law_endless_right" = some (.ref (gA K "_law_endless_right"))
  g__law_case : mg "_law_case" = some (.ref (gA K "_law_case"))
  g_law : mg "law" = some (.ref (gA K "law"))
  b_isinstance : mg "isinstance" = none
  b_int : mg "int" = none
  b_bool : mg "bool" = none
  b_len : mg "len" = none
  b_list : mg "list" = none
  b_tuple : mg "tuple" = none
  b_all : mg "all" = none
  b_any : mg "any" = none
  b_enumerate : mg "enumerate" = none
  b_range : mg "range" = none
  b_sorted : mg "sorted" = none
  b_max : mg "max" = none
  b_min : mg "min" = none
  b_abs : mg "abs" = none
  b_str : mg "str" = none
  i_MOST_DAYS : ∃ t, mg "MOST_DAYS" = some (.int 60 t)
  i_FAR_DAYS : ∃ t, mg "FAR_DAYS" = some (.int 1000000000000000000000000000000 t)
  i_MOST_TURN : ∃ t, mg "MOST_TURN" = some (.int 10000 t)
  cl_House : Cls K (gA K "House")
  mk_House : Mk K (gA K "House") (He.ma K (gA K "House") "__init__")
  kp_House : PySem.W.keepIn K (.ref (gA K "House")) = true
  cl_Round : Cls K (gA K "Round")
  mk_Round : Mk K (gA K "Round") (He.ma K (gA K "Round") "__init__")
  kp_Round : PySem.W.keepIn K (.ref (gA K "Round")) = true
  cl_Endless : Cls K (gA K "Endless")
  mk_Endless : Mk K (gA K "Endless") (He.ma K (gA K "Endless") "__init__")
  kp_Endless : PySem.W.keepIn K (.ref (gA K "Endless")) = true
  cl_Ends : Cls K (gA K "Ends")
  mk_Ends : Mk K (gA K "Ends") (He.ma K (gA K "Ends") "__init__")
  kp_Ends : PySem.W.keepIn K (.ref (gA K "Ends")) = true
  na_House_hand_size : NoAttr K (gA K "House") "hand_size"
  na_House_letter_size : NoAttr K (gA K "House") "letter_size"
  na_House_rows : NoAttr K (gA K "House") "rows"
  na_Round_head : NoAttr K (gA K "Round") "head"
  na_Round_turn : NoAttr K (gA K "Round") "turn"
  na_Round_lot : NoAttr K (gA K "Round") "lot"
  na_Endless_before : NoAttr K (gA K "Endless") "before"
  na_Endless_again : NoAttr K (gA K "Endless") "again"
  na_Ends_days : NoAttr K (gA K "Ends") "days"
  me_Round__eq__ : Meth K (gA K "Round") "__eq__" (He.ma K (gA K "Round") "__eq__")
  me_Round__contains__ : Meth K (gA K "Round") "__contains__" (He.ma K (gA K "Round") "__contains__")
  me_Round__or__ : Meth K (gA K "Round") "__or__" (He.ma K (gA K "Round") "__or__")
  me_Endless__eq__ : Meth K (gA K "Endless") "__eq__" (He.ma K (gA K "Endless") "__eq__")
  me_Ends__eq__ : Meth K (gA K "Ends") "__eq__" (He.ma K (gA K "Ends") "__eq__")
  na_BadDays_days : NoAttr K (gA K "BadDays") "days"
  me_BadDays__init__ : Meth K (gA K "BadDays") "__init__" (He.ma K (gA K "BadDays") "__init__")
  kp_BadDays : PySem.W.keepIn K (.ref (gA K "BadDays")) = true
  na_BadHand_hand : NoAttr K (gA K "BadHand") "hand"
  me_BadHand__init__ : Meth K (gA K "BadHand") "__init__" (He.ma K (gA K "BadHand") "__init__")
  kp_BadHand : PySem.W.keepIn K (.ref (gA K "BadHand")) = true
  na_BadLetter_letter : NoAttr K (gA K "BadLetter") "letter"
  me_BadLetter__init__ : Meth K (gA K "BadLetter") "__init__" (He.ma K (gA K "BadLetter") "__init__")
  kp_BadLetter : PySem.W.keepIn K (.ref (gA K "BadLetter")) = true
  xm_BadDays_BadDays : PySem.W.exmOne K (.ref (gA K "BadDays")) (.ref (gA K "BadDays")) = some true
  xm_BadDays_BadHand : PySem.W.exmOne K (.ref (gA K "BadDays")) (.ref (gA K "BadHand")) = some false
  xm_BadDays_BadLetter : PySem.W.exmOne K (.ref (gA K "BadDays")) (.ref (gA K "BadLetter")) = some false
  xm_BadHand_BadDays : PySem.W.exmOne K (.ref (gA K "BadHand")) (.ref (gA K "BadDays")) = some false
  xm_BadHand_BadHand : PySem.W.exmOne K (.ref (gA K "BadHand")) (.ref (gA K "BadHand")) = some true
  xm_BadHand_BadLetter : PySem.W.exmOne K (.ref (gA K "BadHand")) (.ref (gA K "BadLetter")) = some false
  xm_BadLetter_BadDays : PySem.W.exmOne K (.ref (gA K "BadLetter")) (.ref (gA K "BadDays")) = some false
  xm_BadLetter_BadHand : PySem.W.exmOne K (.ref (gA K "BadLetter")) (.ref (gA K "BadHand")) = some false
  xm_BadLetter_BadLetter : PySem.W.exmOne K (.ref (gA K "BadLetter")) (.ref (gA K "BadLetter")) = some true
  f_BadDays__init__ : FnD K d_BadDays__init__
  f_BadHand__init__ : FnD K d_BadHand__init__
  f_BadLetter__init__ : FnD K d_BadLetter__init__
  f_is_whole : FnD K d_is_whole
  f_is_couple_of : FnD K d_is_couple_of
  f_House__init__ : FnD K d_House__init__
  f_check_days : FnD K d_check_days
  f_check_hand : FnD K d_check_hand
  f_check_letter : FnD K d_check_letter
  f_are_couples : FnD K d_are_couples
  f_first_fall : FnD K d_first_fall
  f_numbers_with_hand : FnD K d_numbers_with_hand
  f_numbers_with_letter : FnD K d_numbers_with_letter
  f_couples_of : FnD K d_couples_of
  f_lists_ahead : FnD K d_lists_ahead
  f_comes_back : FnD K d_comes_back
  f_least_telling : FnD K d_least_telling
  f_common_turn : FnD K d_common_turn
  f_numbers_below : FnD K d_numbers_below
  f_shared_telling : FnD K d_shared_telling
  f_Round__init__ : FnD K d_Round__init__
  f_Round__eq__ : FnD K d_Round__eq__
  f_Round__contains__ : FnD K d_Round__contains__
  f_Round__or__ : FnD K d_Round__or__
  f_Endless__init__ : FnD K d_Endless__init__
  f_Endless__eq__ : FnD K d_Endless__eq__
  f_Ends__init__ : FnD K d_Ends__init__
  f_Ends__eq__ : FnD K d_Ends__eq__
  f_numbers_after : FnD K d_numbers_after
  f_lots_in_turn : FnD K d_lots_in_turn
  f_lot_behind : FnD K d_lot_behind
  f_has_story : FnD K d_has_story
  f_days_with_story : FnD K d_days_with_story
  f_endless_story : FnD K d_endless_story
  f_endless_fault : FnD K d_endless_fault
  f_days_fault : FnD K d_days_fault
  f__law_house : FnD K d__law_house
  f__law_house_rows : FnD K d__law_house_rows
  f__law_housed : FnD K d__law_housed
  f__law_is_house : FnD K d__law_is_house
  f__law_ahead : FnD K d__law_ahead
  f__law_with_hand : FnD K d__law_with_hand
  f__law_with_letter : FnD K d__law_with_letter
  f__law_goes : FnD K d__law_goes
  f__law_whole : FnD K d__law_whole
  f__law_is_couple : FnD K d__law_is_couple
  f__law_are_couples : FnD K d__law_are_couples
  f__law_lots : FnD K d__law_lots
  f__law_next : FnD K d__law_next
  f__law_powered : FnD K d__law_powered
  f__law_told_round : FnD K d__law_told_round
  f__law_is_round : FnD K d__law_is_round
  f__law_far : FnD K d__law_far
  f__law_spoilt : FnD K d__law_spoilt
  f__law_hand : FnD K d__law_hand
  f__law_mixed : FnD K d__law_mixed
  f__law_take : FnD K d__law_take
  f__law_tuples : FnD K d__law_tuples
  f__law_odd : FnD K d__law_odd
  f__law_rid : FnD K d__law_rid
  f__law_asked : FnD K d__law_asked
  f__law_refusals_right : FnD K d__law_refusals_right
  f__law_truth : FnD K d__law_truth
  f__law_blank_right : FnD K d__law_blank_right
  f__law_powers_right : FnD K d__law_powers_right
  f__law_fault_word : FnD K d__law_fault_word
  f__law_endless_right : FnD K d__law_endless_right
  f__law_case : FnD K d__law_case
  f_law : FnD K d_law
  more : moreB K = true
theorem tx_of {K : PySem.W.Frag} {mg : Str → Option Value} {h : Heap} (X : K.In h) (G : h.Ns mainGlobals mg) (c : He.SaysD faL fnL K) (hm : moreB K = true) : TX K mg where
  g_BadDays := He.glo_ok X G (c.fact 0 (f := .glo "BadDays") rfl)
  g_BadHand := He.glo_ok X G (c.fact 1 (f := .glo "BadHand") rfl)
  g_BadLetter := He.glo_ok X G (c.fact 2 (f := .glo "BadLetter") rfl)
  g_is_whole := He.glo_ok X G (c.fact 3 (f := .glo "is_whole") rfl)
  g_is_couple_of := He.glo_ok X G (c.fact 4 (f := .glo "is_couple_of") rfl)
  g_House := He.glo_ok X G (c.fact 5 (f := .glo "House") rfl)
  g_check_days := He.glo_ok X G (c.fact 6 (f := .glo "check_days") rfl)
  g_check_hand := He.glo_ok X G (c.fact 7 (f := .glo "check_hand") rfl)
  g_check_letter := He.glo_ok X G (c.fact 8 (f := .glo "check_letter") rfl)
  g_are_couples := He.glo_ok X G (c.fact 9 (f := .glo "are_couples") rfl)
  g_first_fall := He.glo_ok X G (c.fact 10 (f := .glo "first_fall") rfl)
  g_numbers_with_hand := He.glo_ok X G (c.fact 11 (f := .glo "numbers_with_hand") rfl)
  g_numbers_with_letter := He.glo_ok X G (c.fact 12 (f := .glo "numbers_with_letter") rfl)
  g_couples_of := He.glo_ok X G (c.fact 13 (f := .glo "couples_of") rfl)
  g_lists_ahead := He.glo_ok X G (c.fact 14 (f := .glo "lists_ahead") rfl)
  g_comes_back := He.glo_ok X G (c.fact 15 (f := .glo "comes_back") rfl)
  g_least_telling := He.glo_ok X G (c.fact 16 (f := .glo "least_telling") rfl)
  g_common_turn := He.glo_ok X G (c.fact 17 (f := .glo "common_turn") rfl)
  g_numbers_below := He.glo_ok X G (c.fact 18 (f := .glo "numbers_below") rfl)
  g_shared_telling := He.glo_ok X G (c.fact 19 (f := .glo "shared_telling") rfl)
  g_Round := He.glo_ok X G (c.fact 20 (f := .glo "Round") rfl)
  g_Endless := He.glo_ok X G (c.fact 21 (f := .glo "Endless") rfl)
  g_Ends := He.glo_ok X G (c.fact 22 (f := .glo "Ends") rfl)
  g_numbers_after := He.glo_ok X G (c.fact 23 (f := .glo "numbers_after") rfl)
  g_lots_in_turn := He.glo_ok X G (c.fact 24 (f := .glo "lots_in_turn") rfl)
  g_lot_behind := He.glo_ok X G (c.fact 25 (f := .glo "lot_behind") rfl)
  g_has_story := He.glo_ok X G (c.fact 26 (f := .glo "has_story") rfl)
  g_days_with_story := He.glo_ok X G (c.fact 27 (f := .glo "days_with_story") rfl)
  g_endless_story := He.glo_ok X G (c.fact 28 (f := .glo "endless_story") rfl)
  g_endless_fault := He.glo_ok X G (c.fact 29 (f := .glo "endless_fault") rfl)
  g_days_fault := He.glo_ok X G (c.fact 30 (f := .glo "days_fault") rfl)
  g__law_house := He.glo_ok X G (c.fact 31 (f := .glo "_law_house") rfl)
  g__law_house_rows := He.glo_ok X G (c.fact 32 (f := .glo "_law_house_rows") rfl)
  g__law_housed := He.glo_ok X G (c.fact 33 (f := .glo "_law_housed") rfl)
  g__law_is_house := He.glo_ok X G (c.fact 34 (f := .glo "_law_is_house") rfl)
  g__law_ahead := He.glo_ok X G (c.fact 35 (f := .glo "_law_ahead") rfl)
  g__law_with_hand := He.glo_ok X G (c.fact 36 (f := .glo "_law_with_hand") rfl)
  g__law_with_letter := He.glo_ok X G (c.fact 37 (f := .glo "_law_with_letter") rfl)
  g__law_goes := He.glo_ok X G (c.fact 38 (f := .glo "_law_goes") rfl)
  g__law_whole := He.glo_ok X G (c.fact 39 (f := .glo "_law_whole") rfl)
  g__law_is_couple := He.glo_ok X G (c.fact 40 (f := .glo "_law_is_couple") rfl)
  g__law_are_couples := He.glo_ok X G (c.fact 41 (f := .glo "_law_are_couples") rfl)
  g__law_lots := He.glo_ok X G (c.fact 42 (f := .glo "_law_lots") rfl)
  g__law_next := He.glo_ok X G (c.fact 43 (f := .glo "_law_next") rfl)
  g__law_powered := He.glo_ok X G (c.fact 44 (f := .glo "_law_powered") rfl)
  g__law_told_round := He.glo_ok X G (c.fact 45 (f := .glo "_law_told_round") rfl)
  g__law_is_round := He.glo_ok X G (c.fact 46 (f := .glo "_law_is_round") rfl)
  g__law_far := He.glo_ok X G (c.fact 47 (f := .glo "_law_far") rfl)
  g__law_spoilt := He.glo_ok X G (c.fact 48 (f := .glo "_law_spoilt") rfl)
  g__law_hand := He.glo_ok X G (c.fact 49 (f := .glo "_law_hand") rfl)
  g__law_mixed := He.glo_ok X G (c.fact 50 (f := .glo "_law_mixed") rfl)
  g__law_take := He.glo_ok X G (c.fact 51 (f := .glo "_law_take") rfl)
  g__law_tuples := He.glo_ok X G (c.fact 52 (f := .glo "_law_tuples") rfl)
  g__law_odd := He.glo_ok X G (c.fact 53 (f := .glo "_law_odd") rfl)
  g__law_rid := He.glo_ok X G (c.fact 54 (f := .glo "_law_rid") rfl)
  g__law_asked := He.glo_ok X G (c.fact 55 (f := .glo "_law_asked") rfl)
  g__law_refusals_right := He.glo_ok X G (c.fact 56 (f := .glo "_law_refusals_right") rfl)
  g__law_truth := He.glo_ok X G (c.fact 57 (f := .glo "_law_truth") rfl)
  g__law_blank_right := He.glo_ok X G (c.fact 58 (f := .glo "_law_blank_right") rfl)
  g__law_powers_right := He.glo_ok X G (c.fact 59 (f := .glo "_law_powers_right") rfl)
  g__law_fault_word := He.glo_ok X G (c.fact 60 (f := .glo "_law_fault_word") rfl)
  g__law_endless_right := He.glo_ok X G (c.fact 61 (f := .glo "_law_endless_right") rfl)
  g__law_case := He.glo_ok X G (c.fact 62 (f := .glo "_law_case") rfl)
  g_law := He.glo_ok X G (c.fact 63 (f := .glo "law") rfl)
  b_isinstance := He.free_ok X G (c.fact 64 (f := .free "isinstance") rfl)
  b_int := He.free_ok X G (c.fact 65 (f := .free "int") rfl)
  b_bool := He.free_ok X G (c.fact 66 (f := .free "bool") rfl)
  b_len := He.free_ok X G (c.fact 67 (f := .free "len") rfl)
  b_list := He.free_ok X G (c.fact 68 (f := .free "list") rfl)
  b_tuple := He.free_ok X G (c.fact 69 (f := .free "tuple") rfl)
  b_all := He.free_ok X G (c.fact 70 (f := .free "all") rfl)
  b_any := He.free_ok X G (c.fact 71 (f := .free "any") rfl)
  b_enumerate := He.free_ok X G (c.fact 72 (f := .free "enumerate") rfl)
  b_range := He.free_ok X G (c.fact 73 (f := .free "range") rfl)
  b_sorted := He.free_ok X G (c.fact 74 (f := .free "sorted") rfl)
  b_max := He.free_ok X G (c.fact 75 (f := .free "max") rfl)
  b_min := He.free_ok X G (c.fact 76 (f := .free "min") rfl)
  b_abs := He.free_ok X G (c.fact 77 (f := .free "abs") rfl)
  b_str := He.free_ok X G (c.fact 78 (f := .free "str") rfl)
  i_MOST_DAYS := He.int_ok X G (c.fact 79 (f := .int "MOST_DAYS" 60) rfl)
  i_FAR_DAYS := He.int_ok X G (c.fact 80 (f := .int "FAR_DAYS" 1000000000000000000000000000000) rfl)
  i_MOST_TURN := He.int_ok X G (c.fact 81 (f := .int "MOST_TURN" 10000) rfl)
  cl_House := He.cls_ok (c.fact 82 (f := .cls "House") rfl)
  mk_House := He.mkr_ok (c.fact 83 (f := .mkr "House") rfl)
  kp_House := He.keep_ok (c.fact 84 (f := .keep "House") rfl)
  cl_Round := He.cls_ok (c.fact 85 (f := .cls "Round") rfl)
  mk_Round := He.mkr_ok (c.fact 86 (f := .mkr "Round") rfl)
  kp_Round := He.keep_ok (c.fact 87 (f := .keep "Round") rfl)
  cl_Endless := He.cls_ok (c.fact 88 (f := .cls "Endless") rfl)
  mk_Endless := He.mkr_ok (c.fact 89 (f := .mkr "Endless") rfl)
  kp_Endless := He.keep_ok (c.fact 90 (f := .keep "Endless") rfl)
  cl_Ends := He.cls_ok (c.fact 91 (f := .cls "Ends") rfl)
  mk_Ends := He.mkr_ok (c.fact 92 (f := .mkr "Ends") rfl)
  kp_Ends := He.keep_ok (c.fact 93 (f := .keep "Ends") rfl)
  na_House_hand_size := He.noat_ok (c.fact 94 (f := .noat "House" "hand_size") rfl)
  na_House_letter_size := He.noat_ok (c.fact 95 (f := .noat "House" "letter_size") rfl)
  na_House_rows := He.noat_ok (c.fact 96 (f := .noat "House" "rows") rfl)
  na_Round_head := He.noat_ok (c.fact 97 (f := .noat "Round" "head") rfl)
  na_Round_turn := He.noat_ok (c.fact 98 (f := .noat "Round" "turn") rfl)
  na_Round_lot := He.noat_ok (c.fact 99 (f := .noat "Round" "lot") rfl)
  na_Endless_before := He.noat_ok (c.fact 100 (f := .noat "Endless" "before") rfl)
  na_Endless_again := He.noat_ok (c.fact 101 (f := .noat "Endless" "again") rfl)
  na_Ends_days := He.noat_ok (c.fact 102 (f := .noat "Ends" "days") rfl)
  me_Round__eq__ := He.meth_ok (c.fact 103 (f := .meth "Round" "__eq__") rfl)
  me_Round__contains__ := He.meth_ok (c.fact 104 (f := .meth "Round" "__contains__") rfl)
  me_Round__or__ := He.meth_ok (c.fact 105 (f := .meth "Round" "__or__") rfl)
  me_Endless__eq__ := He.meth_ok (c.fact 106 (f := .meth "Endless" "__eq__") rfl)
  me_Ends__eq__ := He.meth_ok (c.fact 107 (f := .meth "Ends" "__eq__") rfl)
  na_BadDays_days := He.noat_ok (c.fact 108 (f := .noat "BadDays" "days") rfl)
  me_BadDays__init__ := He.meth_ok (c.fact 109 (f := .meth "BadDays" "__init__") rfl)
  kp_BadDays := He.keep_ok (c.fact 110 (f := .keep "BadDays") rfl)
  na_BadHand_hand := He.noat_ok (c.fact 111 (f := .noat "BadHand" "hand") rfl)
  me_BadHand__init__ := He.meth_ok (c.fact 112 (f := .meth "BadHand" "__init__") rfl)
  kp_BadHand := He.keep_ok (c.fact 113 (f := .keep "BadHand") rfl)
  na_BadLetter_letter := He.noat_ok (c.fact 114 (f := .noat "BadLetter" "letter") rfl)
  me_BadLetter__init__ := He.meth_ok (c.fact 115 (f := .meth "BadLetter" "__init__") rfl)
  kp_BadLetter := He.keep_ok (c.fact 116 (f := .keep "BadLetter") rfl)
  xm_BadDays_BadDays := He.exm_ok (c.fact 117 (f := .exm "BadDays" "BadDays" true) rfl)
  xm_BadDays_BadHand := He.exm_ok (c.fact 118 (f := .exm "BadDays" "BadHand" false) rfl)
  xm_BadDays_BadLetter := He.exm_ok (c.fact 119 (f := .exm "BadDays" "BadLetter" false) rfl)
  xm_BadHand_BadDays := He.exm_ok (c.fact 120 (f := .exm "BadHand" "BadDays" false) rfl)
  xm_BadHand_BadHand := He.exm_ok (c.fact 121 (f := .exm "BadHand" "BadHand" true) rfl)
  xm_BadHand_BadLetter := He.exm_ok (c.fact 122 (f := .exm "BadHand" "BadLetter" false) rfl)
  xm_BadLetter_BadDays := He.exm_ok (c.fact 123 (f := .exm "BadLetter" "BadDays" false) rfl)
  xm_BadLetter_BadHand := He.exm_ok (c.fact 124 (f := .exm "BadLetter" "BadHand" false) rfl)
  xm_BadLetter_BadLetter := He.exm_ok (c.fact 125 (f := .exm "BadLetter" "BadLetter" true) rfl)
  f_BadDays__init__ := c.def_ 0 (d := d_BadDays__init__) rfl
  f_BadHand__init__ := c.def_ 1 (d := d_BadHand__init__) rfl
  f_BadLetter__init__ := c.def_ 2 (d := d_BadLetter__init__) rfl
  f_is_whole := c.def_ 3 (d := d_is_whole) rfl
  f_is_couple_of := c.def_ 4 (d := d_is_couple_of) rfl
  f_House__init__ := c.def_ 5 (d := d_House__init__) rfl
  f_check_days := c.def_ 6 (d := d_check_days) rfl
  f_check_hand := c.def_ 7 (d := d_check_hand) rfl
  f_check_letter := c.def_ 8 (d := d_check_letter) rfl
  f_are_couples := c.def_ 9 (d := d_are_couples) rfl
  f_first_fall := c.def_ 10 (d := d_first_fall) rfl
  f_numbers_with_hand := c.def_ 11 (d := d_numbers_with_hand) rfl
  f_numbers_with_letter := c.def_ 12 (d := d_numbers_with_letter) rfl
  f_couples_of := c.def_ 13 (d := d_couples_of) rfl
  f_lists_ahead := c.def_ 14 (d := d_lists_ahead) rfl
  f_comes_back := c.def_ 15 (d := d_comes_back) rfl
  f_least_telling := c.def_ 16 (d := d_least_telling) rfl
  f_common_turn := c.def_ 17 (d := d_common_turn) rfl
  f_numbers_below := c.def_ 18 (d := d_numbers_below) rfl
  f_shared_telling := c.def_ 19 (d := d_shared_telling) rfl
  f_Round__init__ := c.def_ 20 (d := d_Round__init__) rfl
  f_Round__eq__ := c.def_ 21 (d := d_Round__eq__) rfl
  f_Round__contains__ := c.def_ 22 (d := d_Round__contains__) rfl
  f_Round__or__ := c.def_ 23 (d := d_Round__or__) rfl
  f_Endless__init__ := c.def_ 24 (d := d_Endless__init__) rfl
  f_Endless__eq__ := c.def_ 25 (d := d_Endless__eq__) rfl
  f_Ends__init__ := c.def_ 26 (d := d_Ends__init__) rfl
  f_Ends__eq__ := c.def_ 27 (d := d_Ends__eq__) rfl
  f_numbers_after := c.def_ 28 (d := d_numbers_after) rfl
  f_lots_in_turn := c.def_ 29 (d := d_lots_in_turn) rfl
  f_lot_behind := c.def_ 30 (d := d_lot_behind) rfl
  f_has_story := c.def_ 31 (d := d_has_story) rfl
  f_days_with_story := c.def_ 32 (d := d_days_with_story) rfl
  f_endless_story := c.def_ 33 (d := d_endless_story) rfl
  f_endless_fault := c.def_ 34 (d := d_endless_fault) rfl
  f_days_fault := c.def_ 35 (d := d_days_fault) rfl
  f__law_house := c.def_ 36 (d := d__law_house) rfl
  f__law_house_rows := c.def_ 37 (d := d__law_house_rows) rfl
  f__law_housed := c.def_ 38 (d := d__law_housed) rfl
  f__law_is_house := c.def_ 39 (d := d__law_is_house) rfl
  f__law_ahead := c.def_ 40 (d := d__law_ahead) rfl
  f__law_with_hand := c.def_ 41 (d := d__law_with_hand) rfl
  f__law_with_letter := c.def_ 42 (d := d__law_with_letter) rfl
  f__law_goes := c.def_ 43 (d := d__law_goes) rfl
  f__law_whole := c.def_ 44 (d := d__law_whole) rfl
  f__law_is_couple := c.def_ 45 (d := d__law_is_couple) rfl
  f__law_are_couples := c.def_ 46 (d := d__law_are_couples) rfl
  f__law_lots := c.def_ 47 (d := d__law_lots) rfl
  f__law_next := c.def_ 48 (d := d__law_next) rfl
  f__law_powered := c.def_ 49 (d := d__law_powered) rfl
  f__law_told_round := c.def_ 50 (d := d__law_told_round) rfl
  f__law_is_round := c.def_ 51 (d := d__law_is_round) rfl
  f__law_far := c.def_ 52 (d := d__law_far) rfl
  f__law_spoilt := c.def_ 53 (d := d__law_spoilt) rfl
  f__law_hand := c.def_ 54 (d := d__law_hand) rfl
  f__law_mixed := c.def_ 55 (d := d__law_mixed) rfl
  f__law_take := c.def_ 56 (d := d__law_take) rfl
  f__law_tuples := c.def_ 57 (d := d__law_tuples) rfl
  f__law_odd := c.def_ 58 (d := d__law_odd) rfl
  f__law_rid := c.def_ 59 (d := d__law_rid) rfl
  f__law_asked := c.def_ 60 (d := d__law_asked) rfl
  f__law_refusals_right := c.def_ 61 (d := d__law_refusals_right) rfl
  f__law_truth := c.def_ 62 (d := d__law_truth) rfl
  f__law_blank_right := c.def_ 63 (d := d__law_blank_right) rfl
  f__law_powers_right := c.def_ 64 (d := d__law_powers_right) rfl
  f__law_fault_word := c.def_ 65 (d := d__law_fault_word) rfl
  f__law_endless_right := c.def_ 66 (d := d__law_endless_right) rfl
  f__law_case := c.def_ 67 (d := d__law_case) rfl
  f_law := c.def_ 68 (d := d_law) rfl
  more := hm
section
variable {K : PySem.W.Frag} {mg : Str → Option Value}
theorem TX.m1 (T : TX K mg) {x : Str} (h : x ∈ (["BadDays", "BadHand", "BadLetter"] : List Str)) : ex2B K x = true := List.all_eq_true.mp (He.ba T.more).1 x h
theorem TX.m2 (T : TX K mg) {x : Str} (h : x ∈ clsN) : IsC K x := isB_ok (List.all_eq_true.mp (He.ba (He.ba T.more).2).1 x h)
theorem TX.m3 (T : TX K mg) {x y : Str} (hx : x ∈ clsN) (hy : y ∈ clsN) : PySem.W.kitOne K (.ref (gA K x)) (.ref (gA K y)) = some (decide (x = y)) :=
  of_decide_eq_true (List.all_eq_true.mp (List.all_eq_true.mp (He.ba (He.ba (He.ba T.more).2).2).1 x hx) y hy)
theorem TX.m4 (T : TX K mg) {t : String} {y : Str} (ht : t ∈ tyN) (hy : y ∈ clsN) : PySem.W.kitOne K (.type t) (.ref (gA K y)) = some false :=
  of_decide_eq_true (List.all_eq_true.mp (List.all_eq_true.mp (He.ba (He.ba (He.ba (He.ba T.more).2).2).2).1 t ht) y hy)
theorem TX.m5 (T : TX K mg) {x : Str} {t : String} (hx : x ∈ clsN) (ht : t ∈ tyN) : PySem.W.kitOne K (.ref (gA K x)) (.type t) = some false :=
  of_decide_eq_true (List.all_eq_true.mp (List.all_eq_true.mp (He.ba (He.ba (He.ba (He.ba (He.ba T.more).2).2).2).2).1 x hx) t ht)
theorem TX.m6 (T : TX K mg) {x : Str} (hx : x ∈ (["Round", "Endless", "Ends"] : List Str)) : PySem.W.findIn K (.ref (gA K x)) "__ne__" = some (some (.builtin "object.__ne__")) :=
  of_decide_eq_true (List.all_eq_true.mp (He.ba (He.ba (He.ba (He.ba (He.ba (He.ba T.more).2).2).2).2).2).1 x hx)
theorem TX.m7 (T : TX K mg) : PySem.W.selfFirst K (gA K "Round") = true := (He.ba (He.ba (He.ba (He.ba (He.ba (He.ba T.more).2).2).2).2).2).2
theorem TX.xDays (T : TX K mg) : ExC K "BadDays" "days" := ex2B_ok (T.m1 (by decide +kernel)) T.kp_BadDays T.na_BadDays_days T.me_BadDays__init__
theorem TX.xHand (T : TX K mg) : ExC K "BadHand" "hand" := ex2B_ok (T.m1 (by decide +kernel)) T.kp_BadHand T.na_BadHand_hand T.me_BadHand__init__
theorem TX.xLetter (T : TX K mg) : ExC K "BadLetter" "letter" := ex2B_ok (T.m1 (by decide +kernel)) T.kp_BadLetter T.na_BadLetter_letter T.me_BadLetter__init__
end

end K53
namespace K53
open PySem PySem.Spec PyProof.Rows L2
/-! ### one step of a reading -/
section
variable {σ : L2.St} {H : Hp} {Q : VK} {QA : List V → Hp → Prop} {QT : Bool → Hp → Prop} {nx bk ct : L2.St → Hp → Prop} {rt : VK} {D : Ends} {ta tb te tc : TE} {t u : TS} {tt tu : TT} {r : R2} {x y v : V} {i : Nat} {g : TG}
theorem s_seq (h : t ⟨u ⟨nx, rt, bk, ct⟩, rt, bk, ct⟩ σ H) : tSeq t u ⟨nx, rt, bk, ct⟩ σ H := h
theorem s_asg (h : te σ H fun x H1 => g x σ H1 nx) : tAsg te g ⟨nx, rt, bk, ct⟩ σ H := h
theorem s_name {Qn : L2.St → Hp → Prop} (h : Qn (σ.set i (some v)) H) : gName i v σ H Qn := h
theorem s_ret (h : te σ H rt) : tRet te ⟨nx, rt, bk, ct⟩ σ H := h
theorem s_retN (h : rt .non H) : tRetN ⟨nx, rt, bk, ct⟩ σ H := h
theorem s_next (h : nx σ H) : tNext ⟨nx, rt, bk, ct⟩ σ H := h
theorem s_brk (h : bk σ H) : tBreak ⟨nx, rt, bk, ct⟩ σ H := h
theorem s_drop (h : te σ H fun _ H1 => nx σ H1) : tDrop te ⟨nx, rt, bk, ct⟩ σ H := h
theorem s_if (h : tt σ H fun b H1 => if b = true then t D σ H1 else u D σ H1) : tIfS tt t u D σ H := h
theorem s_var (h : σ[i]? = some (some v)) (q : Q v H) : tVar i σ H Q := ⟨v, h, q⟩
theorem s_c (q : Q v H) : tC v σ H Q := q
theorem s_op (h : ta σ H fun x H1 => tb σ H1 fun y H2 => r x y H2 Q) : tOp r ta tb σ H Q := h
theorem s_un {ru : V → Hp → VK → Prop} (h : ta σ H fun x H1 => ru x H1 Q) : tUn ru ta σ H Q := h
theorem s_I0 {gi : Int → Int → V} {a b : Int} (q : Q (gi a b) H) : rI0 gi (.int a) (.int b) H Q := ⟨a, b, rfl, rfl, q⟩
theorem s_I {C : Int → Int → Prop} {gi : Int → Int → V} {a b : Int} (hc : C a b) (q : Q (gi a b) H) : rI C gi (.int a) (.int b) H Q := ⟨a, b, rfl, rfl, hc, q⟩
theorem s_U {gi : Int → V} {a : Int} (q : Q (gi a) H) : rU gi (.int a) H Q := ⟨a, rfl, q⟩
theorem s_eqi {a b : Int} (q : Q (.bl (decide (a = b))) H) : rEq (.int a) (.int b) H Q := ⟨rfl, by
  have e : decide (V.int a = V.int b) = decide (a = b) := by
    rw [Bool.eq_iff_iff, decide_eq_true_iff, decide_eq_true_iff]
    exact ⟨fun z => V.int.inj z, fun z => by rw [z]⟩
  rw [e]
  exact q⟩
theorem s_nei {a b : Int} (q : Q (.bl (!decide (a = b))) H) : rNe (.int a) (.int b) H Q := ⟨rfl, by
  have e : decide (V.int a = V.int b) = decide (a = b) := by
    rw [Bool.eq_iff_iff, decide_eq_true_iff, decide_eq_true_iff]
    exact ⟨fun z => V.int.inj z, fun z => by rw [z]⟩
  rw [e]
  exact q⟩
theorem s_eq (hs : scal x y = true) (q : Q (.bl (decide (x = y))) H) : rEq x y H Q := ⟨hs, q⟩
theorem s_ne (hs : scal x y = true) (q : Q (.bl (!decide (x = y))) H) : rNe x y H Q := ⟨hs, q⟩
theorem s_test (h : te σ H fun x H' => ∃ k, x = .bl k ∧ QT k H') : tTest te σ H QT := h
theorem s_B (h : te σ H fun x H' => ∃ k, x = .bl k ∧ QT k H') : tB te σ H QT := h
theorem s_bl {b : Bool} {Z : Bool → Prop} (h : Z b) : ∃ k, V.bl b = .bl k ∧ Z k := ⟨b, rfl, h⟩
theorem s_tru {K : PySem.W.Frag} {b : Bool} {Z : Bool → Prop} (hb : TruV K x H b) (h : Z b) : ∃ k, TruV K x H k ∧ Z k := ⟨b, hb, h⟩
theorem s_and (h : tt σ H fun c H1 => if c = true then tu σ H1 QT else QT false H1) : tAnd tt tu σ H QT := h
theorem s_or (h : tt σ H fun c H1 => if c = true then QT true H1 else tu σ H1 QT) : tOr tt tu σ H QT := h
theorem s_not (h : tt σ H fun c H1 => QT (!c) H1) : tNot tt σ H QT := h
theorem s_andV (h : ta σ H fun x H1 => ∃ c, x = .bl c ∧ if c = true then tb σ H1 Q else Q (.bl false) H1) : tAndV ta tb σ H Q := h
theorem s_orV (h : ta σ H fun x H1 => ∃ c, x = .bl c ∧ if c = true then Q (.bl true) H1 else tb σ H1 Q) : tOrV ta tb σ H Q := h
theorem s_notV (h : ta σ H fun x H1 => ∃ c, x = .bl c ∧ Q (.bl (!c)) H1) : tNotV ta σ H Q := h
theorem s_ifE (h : tt σ H fun c H1 => if c = true then ta σ H1 Q else tb σ H1 Q) : tIf tt ta tb σ H Q := h
theorem s_nil (q : QA [] H) : tNil σ H QA := q
theorem s_cons {tr : TA} (h : ta σ H fun x H1 => tr σ H1 fun xs H2 => QA (x :: xs) H2) : tCons ta tr σ H QA := h
theorem s_tup {tA : TA} (h : tA σ H fun xs H1 => xs.length ≤ sizeLine ∧ ∀ p, H1 p = none → Q (.ref p) (upd H1 p (.tup xs))) : tTup tA σ H Q := h
theorem s_lst {tA : TA} (h : tA σ H fun xs H1 => xs.length ≤ sizeLine ∧ ∀ p, H1 p = none → Q (.ref p) (upd H1 p (.lst xs))) : tLst tA σ H Q := h
theorem s_call {sp : Sp} {dvs : List V} {E : XK} {tA : TA} (h : tA σ H fun vs H1 => sp (vs ++ dvs) H1 Q E) : tCall sp dvs E tA σ H Q := h
theorem s_cb {rc : List V → Hp → VK → Prop} {tA : TA} (h : tA σ H fun vs H1 => rc vs H1 Q) : tCB rc tA σ H Q := h
theorem s_isn (q : Q (.bl (decide (x = .non))) H) : (fun (x y : V) (H : Hp) (Q : VK) => y = .non ∧ Q (.bl (decide (x = .non))) H) x .non H Q := ⟨rfl, q⟩
theorem s_itT {A B : Prop} (h : A) : if true = true then A else B := iteT h
theorem s_itF {A B : Prop} (h : B) : if false = true then A else B := iteF h
theorem s_bm {K : PySem.W.Frag} {T : String} {rm : V → List V → Hp → VK → Prop} {tA : TA} (h : te σ H fun x H1 => tyV K T x H1 ∧ tA σ H1 fun xs H2 => rm x xs H2 Q) : tBM K T rm te tA σ H Q := h
theorem s_fldR {K : PySem.W.Frag} {f : Str} (h : te σ H fun x H1 => ∃ a C dx fs v, x = .ref a ∧ H1 a = some (.ins C dx fs) ∧ Cls K C ∧ NoAttr K C f ∧ fs.lookup f = some v ∧ Q v H1) : tFld K te f σ H Q := h
theorem s_fld {K : PySem.W.Frag} {a C dx : Addr} {fs : List (Str × V)} {f : Str} {Z : V → Prop} (h : H a = some (.ins C dx fs)) (c : Cls K C) (n : NoAttr K C f) (l : fs.lookup f = some v) (q : Z v) :
  ∃ a' C dx fs v', V.ref a = .ref a' ∧ H a' = some (.ins C dx fs) ∧ Cls K C ∧ NoAttr K C f ∧ fs.lookup f = some v' ∧ Z v' := ⟨a, C, dx, fs, v, rfl, h, c, n, l, q⟩
end
/-- a small size -/
theorem sz16 {n : Nat} (h : n ≤ 100000) : n ≤ sizeLine := Nat.le_trans h (by decide)
theorem sz16l {n : Nat} (h : n < 100000) : n < sizeLine := Nat.lt_of_lt_of_le h (by decide)
theorem s_tl {x : Nat} {A : Prop} (h : x ≤ 100000) (a : A) : x ≤ sizeLine ∧ A := ⟨sz16 h, a⟩

end K53
namespace K53
open PySem PySem.Spec PyProof.Rows L2
/-! ### heaps -/
theorem get_up {H : Hp} {p a : Addr} {u o : HO} (h : H a = some o) (n : H p = none) : upd H p u a = some o := by rw [upd_ne (ne_of_none h n)]; exact h
theorem _root_.L2.Same.get {H H' : Hp} {a : Addr} {o : HO} (s : Same H H') (h : H a = some o) : H' a = some o := s a o h
theorem _root_.L2.Same.up {H : Hp} {p : Addr} {o : HO} (n : H p = none) : Same H (upd H p o) := fun a u e => by rw [upd_ne (ne_of_none e n)]; exact e
theorem _root_.L2.Same.upT {H0 H : Hp} {p : Addr} {o : HO} (s : Same H0 H) (n : H p = none) : Same H0 (upd H p o) := s.trans (L2.Same.up n)
/-- what stood and is no new one may be changed -/
theorem _root_.L2.Same.mut {H0 H : Hp} {p : Addr} {o : HO} (s : Same H0 H) (n : H0 p = none) : Same H0 (upd H p o) := fun a u e => by rw [upd_ne (ne_of_none e n)]; exact s a u e
/-- the drawing hand: a list of a list and three ivs -/
def nh : List V → Bool
  | [.ref _, .int _, .int _, .int _] => false
  | _ => true
def nhO : HO → Bool
  | .lst xs => nh xs
  | _ => true
/-- all but the drawing hand stands as it stood -/
def SameS (H H' : Hp) : Prop := ∀ a o, nhO o = true → H a = some o → H' a = some o
theorem _root_.L2.Same.toS {H H' : Hp} (s : Same H H') : SameS H H' := fun a o _ h => s a o h
theorem SameS.refl (H : Hp) : SameS H H := fun _ _ _ h => h
theorem SameS.trans {H H1 H2 : Hp} (a : SameS H H1) (b : SameS H1 H2) : SameS H H2 := fun c o n h => b c o n (a c o n h)
theorem SameS.hand {H : Hp} {x : Addr} {xs : List V} {o : HO} (h : H x = some (.lst xs)) (hx : nh xs = false) : SameS H (upd H x o) := fun a u n e => by
  have : a ≠ x := fun z => by
    rw [z, h] at e
    cases e
    have n' : nh xs = true := n
    rw [hx] at n'
    cases n'
  rw [upd_ne this]
  exact e

/-! ### data by the heap -/
mutual
inductive Hd (H : Hp) : V → PyData → Prop
  | non : Hd H .non .none
  | bl (b : Bool) : Hd H (.bl b) (.bool b)
  | int (i : Int) : Hd H (.int i) (.int i)
  | str (x : Str) : Hd H (.str x) (.str x)
  | lst {a : Addr} {xs : List V} {ds : List PyData} : H a = some (.lst xs) → nh xs = true → HdL H xs ds → Hd H (.ref a) (.list ds)
  | tup {a : Addr} {xs : List V} {ds : List PyData} : H a = some (.tup xs) → HdL H xs ds → Hd H (.ref a) (.tuple ds)
  | dic {a : Addr} {kvs : List (Key × V)} : H a = some (.dK kvs) → Hd H (.ref a) (.dict [])
inductive HdL (H : Hp) : List V → List PyData → Prop
  | nil : HdL H [] []
  | cons {v : V} {vs : List V} {d : PyData} {ds : List PyData} : Hd H v d → HdL H vs ds → HdL H (v :: vs) (d :: ds)
end
section
variable {H H' : Hp}
mutual
theorem Hd.mono (s : SameS H H') : ∀ (d : PyData) (v : V), Hd H v d → Hd H' v d
  | .none, _, h => by cases h; exact .non
  | .bool b, _, h => by cases h; exact .bl b
  | .int i, _, h => by cases h; exact .int i
  | .str x, _, h => by cases h; exact .str x
  | .list ds, _, h => by
    cases h with
    | lst h1 h2 h3 => exact .lst (s _ _ h2 h1) h2 (HdL.mono s ds _ h3)
  | .tuple ds, _, h => by
    cases h with
    | tup h1 h3 => exact .tup (s _ _ rfl h1) (HdL.mono s ds _ h3)
  | .dict _, _, h => by
    cases h with
    | dic h1 => exact .dic (s _ _ rfl h1)
theorem HdL.mono (s : SameS H H') : ∀ (ds : List PyData) (vs : List V), HdL H vs ds → HdL H' vs ds
  | [], _, h => by cases h; exact .nil
  | d :: ds, _, h => by
    cases h with
    | cons h1 h2 => exact .cons (Hd.mono s d _ h1) (HdL.mono s ds _ h2)
end
theorem Hd.to {v : V} {d : PyData} (h : Hd H v d) (s : Same H H') : Hd H' v d := Hd.mono s.toS d v h
theorem Hd.toS {v : V} {d : PyData} (h : Hd H v d) (s : SameS H H') : Hd H' v d := Hd.mono s d v h
theorem HdL.to {vs : List V} {ds : List PyData} (h : HdL H vs ds) (s : Same H H') : HdL H' vs ds := HdL.mono s.toS ds vs h
theorem HdL.toS {vs : List V} {ds : List PyData} (h : HdL H vs ds) (s : SameS H H') : HdL H' vs ds := HdL.mono s ds vs h
theorem HdL.len : ∀ {ds : List PyData} {vs : List V}, HdL H vs ds → vs.length = ds.length
  | [], _, h => by cases h; rfl
  | d :: ds, _, h => by
    cases h with
    | cons h1 h2 => rw [List.length_cons, List.length_cons, h2.len]
theorem HdL.get : ∀ {ds : List PyData} {vs : List V} {i : Nat} {d : PyData}, HdL H vs ds → ds[i]? = some d → ∃ v, vs[i]? = some v ∧ Hd H v d
  | [], _, i, d, h, e => by simp at e
  | d :: ds, _, 0, d', h, e => by
    cases h with
    | cons h1 h2 =>
      have e' : d = d' := Option.some.inj e
      subst e'
      exact ⟨_, rfl, h1⟩
  | d :: ds, _, i + 1, d', h, e => by
    cases h with
    | cons h1 h2 => exact HdL.get (i := i) h2 e
theorem HdL.getV : ∀ {ds : List PyData} {vs : List V} {i : Nat} {v : V}, HdL H vs ds → vs[i]? = some v → ∃ d, ds[i]? = some d ∧ Hd H v d
  | [], _, i, d, h, e => by cases h; simp at e
  | d :: ds, _, 0, v', h, e => by
    cases h with
    | cons h1 h2 =>
      have e' := Option.some.inj e
      subst e'
      exact ⟨_, rfl, h1⟩
  | d :: ds, _, i + 1, d', h, e => by
    cases h with
    | cons h1 h2 => exact HdL.getV (i := i) h2 e
theorem HdL.app : ∀ {ds es : List PyData} {vs ws : List V}, HdL H vs ds → HdL H ws es → HdL H (vs ++ ws) (ds ++ es)
  | [], _, _, _, h, k => by cases h; exact k
  | d :: ds, _, _, _, h, k => by
    cases h with
    | cons h1 h2 => exact .cons h1 (HdL.app h2 k)
theorem HdL.take : ∀ (n : Nat) {ds : List PyData} {vs : List V}, HdL H vs ds → HdL H (vs.take n) (ds.take n)
  | 0, _, _, _ => by rw [List.take_zero, List.take_zero]; exact .nil
  | n + 1, [], _, h => by cases h; exact .nil
  | n + 1, d :: ds, _, h => by
    cases h with
    | cons h1 h2 => exact .cons h1 (HdL.take n h2)
theorem HdL.drop : ∀ (n : Nat) {ds : List PyData} {vs : List V}, HdL H vs ds → HdL H (vs.drop n) (ds.drop n)
  | 0, _, _, h => h
  | n + 1, [], _, h => by cases h; exact .nil
  | n + 1, d :: ds, _, h => by
    cases h with
    | cons h1 h2 => exact HdL.drop n h2
theorem Hd.int_eq {v : V} {i : Int} (h : Hd H v (.int i)) : v = .int i := by cases h; rfl
theorem Hd.bl_eq {v : V} {b : Bool} (h : Hd H v (.bool b)) : v = .bl b := by cases h; rfl
theorem Hd.non_eq {v : V} (h : Hd H v .none) : v = .non := by cases h; rfl
theorem Hd.str_eq {v : V} {x : Str} (h : Hd H v (.str x)) : v = .str x := by cases h; rfl
theorem Hd.tup_eq {v : V} {ds : List PyData} (h : Hd H v (.tuple ds)) : ∃ a xs, v = .ref a ∧ H a = some (.tup xs) ∧ HdL H xs ds := by
  cases h with
  | tup h1 h3 => exact ⟨_, _, rfl, h1, h3⟩
theorem Hd.lst_eq {v : V} {ds : List PyData} (h : Hd H v (.list ds)) : ∃ a xs, v = .ref a ∧ H a = some (.lst xs) ∧ nh xs = true ∧ HdL H xs ds := by
  cases h with
  | lst h1 h2 h3 => exact ⟨_, _, rfl, h1, h2, h3⟩
/-- whole numbers -/
def ivs (ns : List Nat) : List V := ns.map fun (n : Nat) => V.int (n : Int)
def ivD (ns : List Nat) : List PyData := ns.map fun (n : Nat) => PyData.int (n : Int)
theorem HdL.iv_eq : ∀ {ns : List Nat} {vs : List V}, HdL H vs (ivD ns) → vs = ivs ns
  | [], _, h => by cases h; rfl
  | n :: ns, _, h => by
    cases h with
    | cons h1 h2 => rw [h1.int_eq, HdL.iv_eq h2] <;> rfl
theorem HdL.iv : ∀ (ns : List Nat), HdL H (ivs ns) (ivD ns)
  | [] => .nil
  | n :: ns => .cons (.int _) (HdL.iv ns)
theorem nh_iv : ∀ ns : List Nat, nh (ivs ns) = true
  | [] => rfl
  | n :: ns => rfl
theorem Hd.iv_eq {v : V} {ns : List Nat} (h : Hd H v (.list (ivD ns))) : ∃ a, v = .ref a ∧ H a = some (.lst (ivs ns)) := by
  obtain ⟨a, xs, e, h1, h2, h3⟩ := h.lst_eq
  rw [h3.iv_eq] at h1
  exact ⟨a, e, h1⟩
theorem Hd.iv {a : Addr} {ns : List Nat} (h : H a = some (.lst (ivs ns))) : Hd H (.ref a) (.list (ivD ns)) := .lst h (nh_iv ns) (HdL.iv ns)
theorem Hd.ivT {a : Addr} {ns : List Nat} (h : H a = some (.tup (ivs ns))) : Hd H (.ref a) (.tuple (ivD ns)) := .tup h (HdL.iv ns)
theorem Hd.ivT_eq {v : V} {ns : List Nat} (h : Hd H v (.tuple (ivD ns))) : ∃ a, v = .ref a ∧ H a = some (.tup (ivs ns)) := by
  obtain ⟨a, xs, e, h1, h3⟩ := h.tup_eq
  rw [h3.iv_eq] at h1
  exact ⟨a, e, h1⟩
theorem iv_len (ns : List Nat) : (ivs ns).length = ns.length := by unfold ivs; rw [List.length_map]
theorem iv_get {ns : List Nat} {i n : Nat} (h : ns[i]? = some n) : (ivs ns)[i]? = some (.int n) := by
  unfold ivs
  rw [List.getElem?_map, h]
  rfl
/-! where the data is deep, == finds it -/
mutual
theorem Hd.dp (K : PySem.W.Frag) : ∀ (d : PyData) (v : V), d.canLay0 = true → Hd H v d → Dp K H v d
  | .none, _, _, h => by cases h; exact .non
  | .bool b, _, _, h => by cases h; exact .bl b
  | .int i, _, _, h => by cases h; exact .int i
  | .str x, _, _, h => by cases h; exact .str x
  | .list ds, _, hc, h => by
    cases h with
    | lst h1 h2 h3 => exact .lst (SqL.of h1) (HdL.dp K ds _ (by simpa [PyData.canLay0] using hc) h3)
  | .tuple ds, _, hc, h => by
    cases h with
    | tup h1 h3 => exact .tup (SqT.of h1) (HdL.dp K ds _ (by simpa [PyData.canLay0] using hc) h3)
  | .dict kvs, _, hc, _ => by simp [PyData.canLay0] at hc
theorem HdL.dp (K : PySem.W.Frag) : ∀ (ds : List PyData) (vs : List V), PyData.canLayAll0 ds = true → HdL H vs ds → DpAll K H vs ds
  | [], _, _, h => by cases h; exact .nil
  | d :: ds, _, hc, h => by
    simp only [PyData.canLayAll0, Bool.and_eq_true] at hc
    cases h with
    | cons h1 h2 => exact .cons (Hd.dp K d _ hc.1 h1) (HdL.dp K ds _ hc.2 h2)
end
end

end K53
namespace K53
open PySem PySem.Spec PyProof.Rows L2
/-! ### isinstance of data -/
def tyD : PyData → String
  | .none => "NoneType"
  | .bool _ => "bool"
  | .int _ => "int"
  | .str _ => "str"
  | .list _ => "list"
  | .tuple _ => "tuple"
  | .dict _ => "dict"
def isIntD : PyData → Bool
  | .int _ => true
  | .bool _ => true
  | _ => false
def isBoolD : PyData → Bool
  | .bool _ => true
  | _ => false
def isStrD : PyData → Bool
  | .str _ => true
  | _ => false
def isTupD : PyData → Bool
  | .tuple _ => true
  | _ => false
def isSeqD : PyData → Bool
  | .tuple _ => true
  | .list _ => true
  | _ => false
theorem kb (a b : String) (r : Bool) (h : kitB a b = some r := by decide +kernel) : kitB a b = some r := h
section
variable {K : PySem.W.Frag} {H : Hp} {Q : VK} {x : V} {d : PyData}
theorem Hd.ty (h : Hd H x d) : TyX K H x (.type (tyD d)) := by
  cases h with
  | non => exact .base .non
  | bl b => exact .base (.bl b)
  | int i => exact .base (.int i)
  | str z => exact .base (.str z)
  | lst h1 h2 h3 => exact .base (.lst h1)
  | tup h1 h3 => exact .base (.tup h1)
  | dic h1 => exact .base (.dK h1)
theorem s_isiInt (h : Hd H x d) (q : Q (.bl (isIntD d)) H) : rIsi K [x, .ty "int"] H Q :=
  ⟨x, .ty "int", _, _, isIntD d, rfl, .ty "int", h.ty, kit_ty (by cases d with | none => exact kb "NoneType" "int" false | bool _ => exact kb "bool" "int" true | int _ => exact kb "int" "int" true | str _ => exact kb "str" "int" false | list _ => exact kb "list" "int" false | tuple _ => exact kb "tuple" "int" false | dict _ => exact kb "dict" "int" false), q⟩
theorem s_isiBool (h : Hd H x d) (q : Q (.bl (isBoolD d)) H) : rIsi K [x, .ty "bool"] H Q :=
  ⟨x, .ty "bool", _, _, isBoolD d, rfl, .ty "bool", h.ty, kit_ty (by cases d with | none => exact kb "NoneType" "bool" false | bool _ => exact kb "bool" "bool" true | int _ => exact kb "int" "bool" false | str _ => exact kb "str" "bool" false | list _ => exact kb "list" "bool" false | tuple _ => exact kb "tuple" "bool" false | dict _ => exact kb "dict" "bool" false), q⟩
theorem s_isiStr (h : Hd H x d) (q : Q (.bl (isStrD d)) H) : rIsi K [x, .ty "str"] H Q :=
  ⟨x, .ty "str", _, _, isStrD d, rfl, .ty "str", h.ty, kit_ty (by cases d with | none => exact kb "NoneType" "str" false | bool _ => exact kb "bool" "str" false | int _ => exact kb "int" "str" false | str _ => exact kb "str" "str" true | list _ => exact kb "list" "str" false | tuple _ => exact kb "tuple" "str" false | dict _ => exact kb "dict" "str" false), q⟩
theorem s_isiTup (h : Hd H x d) (q : Q (.bl (isTupD d)) H) : rIsi K [x, .ty "tuple"] H Q :=
  ⟨x, .ty "tuple", _, _, isTupD d, rfl, .ty "tuple", h.ty, kit_ty (by cases d with | none => exact kb "NoneType" "tuple" false | bool _ => exact kb "bool" "tuple" false | int _ => exact kb "int" "tuple" false | str _ => exact kb "str" "tuple" false | list _ => exact kb "list" "tuple" false | tuple _ => exact kb "tuple" "tuple" true | dict _ => exact kb "dict" "tuple" false), q⟩
theorem kitLT (d : PyData) : PySem.W.kitAny K (.type (tyD d)) [.type "list", .type "tuple"] = some (isSeqD d) := by
  cases d
  · exact kitAny_cons (b := false) (kit_ty (kb "NoneType" "list" false)) (fun _ => kitAny_cons (b := false) (kit_ty (kb "NoneType" "tuple" false)) (fun _ => kitAny_nil) (fun h => by cases h)) (fun h => by cases h)
  · exact kitAny_cons (b := false) (kit_ty (kb "bool" "list" false)) (fun _ => kitAny_cons (b := false) (kit_ty (kb "bool" "tuple" false)) (fun _ => kitAny_nil) (fun h => by cases h)) (fun h => by cases h)
  · exact kitAny_cons (b := false) (kit_ty (kb "int" "list" false)) (fun _ => kitAny_cons (b := false) (kit_ty (kb "int" "tuple" false)) (fun _ => kitAny_nil) (fun h => by cases h)) (fun h => by cases h)
  · exact kitAny_cons (b := false) (kit_ty (kb "str" "list" false)) (fun _ => kitAny_cons (b := false) (kit_ty (kb "str" "tuple" false)) (fun _ => kitAny_nil) (fun h => by cases h)) (fun h => by cases h)
  · exact kitAny_cons (b := true) (kit_ty (kb "list" "list" true)) (fun h => by cases h) (fun _ => rfl)
  · exact kitAny_cons (b := false) (kit_ty (kb "tuple" "list" false)) (fun _ => kitAny_cons (b := true) (kit_ty (kb "tuple" "tuple" true)) (fun h => by cases h) (fun _ => rfl)) (fun h => by cases h)
  · exact kitAny_cons (b := false) (kit_ty (kb "dict" "list" false)) (fun _ => kitAny_cons (b := false) (kit_ty (kb "dict" "tuple" false)) (fun _ => kitAny_nil) (fun h => by cases h)) (fun h => by cases h)
theorem s_isiLT {tp : Addr} (h : Hd H x d) (ht : H tp = some (.tup [.ty "list", .ty "tuple"])) (q : Q (.bl (isSeqD d)) H) : rIsiT K [x, .ref tp] H Q :=
  ⟨x, tp, _, _, [.type "list", .type "tuple"], isSeqD d, rfl, ht, .cons (.ty "list") (.cons (.ty "tuple") .nil), h.ty, kitLT d, q⟩
end

/-! ### calls by promises -/
/-- a def that may be called by its name, with these defaults -/
structure Cal (CX : CXT) (P : Program) (w : World) (K : PySem.W.Frag) (mg : Str → Option Value) (base : Heap) (k : Nat) (x : Str) (sp : Sp) (dvs : List V) : Prop where
  ex : ∃ (f : Addr) (fd : FuncData) (ps : List Str) (ds : List Value), FnOk P w K mg base CX k f fd ps sp ∧ mg x = some (.ref f) ∧ PySem.W.keepIn K (.ref f) = true ∧ Binds K fd ps ds ∧ Vals dvs ds
section
variable {X : Cx} {k j : Nat} {x : Str} {sp : Sp} {dvs : List V} {p pos apos : Pos} {e o : Expr} {es : List Expr} {ta : TE} {t : TA} {CX : CXT}
theorem pe_cl (c : Cal CX X.prog X.w X.K X.mg X.base k x sp dvs) (hr : Room j X.A) (hk : k ≤ j) (ha : PA X (e :: es) t) (hx : Passes CX X E0) (hg : Gl X x := by rfl)
    (hdb : (x == ("__debug__" : Str)) = false := by decide) (he : starEach (e :: es) X.env = (false, eval e X.env) :: starEach es X.env := by rfl) (hpl : (backTo pos (starEach es X.env)).any (·.1) = false := by rfl) :
    PE X (.Call (.Name x p) (e :: es) [] pos) (tCall sp dvs E0 t) := by
  obtain ⟨f, fd, ps, ds, F, hm, kp, b, d⟩ := c.ex
  exact pe_call F (hr.mono hk) hg hm kp b d hx ha hdb he hpl
end
section
variable {P : Program} {w : World} {K : PySem.W.Frag} {mg : Str → Option Value} {base : Heap} {CX : CXT}
theorem Cal.mono {j k : Nat} {x : Str} {sp : Sp} {dvs : List V} (c : Cal CX P w K mg base j x sp dvs) (h : j ≤ k) : Cal CX P w K mg base k x sp dvs := by
  obtain ⟨f, fd, ps, ds, F, r⟩ := c.ex
  exact ⟨f, fd, ps, ds, F.mono h, r⟩
/-- its body keeps the promise -/
def Keeps (CX : CXT) (P : Program) (w : World) (K : PySem.W.Frag) (mg : Str → Option Value) (base : Heap) (d : He.DefD) (N : List Str) (k : Nat) (sp : Sp) : Prop :=
  ∀ (cdv : Value) (A : Around) (outer : List Env) (s : Shared) (H : Hp) (vs : List V) (Q : VK) (E : XK), Room k (A.deeper (envOfC d.qual d.scope s.heap.objs.size (He.fAd K d.at_) cdv)) → sp vs H Q E →
    ∃ t, PSs (cxOf CX P w K mg base N d.qual d.scope (He.fAd K d.at_) cdv A outer s H E) d.body t ∧ t { nx := fun _ H' => Q .non H', rt := Q } (start N vs) H
theorem fn_mk {d : He.DefD} {N ps : List Str} {k : Nat} {sp : Sp} (F : FnD K d) (S : FnScope N ps d.scope) (len : ∀ vs H Q E, sp vs H Q E → vs.length = ps.length) (hb : Keeps CX P w K mg base d N k sp) :
    ∃ fd, FunD K d.name d.qual d.params d.body d.scope (d.dvs K) (d.kws K) (He.fAd K d.at_) fd ∧ FnOk P w K mg base CX (k + 1) (He.fAd K d.at_) fd ps sp := by
  obtain ⟨fd, F⟩ := F
  exact ⟨fd, F, F.ok S len hb⟩
/-- a def without defaults -/
theorem cal_mk {d : He.DefD} {x : Str} {N ps : List Str} {k : Nat} {sp : Sp} (F : FnD K d) (hm : mg x = some (.ref (He.fAd K d.at_))) (hd : d.dfl = [] ∧ d.kwd = [])
    (h : ∀ (kV doc pm : Value) (an : Option Addr) (cdv ct : Value) (us : List Value), us.length = ps.length → bindArgs (PySem.W.fnOf d.name d.qual d.params d.body d.scope .none kV doc pm an cdv ct) ⟨us, []⟩ = pure (ps.zip us))
    (S : FnScope N ps d.scope) (len : ∀ vs H Q E, sp vs H Q E → vs.length = ps.length) (hb : Keeps CX P w K mg base d N k sp) : Cal CX P w K mg base (k + 1) x sp [] := by
  obtain ⟨fd, F, G⟩ := fn_mk F S len hb
  have e : d.dvs K = [] := by
    unfold He.DefD.dvs
    rw [hd.1]
    rfl
  rw [e] at F
  exact ⟨_, fd, ps, [], G, hm, F.kp, F.bindsN h, .nil⟩
theorem nox_of {d : He.DefD} {N : List Str} {k : Nat} {sp : Sp} (hb : ∀ (cdv : Value) (A : Around) (outer : List Env) (s : Shared) (H : Hp) (vs : List V) (Q : VK) (E : XK), Room k (A.deeper (envOfC d.qual d.scope s.heap.objs.size (He.fAd K d.at_) cdv)) → sp vs H Q E →
    ∃ t, PSs (cxOf CX P w K mg base N d.qual d.scope (He.fAd K d.at_) cdv A outer s H E).nox d.body t ∧ t { nx := fun _ H' => Q .non H', rt := Q } (start N vs) H) : Keeps CX P w K mg base d N k sp := fun cdv A outer s H vs Q E hr h => by
  obtain ⟨t, ht, q⟩ := hb cdv A outer s H vs Q E hr h
  exact ⟨t, ht.nox, q⟩
end

end K53
namespace K53
open PySem PySem.Spec PyProof.Rows L2
/-! ### some rules -/
section
variable {X : Cx}
theorem pi_or {tg e : Expr} {a b : TI} (ha : PI X tg e a) (hb : PI X tg e b) : PI X tg e (fun σ H R => a σ H R ∨ b σ H R) :=
  ⟨fun pins s σ H R I h => h.elim (fun h => ha.run pins s σ H R I h) (fun h => hb.run pins s σ H R I h)⟩
theorem pe_alt {e : Expr} {a b : TE} (ha : PE X e a) (hb : PE X e b) : PE X e (fun σ H Q => a σ H Q ∨ b σ H Q) :=
  ⟨fun pins s σ H Q I h => h.elim (fun h => ha.run pins s σ H Q I h) (fun h => hb.run pins s σ H Q I h)⟩
theorem pe_gi {x : Str} {n : Int} {pos : Pos} (hm : ∃ t, X.mg x = some (.int n t)) (hg : Gl X x := by rfl) (hd : (x == ("__debug__" : Str)) = false := by decide) : PE X (.Name x pos) (tC (.int n)) := by
  obtain ⟨t, hm⟩ := hm
  exact pe_glob hg hm ⟨t, rfl⟩ hd
end
section
variable {σ : L2.St} {H : Hp} {Q : VK} {QA : List V → Hp → Prop} {ta tb : TE} {x y v : V} {K : PySem.W.Frag}
theorem s_isN (h : ta σ H fun x H1 => Q (.bl (decide (x = .non))) H1) : tIsN ta σ H Q := h
theorem s_notN (h : ta σ H fun x H1 => Q (.bl (!decide (x = .non))) H1) : tNotN ta σ H Q := h
theorem s_ixL {p : Addr} {xs : List V} {i : Nat} (h : SqL K H p xs) (e : xs[i]? = some v) (q : Q v H) : rIxL K (.ref p) (.int (i : Nat)) H Q := ⟨p, xs, _, v, rfl, rfl, h, by rw [atI_nat]; exact e, q⟩
theorem s_ixT {p : Addr} {xs : List V} {i : Nat} (h : SqT K H p xs) (e : xs[i]? = some v) (q : Q v H) : rIxT K (.ref p) (.int (i : Nat)) H Q := ⟨p, xs, _, v, rfl, rfl, h, by rw [atI_nat]; exact e, q⟩
theorem s_ixT0 {p : Addr} {xs : List V} (h : SqT K H p (v :: xs)) (q : Q v H) : rIxT K (.ref p) (.int 0) H Q := s_ixT (i := 0) h rfl q
theorem s_ixT1 {p : Addr} {xs : List V} (h : SqT K H p (x :: v :: xs)) (q : Q v H) : rIxT K (.ref p) (.int 1) H Q := s_ixT (i := 1) h rfl q
theorem s_ixT2 {p : Addr} {xs : List V} (h : SqT K H p (x :: y :: v :: xs)) (q : Q v H) : rIxT K (.ref p) (.int 2) H Q := s_ixT (i := 2) h rfl q
theorem s_ixL0 {p : Addr} {xs : List V} (h : SqL K H p (v :: xs)) (q : Q v H) : rIxL K (.ref p) (.int 0) H Q := s_ixL (i := 0) h rfl q
theorem s_ixL1 {p : Addr} {xs : List V} (h : SqL K H p (x :: v :: xs)) (q : Q v H) : rIxL K (.ref p) (.int 1) H Q := s_ixL (i := 1) h rfl q
theorem s_ixL2 {p : Addr} {xs : List V} (h : SqL K H p (x :: y :: v :: xs)) (q : Q v H) : rIxL K (.ref p) (.int 2) H Q := s_ixL (i := 2) h rfl q
theorem s_ixL3 {p : Addr} {z : V} {xs : List V} (h : SqL K H p (x :: y :: z :: v :: xs)) (q : Q v H) : rIxL K (.ref p) (.int 3) H Q := s_ixL (i := 3) h rfl q
theorem s_seqL {i : V} (h : rIxL K x i H Q) : rIx K x i H Q := .inl h
theorem s_seqT {i : V} (h : rIxT K x i H Q) : rIx K x i H Q := .inr (.inl h)
/-- data that is a list or a tuple -/
def Seq (K : PySem.W.Frag) (H : Hp) (v : V) (xs : List V) : Prop := ∃ p, v = .ref p ∧ (SqL K H p xs ∨ SqT K H p xs)
theorem s_ixS {i : Nat} {xs : List V} (h : Seq K H x xs) (e : xs[i]? = some v) (q : Q v H) : rIx K x (.int (i : Nat)) H Q := by
  obtain ⟨p, rfl, h | h⟩ := h
  · exact .inl (s_ixL h e q)
  · exact .inr (.inl (s_ixT h e q))
theorem s_ixS0 {xs : List V} (h : Seq K H x (v :: xs)) (q : Q v H) : rIx K x (.int 0) H Q := s_ixS (i := 0) h rfl q
theorem s_ixS1 {xs : List V} (h : Seq K H x (y :: v :: xs)) (q : Q v H) : rIx K x (.int 1) H Q := s_ixS (i := 1) h rfl q
def rLen (K : PySem.W.Frag) : List V → Hp → VK → Prop := fun xs H Q => ∃ p ys, xs = [.ref p] ∧ (SqL K H p ys ∨ SqT K H p ys) ∧ Q (.int ys.length) H
def rLstOf (K : PySem.W.Frag) : List V → Hp → VK → Prop := fun xs H Q => ∃ p ys, xs = [.ref p] ∧ (SqL K H p ys ∨ SqT K H p ys) ∧ ∀ l, H l = none → Q (.ref l) (upd H l (.lst ys))
def rInt1 : List V → Hp → VK → Prop := fun xs H Q => (∃ i, xs = [.int i] ∧ Q (.int i) H) ∨ ∃ k, xs = [.bl k] ∧ Q (.int (if k then 1 else 0)) H
def rAbs : List V → Hp → VK → Prop := fun xs H Q => ∃ i, xs = [.int i] ∧ Q (.int (if i < 0 then -i else i)) H
def rMx2 : List V → Hp → VK → Prop := fun xs H Q => ∃ i j, xs = [.int i, .int j] ∧ Q (.int (if j > i then j else i)) H
def rMn2 : List V → Hp → VK → Prop := fun xs H Q => ∃ i j, xs = [.int i, .int j] ∧ Q (.int (if j < i then j else i)) H
theorem s_len {xs : List V} (h : Seq K H x xs) (q : Q (.int xs.length) H) : rLen K [x] H Q := by
  obtain ⟨p, rfl, h⟩ := h
  exact ⟨p, xs, rfl, h, q⟩
theorem s_lenL {p : Addr} {xs : List V} (h : H p = some (.lst xs)) (q : Q (.int xs.length) H) : rLen K [.ref p] H Q := ⟨p, xs, rfl, .inl (SqL.of h), q⟩
theorem s_lenT {p : Addr} {xs : List V} (h : H p = some (.tup xs)) (q : Q (.int xs.length) H) : rLen K [.ref p] H Q := ⟨p, xs, rfl, .inr (SqT.of h), q⟩
theorem s_lstOf {xs : List V} (h : Seq K H x xs) (q : ∀ l, H l = none → Q (.ref l) (upd H l (.lst xs))) : rLstOf K [x] H Q := by
  obtain ⟨p, rfl, h⟩ := h
  exact ⟨p, xs, rfl, h, q⟩
theorem s_int1 {i : Int} (q : Q (.int i) H) : rInt1 [.int i] H Q := .inl ⟨i, rfl, q⟩
theorem s_max2 {i j : Nat} (q : Q (.int ((max i j : Nat) : Int)) H) : rMx2 [.int (i : Int), .int (j : Int)] H Q := ⟨_, _, rfl, by
  have e : (if (j : Int) > (i : Int) then (j : Int) else (i : Int)) = ((max i j : Nat) : Int) := by
    split <;> omega
  rw [e]
  exact q⟩
theorem s_min2 {i j : Nat} (q : Q (.int ((min i j : Nat) : Int)) H) : rMn2 [.int (i : Int), .int (j : Int)] H Q := ⟨_, _, rfl, by
  have e : (if (j : Int) < (i : Int) then (j : Int) else (i : Int)) = ((min i j : Nat) : Int) := by
    split <;> omega
  rw [e]
  exact q⟩
end
def seqD : PyData → List PyData
  | .tuple ds => ds
  | .list ds => ds
  | _ => []
theorem Hd.seq {K : PySem.W.Frag} {H : Hp} {v : V} {d : PyData} (h : Hd H v d) (e : isSeqD d = true) : ∃ xs, Seq K H v xs ∧ HdL H xs (seqD d) := by
  cases h with
  | lst h1 h2 h3 => exact ⟨_, ⟨_, rfl, .inl (SqL.of h1)⟩, h3⟩
  | tup h1 h3 => exact ⟨_, ⟨_, rfl, .inr (SqT.of h1)⟩, h3⟩
  | _ => cases e
theorem st_eq {N : List Str} {vs : List V} {σ : L2.St} {t : TS} {D : L2.Ends} {H : Hp} (e : L2.start N vs = σ) (h : t D σ H) : t D (L2.start N vs) H := by rw [e]; exact h
section
variable {A B : Prop} {b : Bool} {p : Prop} [Decidable p]
theorem s_itNT (h : A) : if (!false) = true then A else B := iteT h
theorem s_itNF (h : B) : if (!true) = true then A else B := iteF h
theorem s_ite (h1 : b = true → A) (h2 : b = false → B) : if b = true then A else B := by
  cases b with
  | true => exact iteT (h1 rfl)
  | false => exact iteF (h2 rfl)
theorem s_iteN (h1 : b = false → A) (h2 : b = true → B) : if (!b) = true then A else B := by
  cases b with
  | true => exact iteF (h2 rfl)
  | false => exact iteT (h1 rfl)
theorem s_iteD (h1 : p → A) (h2 : ¬ p → B) : if decide p = true then A else B := s_ite (fun e => h1 (of_decide_eq_true e)) (fun e => h2 (of_decide_eq_false e))
theorem s_iteND (h1 : ¬ p → A) (h2 : p → B) : if (!decide p) = true then A else B := s_iteN (fun e => h1 (of_decide_eq_false e)) (fun e => h2 (of_decide_eq_true e))
theorem s_yes (e : b = true) (h : A) : if b = true then A else B := by rw [e]; exact iteT h
theorem s_no (e : b = false) (h : B) : if b = true then A else B := by rw [e]; exact iteF h
theorem s_yesD (e : p) (h : A) : if decide p = true then A else B := s_yes (decide_eq_true e) h
theorem s_noD (e : ¬ p) (h : B) : if decide p = true then A else B := s_no (decide_eq_false e) h
theorem s_yesN (e : b = false) (h : A) : if (!b) = true then A else B := by rw [e]; exact iteT h
theorem s_noN (e : b = true) (h : B) : if (!b) = true then A else B := by rw [e]; exact iteF h
theorem s_yesND (e : ¬ p) (h : A) : if (!decide p) = true then A else B := s_yesN (decide_eq_false e) h
theorem s_noND (e : p) (h : B) : if (!decide p) = true then A else B := s_noN (decide_eq_true e) h
end

end K53
namespace K53
open PySem PySem.Spec PyProof.Rows L2
/-! ### walks over lists, in short -/
section
variable {σ : L2.St} {H : Hp} {Q : VK} {K : PySem.W.Frag} {D : L2.Ends}
/-- a loop's rest, behind its source -/
def ForGoal (J : It) (g : TG) (tb : TS) (D : L2.Ends) (σ : L2.St) (H1 : Hp) : Prop := ∃ W : Nat → Nat → L2.St → Hp → Prop, (∃ m, W 0 m σ H1) ∧ ∀ i m σ H, W i m σ H →
  (J.stop i H ∧ D.nx σ H) ∨ (J.go i H ∧ ∃ N : L2.St → Hp → Prop, (∀ σ' H', N σ' H' → ∃ m', m' < m ∧ W (i + 1) m' σ' H') ∧ ∀ x H', J.yld i H x H' → g x σ H' fun σ2 H2 => tb { D with nx := N, ct := N, bk := D.nx } σ2 H2)
theorem s_for {wi : TI} {g : TG} {tb : TS} (h : wi σ H fun J H1 => ForGoal J g tb D σ H1) : tFor wi g tb D σ H := h
/-- a comprehension's rest, behind its source -/
def LcGoal (J : It) (g : TG) (tt : TT) (te : TE) (vs : List Nat) (σ : L2.St) (H1 : Hp) (Q : VK) : Prop := ∀ D, H1 D = none → ∃ W : Nat → Nat → Hp → Prop, (∃ m, W 0 m (upd H1 D (.lst []))) ∧ ∀ i m H, W i m H →
  (J.stop i H ∧ Q (.ref D) H) ∨ (J.go i H ∧ ∃ Nx : Hp → Prop, (∀ H', Nx H' → ∃ m', m' < m ∧ W (i + 1) m' H') ∧ ∀ x H', J.yld i H x H' → g x (wipe σ vs) H' fun σ2 H2 => wipe σ2 vs = wipe σ vs ∧ tt σ2 H2 fun b H3 =>
    if b = true then te σ2 H3 fun y H4 => ∃ acc, H4 D = some (.lst acc) ∧ acc.length < sizeLine ∧ Nx (upd H4 D (.lst (acc ++ [y]))) else Nx H3)
theorem s_tYes {Q : Bool → Hp → Prop} (q : Q true H) : tYes σ H Q := q
theorem s_lc {wi : TI} {g : TG} {tt : TT} {te : TE} {vs : List Nat} (h : wi σ H fun J H1 => LcGoal J g tt te vs σ H1 Q) : tLc wi g tt te vs σ H Q := h
theorem s_srcL {tl : TE} {R : It → Hp → Prop} (h : tl σ H fun x H1 => ∃ a, x = .ref a ∧ (∃ xs, SqL K H1 a xs) ∧ R (Itl K a) H1) : iList K tl σ H R := h
theorem s_srcT {tl : TE} {R : It → Hp → Prop} (h : tl σ H fun x H1 => ∃ a, x = .ref a ∧ (∃ xs, SqT K H1 a xs) ∧ R (Itt K a) H1) : iTup K tl σ H R := h
theorem s_src1 {ta : TA} {R : It → Hp → Prop} (h : ta σ H fun vs H1 => ∃ j : Int, vs = [.int j] ∧ -(2 ^ 62) ≤ j ∧ j < 2 ^ 62 ∧ R (Itr 0 j.toNat) H1) : iRng1 ta σ H R := h
theorem s_src2 {ta : TA} {R : It → Hp → Prop} (h : ta σ H fun vs H1 => ∃ i j : Int, vs = [.int i, .int j] ∧ (-(2 ^ 62) ≤ i ∧ i < 2 ^ 62 ∧ -(2 ^ 62) ≤ j ∧ j < 2 ^ 62) ∧ R (Itr i (j - i).toNat) H1) : iRng2 ta σ H R := h
theorem s_src3 {ta : TA} {R : It → Hp → Prop} (h : ta σ H fun vs H1 => ∃ (i j c : Int) (n : Nat), vs = [.int i, .int j, .int c] ∧ RgC i j c n ∧ R (Itc i c n) H1) : iRng3 ta σ H R := h
theorem s_srcE {ta : TA} {R : It → Hp → Prop} (h : ta σ H fun vs H1 => ∃ a xs, vs = [.ref a] ∧ SqL K H1 a xs ∧ R (Ite K a) H1) : iEnum K ta σ H R := h
theorem s_iLc {p : Addr} {xs : List V} {g : TG} {tt : TT} {te : TE} {vs : List Nat} (hS : SqL K H p xs) (q : LcGoal (Itl K p) g tt te vs σ H Q) : ∃ a, V.ref p = .ref a ∧ (∃ xs, SqL K H a xs) ∧ LcGoal (Itl K a) g tt te vs σ H Q := ⟨p, rfl, ⟨xs, hS⟩, q⟩
theorem s_iTc {p : Addr} {xs : List V} {g : TG} {tt : TT} {te : TE} {vs : List Nat} (hS : SqT K H p xs) (q : LcGoal (Itt K p) g tt te vs σ H Q) : ∃ a, V.ref p = .ref a ∧ (∃ xs, SqT K H a xs) ∧ LcGoal (Itt K a) g tt te vs σ H Q := ⟨p, rfl, ⟨xs, hS⟩, q⟩
theorem s_i1c {n : Nat} {g : TG} {tt : TT} {te : TE} {vs : List Nat} (h : n ≤ 1000000) (q : LcGoal (Itr 0 n) g tt te vs σ H Q) : ∃ j : Int, [V.int (n : Nat)] = [V.int j] ∧ -(2 ^ 62) ≤ j ∧ j < 2 ^ 62 ∧ LcGoal (Itr 0 j.toNat) g tt te vs σ H Q := ⟨n, rfl, by omega, by omega, by rw [Int.toNat_natCast]; exact q⟩
theorem s_i2c {i n : Nat} {g : TG} {tt : TT} {te : TE} {vs : List Nat} (h : n ≤ 1000000) (h2 : i ≤ 1000000) (q : LcGoal (Itr i (n - i)) g tt te vs σ H Q) : ∃ a b : Int, [V.int (i : Nat), V.int (n : Nat)] = [V.int a, V.int b] ∧ (-(2 ^ 62) ≤ a ∧ a < 2 ^ 62 ∧ -(2 ^ 62) ≤ b ∧ b < 2 ^ 62) ∧ LcGoal (Itr a (b - a).toNat) g tt te vs σ H Q :=
  ⟨i, n, rfl, ⟨by omega, by omega, by omega, by omega⟩, by rw [show ((n : Int) - (i : Int)).toNat = n - i by omega]; exact q⟩
theorem s_iEc {p : Addr} {xs : List V} {g : TG} {tt : TT} {te : TE} {vs : List Nat} (hS : SqL K H p xs) (q : LcGoal (Ite K p) g tt te vs σ H Q) : ∃ a xs, [V.ref p] = [.ref a] ∧ SqL K H a xs ∧ LcGoal (Ite K a) g tt te vs σ H Q := ⟨p, xs, rfl, hS, q⟩
theorem s_iLf {p : Addr} {xs : List V} {g : TG} {tb : TS} (hS : SqL K H p xs) (q : ForGoal (Itl K p) g tb D σ H) : ∃ a, V.ref p = .ref a ∧ (∃ xs, SqL K H a xs) ∧ ForGoal (Itl K a) g tb D σ H := ⟨p, rfl, ⟨xs, hS⟩, q⟩
theorem s_iTf {p : Addr} {xs : List V} {g : TG} {tb : TS} (hS : SqT K H p xs) (q : ForGoal (Itt K p) g tb D σ H) : ∃ a, V.ref p = .ref a ∧ (∃ xs, SqT K H a xs) ∧ ForGoal (Itt K a) g tb D σ H := ⟨p, rfl, ⟨xs, hS⟩, q⟩
theorem s_i1f {n : Nat} {g : TG} {tb : TS} (h : n ≤ 1000000) (q : ForGoal (Itr 0 n) g tb D σ H) : ∃ j : Int, [V.int (n : Nat)] = [V.int j] ∧ -(2 ^ 62) ≤ j ∧ j < 2 ^ 62 ∧ ForGoal (Itr 0 j.toNat) g tb D σ H := ⟨n, rfl, by omega, by omega, by rw [Int.toNat_natCast]; exact q⟩
theorem s_i2f {i n : Nat} {g : TG} {tb : TS} (h : n ≤ 1000000) (h2 : i ≤ 1000000) (q : ForGoal (Itr i (n - i)) g tb D σ H) : ∃ a b : Int, [V.int (i : Nat), V.int (n : Nat)] = [V.int a, V.int b] ∧ (-(2 ^ 62) ≤ a ∧ a < 2 ^ 62 ∧ -(2 ^ 62) ≤ b ∧ b < 2 ^ 62) ∧ ForGoal (Itr a (b - a).toNat) g tb D σ H :=
  ⟨i, n, rfl, ⟨by omega, by omega, by omega, by omega⟩, by rw [show ((n : Int) - (i : Int)).toNat = n - i by omega]; exact q⟩
theorem s_iEf {p : Addr} {xs : List V} {g : TG} {tb : TS} (hS : SqL K H p xs) (q : ForGoal (Ite K p) g tb D σ H) : ∃ a xs, [V.ref p] = [.ref a] ∧ SqL K H a xs ∧ ForGoal (Ite K a) g tb D σ H := ⟨p, xs, rfl, hS, q⟩
end
theorem walk_rangeX {lo : Int} {n : Nat} : Walk (Itr lo n) n (fun _ => True) (YAt ((List.range n).map fun (i : Nat) => V.int (lo + i))) :=
  walk_range.mono (fun _ _ => trivial) fun i H x H' hi _ y => ⟨y.1, by rw [List.getElem?_map, List.getElem?_range hi, y.2]; rfl⟩
section
variable {J : It} {n : Nat} {G : Hp → Prop} {Y : Nat → Hp → V → Hp → Prop} {g : TG} {tt : TT} {te : TE} {vs : List Nat} {σ : L2.St} {H1 : Hp} {Q : VK}
def LcP (D : Addr) (Acc : Nat → List V → Hp → Prop) (i : Nat) (H : Hp) : Prop := ∃ acc, H D = some (.lst acc) ∧ acc.length ≤ i ∧ Acc i acc H
/-- the widest: whatever stands beside the new list is told by Acc -/
theorem lc_g (w : Walk J n G Y) (Acc : Addr → Nat → List V → Hp → Prop) (h0 : ∀ D, H1 D = none → Acc D 0 [] (upd H1 D (.lst []))) (hG : ∀ D i acc H, Acc D i acc H → G H)
    (hs : ∀ D i x acc H H', H1 D = none → i < n → H D = some (.lst acc) → acc.length ≤ i → Acc D i acc H → Y i H x H' → g x (wipe σ vs) H' fun σ2 H2 => wipe σ2 vs = wipe σ vs ∧ tt σ2 H2 fun b H3 =>
      if b = true then te σ2 H3 fun y H4 => ∃ acc, H4 D = some (.lst acc) ∧ acc.length < sizeLine ∧ LcP D (Acc D) (i + 1) (upd H4 D (.lst (acc ++ [y]))) else LcP D (Acc D) (i + 1) H3)
    (hd : ∀ D acc H, H1 D = none → H D = some (.lst acc) → acc.length ≤ n → Acc D n acc H → Q (.ref D) H) : LcGoal J g tt te vs σ H1 Q := fun D hD =>
  lc_it w (LcP D (Acc D)) ⟨[], upd_same, Nat.le_refl _, h0 D hD⟩ (fun i H _ ⟨acc, _, _, h⟩ => hG D i acc H h)
    (fun i x H H' hi ⟨acc, e, hl, h⟩ y => hs D i x acc H H' hD hi e hl h y)
    (fun H ⟨acc, e, hl, h⟩ => hd D acc H hD e hl h)
theorem lc_put {D : Addr} {Acc : Nat → List V → Hp → Prop} {i : Nat} {acc : List V} {y : V} {H4 : Hp} (e : H4 D = some (.lst acc)) (hl : acc.length ≤ i) (hi : i < 100000) (a : Acc (i + 1) (acc ++ [y]) (upd H4 D (.lst (acc ++ [y])))) :
    ∃ acc, H4 D = some (.lst acc) ∧ acc.length < sizeLine ∧ LcP D Acc (i + 1) (upd H4 D (.lst (acc ++ [y]))) :=
  ⟨acc, e, sz16l (by omega), acc ++ [y], upd_same, by rw [List.length_append]; show acc.length + 1 ≤ i + 1; omega, a⟩
theorem lc_skip {D : Addr} {Acc : Nat → List V → Hp → Prop} {i : Nat} {acc : List V} {H3 : Hp} (e : H3 D = some (.lst acc)) (hl : acc.length ≤ i) (a : Acc (i + 1) acc H3) : LcP D Acc (i + 1) H3 := ⟨acc, e, by omega, a⟩
/-- a turn of a comprehension whose elements are told by f -/
structure LcCx {α : Type} (as : List α) (f : α → Option V) (H1 : Hp) (D : Addr) (i : Nat) (a : α) (H : Hp) : Prop where
  hD : H1 D = none
  ai : as[i]? = some a
  sm : Same H1 H
  hd : H D = some (.lst ((as.take i).filterMap f))
  hz : as.length ≤ 100000
def FAcc {α : Type} (as : List α) (f : α → Option V) (H1 : Hp) : Nat → List V → Hp → Prop := fun i acc H => acc = (as.take i).filterMap f ∧ Same H1 H
section
variable {α : Type} {as : List α} {f : α → Option V} {D : Addr} {i : Nat} {a : α} {H H3 : Hp} {y : V}
theorem fm_len {as : List α} {f : α → Option V} {i : Nat} : ((as.take i).filterMap f).length ≤ i := Nat.le_trans (List.length_filterMap_le _ _) (by rw [List.length_take]; omega)
theorem fm_succ (h : as[i]? = some a) : (as.take (i + 1)).filterMap f = (as.take i).filterMap f ++ (f a).toList := by
  rw [List.take_add_one, h, List.filterMap_append]
  show _ ++ [a].filterMap f = _
  cases e : f a with
  | none => rw [List.filterMap_cons_none e]; rfl
  | some b => rw [List.filterMap_cons_some e]; rfl
theorem lc_yes (c : LcCx as f H1 D i a H) (s : Same H H3) (e : f a = some y) : ∃ acc, H3 D = some (.lst acc) ∧ acc.length < sizeLine ∧ LcP D (FAcc as f H1) (i + 1) (upd H3 D (.lst (acc ++ [y]))) := by
  have hi : i < as.length := by
    have := List.getElem?_eq_some_iff.mp c.ai
    exact this.1
  refine lc_put (s D _ c.hd) fm_len (by have := c.hz; omega) ⟨?_, (c.sm.trans s).mut c.hD⟩
  rw [fm_succ c.ai, e]
  rfl
theorem lc_no (c : LcCx as f H1 D i a H) (s : Same H H3) (e : f a = none) : LcP D (FAcc as f H1) (i + 1) H3 := by
  refine lc_skip (s D _ c.hd) fm_len ⟨?_, c.sm.trans s⟩
  rw [fm_succ c.ai, e]
  show _ = _ ++ []
  rw [List.append_nil]
theorem lc_f {u : α → V} (as : List α) (f : α → Option V) (w : Walk J n G (YAt (as.map u))) (hn : n = as.length) (hz : as.length ≤ 100000) (hG : ∀ H, Same H1 H → G H)
    (hs : ∀ D i a H, LcCx as f H1 D i a H → g (u a) (wipe σ vs) H fun σ2 H2 => wipe σ2 vs = wipe σ vs ∧ tt σ2 H2 fun b H3 =>
      if b = true then te σ2 H3 fun y H4 => ∃ acc, H4 D = some (.lst acc) ∧ acc.length < sizeLine ∧ LcP D (FAcc as f H1) (i + 1) (upd H4 D (.lst (acc ++ [y]))) else LcP D (FAcc as f H1) (i + 1) H3)
    (hd : ∀ D H, H1 D = none → Same H1 H → H D = some (.lst (as.filterMap f)) → Q (.ref D) H) : LcGoal J g tt te vs σ H1 Q := by
  refine lc_g w (fun _ => FAcc as f H1) (fun D hD => ⟨rfl, L2.Same.up hD⟩) (fun D i acc H h => hG H h.2) (fun D i x acc H H' hD hi e hl h y => ?_) (fun D acc H hD e hl h => ?_)
  · obtain ⟨rfl, hx⟩ := y
    rw [List.getElem?_map] at hx
    have hi2 : i < as.length := by omega
    rw [List.getElem?_eq_getElem hi2] at hx
    have hx := Option.some.inj hx
    rw [← hx]
    have e' := e
    rw [h.1] at e'
    exact hs D i _ H' ⟨hD, List.getElem?_eq_getElem hi2, h.2, e', hz⟩
  · have e' := e
    rw [h.1, hn, List.take_length] at e'
    exact hd D H hD h.2 e'
end
end
theorem fm_map {α β : Type} (g : α → β) (as : List α) : as.filterMap (fun a => some (g a)) = as.map g := by
  rw [show (fun a => some (g a)) = some ∘ g from rfl, List.filterMap_eq_map]
theorem fm_if {α β : Type} (p : α → Bool) (g : α → β) : ∀ as : List α, as.filterMap (fun a => if p a = true then some (g a) else none) = (as.filter p).map g
  | [] => rfl
  | a :: as => by
    cases e : p a with
    | true => rw [List.filterMap_cons_some (b := g a) (by rw [if_pos e]), List.filter_cons_of_pos e, List.map_cons, fm_if p g as]
    | false => rw [List.filterMap_cons_none (by rw [if_neg (by rw [e]; decide)]), List.filter_cons_of_neg (by rw [e]; decide), fm_if p g as]
theorem ivs_map (ns : List Nat) : ivs ns = ns.map fun (n : Nat) => V.int (n : Int) := rfl
theorem range_iv (n : Nat) : ((List.range n).map fun (i : Nat) => V.int ((0 : Int) + i)) = ivs (List.range n) := by
  unfold ivs
  refine List.map_congr_left fun i _ => ?_
  rw [Int.zero_add]
theorem walk_r {n : Nat} : Walk (Itr 0 n) n (fun _ => True) (YAt (ivs (List.range n))) := by rw [← range_iv]; exact walk_rangeX
/-! ### what is a list or a tuple, walked -/
def iSq (K : PySem.W.Frag) (tl : TE) : TI := fun σ H R => tl σ H fun x H1 => ∃ a xs, x = .ref a ∧ ((SqL K H1 a xs ∧ R (Itl K a) H1) ∨ (SqT K H1 a xs ∧ R (Itt K a) H1))
theorem pi_seqK {X : Cx} {K : PySem.W.Frag} {tg l : Expr} {tl : TE} (hK : X.K = K) (hl : PE X l tl) : PI X tg l (iSq K tl) := by
  subst hK
  refine ⟨fun pins s σ H R I h => ?_⟩
  refine thn (hl.run pins s σ H _ I h) fun v s1 ⟨x, H1, I1, r1, q1⟩ => ?_
  obtain ⟨a, xs, e, q⟩ := q1
  subst e
  cases r1
  have fp : ∀ b ∈ [s1.heap.objs.size], FpOk X pins H1 b := fun b hb => by
    have e : b = s1.heap.objs.size := by simpa using hb
    subst e
    exact I1.fpOk (Nat.le_refl _) (I1.hok.fresh (Nat.le_refl _))
  rcases q with ⟨hq, q⟩ | ⟨hq, q⟩
  · obtain ⟨its, rv, p, hz⟩ := I1.list hq
    refine wpAny_pyIter_list p.isList ?_
    exact ⟨s1.heap.objs.size, [s1.heap.objs.size], _, _, H1, rfl, I1.kept (t' := s1.toks) fun b o e => Heap.get?_push_of_some _ e, turn_list a _, ⟨_, Heap.get?_push_size _ rfl, rfl, rfl⟩, fp, q⟩
  · obtain ⟨its, rv, p, hz⟩ := I1.tuple hq
    refine wpAny_pyIter_tuple (show s1.heap.IsTuple a its.toArray from p) ?_
    exact ⟨s1.heap.objs.size, [s1.heap.objs.size], _, _, H1, rfl, I1.kept (t' := s1.toks) fun b o e => Heap.get?_push_of_some _ e, turn_tuple a _, ⟨_, Heap.get?_push_size _ rfl, rfl, rfl⟩, fp, q⟩
section
variable {σ : L2.St} {H : Hp} {Q : VK} {K : PySem.W.Frag} {D : L2.Ends} {x : V} {xs : List V}
theorem s_srcS {tl : TE} {R : It → Hp → Prop} (h : tl σ H fun x H1 => ∃ a xs, x = .ref a ∧ ((SqL K H1 a xs ∧ R (Itl K a) H1) ∨ (SqT K H1 a xs ∧ R (Itt K a) H1))) : iSq K tl σ H R := h
theorem sqL_to {H H' : Hp} {a : Addr} {xs : List V} (s : Same H H') (h : SqL K H a xs) : SqL K H' a xs := h.imp (fun h => h.imp (fun h => s _ _ h) (fun ⟨o, h⟩ => ⟨o, s _ _ h⟩)) id
theorem sqT_to {H H' : Hp} {a : Addr} {xs : List V} (s : Same H H') (h : SqT K H a xs) : SqT K H' a xs := h.imp (fun h => h.imp (fun h => s _ _ h) (fun ⟨o, h⟩ => ⟨o, s _ _ h⟩)) id
theorem Seq.to {H H' : Hp} (s : Same H H') (h : Seq K H x xs) : Seq K H' x xs := by
  obtain ⟨p, e, h | h⟩ := h
  · exact ⟨p, e, .inl (sqL_to s h)⟩
  · exact ⟨p, e, .inr (sqT_to s h)⟩
theorem s_iSc {g : TG} {tt : TT} {te : TE} {vs : List Nat} (hS : Seq K H x xs) (q : ∀ (J : It) (G : Hp → Prop), Walk J xs.length G (YAt xs) → (∀ H', Same H H' → G H') → LcGoal J g tt te vs σ H Q) :
    ∃ a xs, x = .ref a ∧ ((SqL K H a xs ∧ LcGoal (Itl K a) g tt te vs σ H Q) ∨ (SqT K H a xs ∧ LcGoal (Itt K a) g tt te vs σ H Q)) := by
  obtain ⟨p, e, h | h⟩ := hS
  · exact ⟨p, xs, e, .inl ⟨h, q _ _ walk_list fun H' s => sqL_to s h⟩⟩
  · exact ⟨p, xs, e, .inr ⟨h, q _ _ walk_tup fun H' s => sqT_to s h⟩⟩
theorem s_iSf {g : TG} {tb : TS} (hS : Seq K H x xs) (q : ∀ (J : It) (G : Hp → Prop), Walk J xs.length G (YAt xs) → (∀ H', Same H H' → G H') → ForGoal J g tb D σ H) :
    ∃ a xs, x = .ref a ∧ ((SqL K H a xs ∧ ForGoal (Itl K a) g tb D σ H) ∨ (SqT K H a xs ∧ ForGoal (Itt K a) g tb D σ H)) := by
  obtain ⟨p, e, h | h⟩ := hS
  · exact ⟨p, xs, e, .inl ⟨h, q _ _ walk_list fun H' s => sqL_to s h⟩⟩
  · exact ⟨p, xs, e, .inr ⟨h, q _ _ walk_tup fun H' s => sqT_to s h⟩⟩
end
theorem HdL.zip {H : Hp} : ∀ {ds : List PyData} {xs : List V}, HdL H xs ds → ∃ as : List (V × PyData), xs = as.map (·.1) ∧ ds = as.map (·.2) ∧ ∀ p ∈ as, Hd H p.1 p.2
  | [], _, h => by
    cases h
    exact ⟨[], rfl, rfl, fun p hp => by cases hp⟩
  | d :: ds, _, h => by
    cases h with
    | cons h1 h2 =>
      obtain ⟨as, e1, e2, e3⟩ := HdL.zip h2
      refine ⟨(_, d) :: as, by rw [e1]; rfl, by rw [e2]; rfl, fun p hp => ?_⟩
      rcases List.mem_cons.mp hp with rfl | hp
      · exact h1
      · exact e3 p hp

end K53
namespace K53
open PySem PySem.Spec PyProof.Rows L2
/-! ### whole numbers that are no less than none -/
section
variable {H : Hp} {Q : VK} {K : PySem.W.Frag} {a b : Nat}
theorem bl_iff {p q : Prop} [Decidable p] [Decidable q] (h : p ↔ q) : decide p = decide q := by
  rw [Bool.eq_iff_iff, decide_eq_true_iff, decide_eq_true_iff]
  exact h
theorem s_addN (q : Q (.int ((a + b : Nat) : Int)) H) : rI0 (fun i j => .int (i + j)) (.int (a : Int)) (.int (b : Int)) H Q := ⟨_, _, rfl, rfl, q⟩
theorem s_add1 (q : Q (.int ((a + 1 : Nat) : Int)) H) : rI0 (fun i j => .int (i + j)) (.int (a : Int)) (.int 1) H Q := ⟨_, _, rfl, rfl, q⟩
theorem s_subN (h : b ≤ a) (q : Q (.int ((a - b : Nat) : Int)) H) : rI0 (fun i j => .int (i - j)) (.int (a : Int)) (.int (b : Int)) H Q := ⟨_, _, rfl, rfl, by dsimp only; rw [show (a : Int) - (b : Int) = ((a - b : Nat) : Int) by omega]; exact q⟩
theorem s_sub1 (h : 1 ≤ a) (q : Q (.int ((a - 1 : Nat) : Int)) H) : rI0 (fun i j => .int (i - j)) (.int (a : Int)) (.int 1) H Q := ⟨_, _, rfl, rfl, by dsimp only; rw [show (a : Int) - 1 = ((a - 1 : Nat) : Int) by omega]; exact q⟩
theorem s_mulN (h : a < 1000000000000000000) (q : Q (.int ((a * b : Nat) : Int)) H) : rI CMul (fun i j => .int (i * j)) (.int (a : Int)) (.int (b : Int)) H Q := ⟨_, _, rfl, rfl, .inl ⟨by omega, by omega⟩, q⟩
theorem s_divN (h : 0 < b) (h2 : b < 1000000000000) (q : Q (.int ((a / b : Nat) : Int)) H) : rI CDivW (fun i j => .int (i / j)) (.int (a : Int)) (.int (b : Int)) H Q :=
  ⟨_, _, rfl, rfl, wide_div (b := 40) (by omega) (by rw [Int.natAbs_natCast]; omega) (by decide) (by decide), q⟩
theorem s_modN (h : 0 < b) (q : Q (.int ((a % b : Nat) : Int)) H) : rI (fun _ j => 0 < j) (fun i j => .int (i % j)) (.int (a : Int)) (.int (b : Int)) H Q := ⟨_, _, rfl, rfl, by omega, q⟩
theorem s_ltN (q : Q (.bl (decide (a < b))) H) : rI0 (fun i j => .bl (decide (i < j))) (.int (a : Int)) (.int (b : Int)) H Q := ⟨_, _, rfl, rfl, by dsimp only; rw [bl_iff (show (a : Int) < (b : Int) ↔ a < b by omega)]; exact q⟩
theorem s_leN (q : Q (.bl (decide (a ≤ b))) H) : rI0 (fun i j => .bl (decide (i ≤ j))) (.int (a : Int)) (.int (b : Int)) H Q := ⟨_, _, rfl, rfl, by dsimp only; rw [bl_iff (show (a : Int) ≤ (b : Int) ↔ a ≤ b by omega)]; exact q⟩
theorem s_gtN (q : Q (.bl (decide (b < a))) H) : rI0 (fun i j => .bl (decide (j < i))) (.int (a : Int)) (.int (b : Int)) H Q := ⟨_, _, rfl, rfl, by dsimp only; rw [bl_iff (show (b : Int) < (a : Int) ↔ b < a by omega)]; exact q⟩
theorem s_geN (q : Q (.bl (decide (b ≤ a))) H) : rI0 (fun i j => .bl (decide (j ≤ i))) (.int (a : Int)) (.int (b : Int)) H Q := ⟨_, _, rfl, rfl, by dsimp only; rw [bl_iff (show (b : Int) ≤ (a : Int) ↔ b ≤ a by omega)]; exact q⟩
theorem s_eqN (q : Q (.bl (decide (a = b))) H) : rEq (.int (a : Int)) (.int (b : Int)) H Q := s_eqi (by rw [bl_iff (show (a : Int) = (b : Int) ↔ a = b by omega)]; exact q)
theorem s_neN (q : Q (.bl (!decide (a = b))) H) : rNe (.int (a : Int)) (.int (b : Int)) H Q := s_nei (by rw [bl_iff (show (a : Int) = (b : Int) ↔ a = b by omega)]; exact q)
theorem s_eq0 (q : Q (.bl (decide (a = 0))) H) : rEq (.int (a : Int)) (.int 0) H Q := s_eqi (by rw [bl_iff (show (a : Int) = 0 ↔ a = 0 by omega)]; exact q)
theorem s_gt0 (q : Q (.bl (decide (0 < a))) H) : rI0 (fun i j => .bl (decide (j < i))) (.int (a : Int)) (.int 0) H Q := ⟨_, _, rfl, rfl, by dsimp only; rw [bl_iff (show 0 < (a : Int) ↔ 0 < a by omega)]; exact q⟩
theorem iv_flat : ∀ ns : List Nat, (ivs ns).all flatV = true
  | [] => rfl
  | n :: ns => by
    show (flatV (.int (n : Int)) && (ivs ns).all flatV) = true
    rw [iv_flat ns]
    rfl
theorem iv_in {n : Nat} : ∀ ns : List Nat, inV (.int (n : Int)) (ivs ns) = decide (n ∈ ns)
  | [] => rfl
  | m :: ns => by
    show (eqV (.int (m : Int)) (.int (n : Int)) || inV (.int (n : Int)) (ivs ns)) = _
    rw [iv_in ns, show eqV (.int (m : Int)) (.int (n : Int)) = decide (n = m) by
      show decide ((m : Int) = (n : Int)) = _
      exact bl_iff (by omega)]
    rw [← Bool.decide_or]
    exact bl_iff List.mem_cons.symm
theorem s_inN {p : Addr} {ns : List Nat} {n : Nat} (h : H p = some (.lst (ivs ns)) ∨ H p = some (.tup (ivs ns))) (q : Q (.bl (decide (n ∈ ns))) H) : rIn K false (.int (n : Int)) (.ref p) H Q :=
  ⟨p, ivs ns, rfl, h.imp SqL.of SqT.of, rfl, iv_flat ns, by rw [iv_in]; exact q⟩
theorem s_ninN {p : Addr} {ns : List Nat} {n : Nat} (h : H p = some (.lst (ivs ns)) ∨ H p = some (.tup (ivs ns))) (q : Q (.bl (!decide (n ∈ ns))) H) : rIn K true (.int (n : Int)) (.ref p) H Q :=
  ⟨p, ivs ns, rfl, h.imp SqL.of SqT.of, rfl, iv_flat ns, by rw [iv_in]; exact q⟩
end

end K53
namespace K53
open PySem PySem.Spec PyProof.Rows L2
/-! ### rules whose readings name the facts K by themselves -/
section
variable {X : Cx} {K : PySem.W.Frag}
theorem pe_fldK {e : Expr} {f : Str} {ta : TE} {pos : Pos} (hK : X.K = K) (he : PE X e ta) (hb : attributeBase e f X.env (eval e X.env) = eval e X.env) : PE X (.Attribute e f pos) (tFld K ta f) := by subst hK; exact pe_fld he hb
theorem ix_listK (hK : X.K = K) : IxR X (rIxL K) := by subst hK; exact ix_list
theorem ix_tupK (hK : X.K = K) : IxR X (rIxT K) := by subst hK; exact ix_tup
theorem ix_seqK (hK : X.K = K) : IxR X (rIx K) := by subst hK; exact ix_seq
theorem op_inK (hK : X.K = K) : OpR X (compareOp .In) (rIn K false) := by subst hK; exact op_in_seq
theorem op_notInK (hK : X.K = K) : OpR X (compareOp .NotIn) (rIn K true) := by subst hK; exact op_notIn_seq
theorem op_inDK (hK : X.K = K) (hu : X.A.units + 65 < cLine) : OpR X (compareOp .In) (rInD K) := by subst hK; exact op_inD hu
theorem op_eqDK (hK : X.K = K) (hu : X.A.units + 64 < cLine) : OpR X (compareOp .Eq) (rEqD K) := by subst hK; exact op_eqD hu
theorem op_neDK (hK : X.K = K) (hu : X.A.units + 64 < cLine) : OpR X (compareOp .NotEq) (rNeD K) := by subst hK; exact op_neD hu
theorem op_catAK (hK : X.K = K) : OpR X (binaryOp .Add) (rCatA K) := by subst hK; exact op_catA
theorem sl_listK (hK : X.K = K) : SlR X (rSlL K) := by subst hK; exact sl_list
theorem sl_tupAK (hK : X.K = K) : SlR X (rSlA K) := by subst hK; exact sl_tupA
theorem call_lenK (hK : X.K = K) : CallR X (.builtin "len") (rLen K) := by subst hK; exact call_len_seq
theorem call_list_ofK (hK : X.K = K) : CallR X (.type "list") (rLstOf K) := by subst hK; exact call_list_of
theorem call_int1K : CallR X (.type "int") rInt1 := call_int1
theorem call_absK : CallR X (.builtin "abs") rAbs := call_abs
theorem call_max2K (hc : X.calm = true) : CallR X (.builtin "max") rMx2 := call_max2 hc
theorem call_min2K (hc : X.calm = true) : CallR X (.builtin "min") rMn2 := call_min2 hc
theorem call_isiK1 (hK : X.K = K) : CallR X (.builtin "isinstance") (rIsi K) := by subst hK; exact call_isi
theorem call_isiTK (hK : X.K = K) : CallR X (.builtin "isinstance") (rIsiT K) := by subst hK; exact call_isiT
theorem cr_sortedIK (hK : X.K = K) : CallR X (.builtin "sorted") (rSortedI K) := by subst hK; exact cr_sortedI
theorem cr_anyK (hK : X.K = K) (hc : X.calm = true) : CallR X (.builtin "any") (rAny K) := by subst hK; exact cr_any hc
theorem cr_allK (hK : X.K = K) (hc : X.calm = true) : CallR X (.builtin "all") (rAll K) := by subst hK; exact cr_all hc
theorem mt_indexK (hK : X.K = K) : MtR X "list.index" (rIndex K) := by subst hK; exact mt_index
theorem mt_indexDK (hK : X.K = K) (hu : X.A.units + 65 < cLine) : MtR X "list.index" (rIndexD K) := by subst hK; exact mt_indexD hu
theorem pi_listK {tg l : Expr} {tl : TE} (hK : X.K = K) (hl : PE X l tl) : PI X tg l (iList K tl) := by subst hK; exact pi_list hl
theorem pi_tupK {tg l : Expr} {tl : TE} (hK : X.K = K) (hl : PE X l tl) : PI X tg l (iTup K tl) := by subst hK; exact pi_tup hl
theorem pi_enumK {e : Expr} {ta : TA} {p pos tpos : Pos} {elts : List Expr} {kk : Nat} (hK : X.K = K) (hg : Gl X "enumerate") (hm : X.mg "enumerate" = none) (ha : PA X [e] ta) (hs : starEach [e] X.env = [(false, eval e X.env)] := by rfl) :
    PI X (.Tuple elts kk tpos) (.Call (.Name "enumerate" p) [e] [] pos) (iEnum K ta) := by subst hK; exact pi_enum hg hm ha hs
theorem pe_tupleOfK {a : Expr} {ta : TE} {p pos : Pos} (hK : X.K = K) (hg : Gl X "tuple") (hm : X.mg "tuple" = none) (ha : PE X a ta) (na : starEach [a] X.env = (false, eval a X.env) :: starEach [] X.env := by rfl) :
    PE X (.Call (.Name "tuple" p) [a] [] pos) (tThen ta (kTup K)) := by subst hK; exact pe_tupleOf hg hm ha na
theorem pg_tupK {pos : Pos} {es : List Expr} {k : Nat} {t : TGs} {n : Nat} (hK : X.K = K) (hc : X.calm = true) (h : PGs X es t) (hn : (assignEach es X.env).length = n := by rfl) (hst : (assignEach es X.env).findIdx? (·.1) = none := by rfl) : PG X (.Tuple es k pos) (gTup K n t) := by subst hK; exact pg_tup hc h hn hst
theorem pe_bmK {T : String} {name : Str} {id : String} {r : V → List V → Hp → VK → Prop} {o e : Expr} {es : List Expr} {to : TE} {t : TA} {apos cpos : Pos} (hK : X.K = K) (pa : PlainAttrs T) (slot : Slot T name id) (hty : typeOf (.builtin id) = pure (.type "method_descriptor")) (hm : MtR X id r) (ho : PE X o to) (ha : PA X (e :: es) t)
    (hbase : attributeBase o name X.env (eval o X.env) = eval o X.env := by rfl)
    (hfew : ((backTo cpos (starEach (e :: es) X.env)).all (fun x => !x.1) && (backToKw cpos (keywordEach [] X.env)).all (fun x => x.1.isSome) && decide ((e :: es).length + ([] : List Keyword).length + (if ([] : List Keyword).isEmpty then 0 else 1) < 30)) = true := by rfl)
    (hline : (apos.endLine == cpos.line) = true := by rfl) (hs : starEach (e :: es) X.env = (false, eval e X.env) :: starEach es X.env := by rfl) (hplain : (backTo cpos (starEach es X.env)).any (·.1) = false := by rfl) :
    PE X (.Call (.Attribute o name apos) (e :: es) [] cpos) (tBM K T r to t) := by subst hK; exact pe_bm pa slot hty hm ho ha hbase hfew hline hs hplain
end

end K53
namespace K53
open PySem PySem.Spec PyProof.Rows L2
/-! ### loops told by a list; targets; plain data by == -/
section
variable {J : It} {n : Nat} {G : Hp → Prop} {g : TG} {tb : TS} {D : L2.Ends} {σ : L2.St} {H : Hp}
theorem for_f {α : Type} {u : α → V} (as : List α) (w : Walk J n G (YAt (as.map u))) (hn : n = as.length) (Pv : Nat → L2.St → Hp → Prop) (h0 : Pv 0 σ H) (hG : ∀ i σ H, Pv i σ H → G H)
    (hs : ∀ i a σ H, as[i]? = some a → Pv i σ H → g (u a) σ H fun σ2 H2 => tb ⟨Pv (i + 1), D.rt, D.nx, Pv (i + 1)⟩ σ2 H2) (hd : ∀ σ H, Pv as.length σ H → D.nx σ H) : ForGoal J g tb D σ H := by
  subst hn
  refine for_it w Pv h0 (fun i σ H _ h => hG i σ H h) (fun i x σ H H' hi h y => ?_) hd
  obtain ⟨rfl, hx⟩ := y
  rw [List.getElem?_map, List.getElem?_eq_getElem hi] at hx
  have hx := Option.some.inj hx
  rw [← hx]
  exact hs i _ σ H' (List.getElem?_eq_getElem hi) h
/-- over enumerate -/
theorem for_e {K : PySem.W.Frag} {a : Addr} {xs : List V} (Pv : Nat → L2.St → Hp → Prop) (h0 : Pv 0 σ H) (hG : ∀ i σ H, Pv i σ H → SqL K H a xs)
    (hs : ∀ i x T σ H, xs[i]? = some x → Pv i σ H → H T = none → g (.ref T) σ (upd H T (.tup [.int (i : Nat), x])) fun σ2 H2 => tb ⟨Pv (i + 1), D.rt, D.nx, Pv (i + 1)⟩ σ2 H2) (hd : ∀ σ H, Pv xs.length σ H → D.nx σ H) : ForGoal (Ite K a) g tb D σ H := by
  refine for_it (walk_enum (xs := xs)) Pv h0 (fun i σ H _ h => hG i σ H h) (fun i x σ H H' hi h y => ?_) hd
  obtain ⟨T, x', y', rfl, h2, rfl, h4, h5⟩ := y
  have h4 := Option.some.inj h4
  subst h4
  exact hs i y' T σ H h5 h h2
end
section
variable {σ : L2.St} {H : Hp} {Q : L2.St → Hp → Prop} {K : PySem.W.Frag} {x y z v : V} {p : Addr} {xs : List V}
theorem s_gt2 {t : TGs} (h : SqT K H p [x, y]) (q : t [x, y] σ H Q) : gTup K 2 t (.ref p) σ H Q := ⟨p, _, rfl, h, rfl, q⟩
theorem s_gt3 {t : TGs} (h : SqT K H p [x, y, z]) (q : t [x, y, z] σ H Q) : gTup K 3 t (.ref p) σ H Q := ⟨p, _, rfl, h, rfl, q⟩
theorem s_gc {t : TG} {u : TGs} (q : t v σ H fun σ' H' => u xs σ' H' Q) : gCons t u (v :: xs) σ H Q := ⟨v, xs, rfl, q⟩
theorem s_gn (q : Q σ H) : gNil [] σ H Q := ⟨rfl, q⟩
theorem s_then {ta : TE} {k : V → Hp → VK → Prop} {Q : VK} (h : ta σ H fun x H1 => k x H1 Q) : tThen ta k σ H Q := h
theorem s_kTup {Q : VK} (h : Seq K H x xs) (q : ∀ r H', Same H H' → H' r = some (.tup xs) → Q (.ref r) H') (hp : ∀ p, SqT K H p xs → H p = some (.tup xs)) : kTup K x H Q := by
  obtain ⟨p, rfl, h | h⟩ := h
  · exact .inl ⟨p, xs, rfl, h, fun q' hq => q q' _ (L2.Same.up hq) upd_same⟩
  · exact .inr ⟨p, xs, rfl, h, q p H (L2.Same.refl H) (hp p h)⟩
theorem s_kTupL {Q : VK} (h : H p = some (.lst xs)) (q : ∀ r, H r = none → Q (.ref r) (upd H r (.tup xs))) : kTup K (.ref p) H Q := .inl ⟨p, xs, rfl, SqL.of h, q⟩
theorem s_kTupT {Q : VK} (h : H p = some (.tup xs)) (q : Q (.ref p) H) : kTup K (.ref p) H Q := .inr ⟨p, xs, rfl, SqT.of h, q⟩
end
/-! plain data: no truth values, no dicts, not deep -/
mutual
def pl : Nat → PyData → Bool
  | _, .none => true
  | _, .bool _ => false
  | _, .int _ => true
  | _, .str x => x.cps.all (· < 0x110000)
  | n + 1, .list ds => plA n ds
  | n + 1, .tuple ds => plA n ds
  | 0, .list _ => false
  | 0, .tuple _ => false
  | _, .dict _ => false
def plA : Nat → List PyData → Bool
  | _, [] => true
  | n, d :: ds => pl n d && plA n ds
end
theorem plA_all {n : Nat} : ∀ {ds : List PyData}, (∀ d ∈ ds, pl n d = true) → plA n ds = true
  | [], _ => by unfold plA; rfl
  | d :: ds, h => by
    unfold plA
    rw [h d (List.mem_cons_self ..), plA_all fun e he => h e (List.mem_cons_of_mem _ he)]
    rfl
theorem plA_mem {n : Nat} : ∀ {ds : List PyData}, plA n ds = true → ∀ d ∈ ds, pl n d = true
  | [], _, _, h => by cases h
  | d :: ds, h, e, he => by
    unfold plA at h
    obtain ⟨h1, h2⟩ := Bool.and_eq_true_iff.mp h
    rcases List.mem_cons.mp he with rfl | he
    · exact h1
    · exact plA_mem h2 e he
mutual
theorem pl_lay : ∀ (n : Nat) (d : PyData), pl n d = true → d.canLay0 = true ∧ d.depth ≤ n
  | n, .none, _ => ⟨rfl, Nat.zero_le _⟩
  | n, .bool _, h => by unfold pl at h; cases h
  | n, .int _, _ => ⟨rfl, Nat.zero_le _⟩
  | n, .str x, h => by unfold pl at h; exact ⟨h, Nat.zero_le _⟩
  | 0, .list ds, h => by unfold pl at h; cases h
  | 0, .tuple ds, h => by unfold pl at h; cases h
  | n + 1, .list ds, h => by
    unfold pl at h
    have q := plA_lay n ds h
    refine ⟨by rw [PyData.canLay0]; exact q.1, ?_⟩
    rw [PyData.depth]
    omega
  | n + 1, .tuple ds, h => by
    unfold pl at h
    have q := plA_lay n ds h
    refine ⟨by rw [PyData.canLay0]; exact q.1, ?_⟩
    rw [PyData.depth]
    omega
  | n, .dict _, h => by unfold pl at h; cases h
theorem plA_lay : ∀ (n : Nat) (ds : List PyData), plA n ds = true → PyData.canLayAll0 ds = true ∧ PyData.depthAll ds ≤ n
  | _, [], _ => ⟨by rw [PyData.canLayAll0], by rw [PyData.depthAll]; exact Nat.zero_le _⟩
  | n, d :: ds, h => by
    unfold plA at h
    obtain ⟨h1, h2⟩ := Bool.and_eq_true_iff.mp h
    have q1 := pl_lay n d h1
    have q2 := plA_lay n ds h2
    refine ⟨by rw [PyData.canLayAll0, q1.1, q2.1]; rfl, ?_⟩
    rw [PyData.depthAll]
    exact Nat.max_le.mpr ⟨q1.2, q2.2⟩
end
theorem pl_shaped {n : Nat} {d : PyData} (h : pl n d = true) (hn : n ≤ 64) : SeqAt.shaped d = true := by
  unfold SeqAt.shaped
  rw [(pl_lay n d h).1, decide_eq_true (Nat.le_trans (pl_lay n d h).2 hn)]
  rfl
mutual
theorem pl_eqv : ∀ (n : Nat) (d e : PyData), pl n d = true → pl n e = true → (PyData.eqv d e = true ↔ d = e)
  | n, .none, .none, _, _ => by simp [PyData.eqv]
  | n, .none, .int _, _, _ => by simp [PyData.eqv]
  | n, .none, .str _, _, _ => by simp [PyData.eqv]
  | n, .none, .list _, _, _ => by simp [PyData.eqv]
  | n, .none, .tuple _, _, _ => by simp [PyData.eqv]
  | n, .int _, .none, _, _ => by simp [PyData.eqv]
  | n, .int i, .int j, _, _ => by simp [PyData.eqv]
  | n, .int _, .str _, _, _ => by simp [PyData.eqv]
  | n, .int _, .list _, _, _ => by simp [PyData.eqv]
  | n, .int _, .tuple _, _, _ => by simp [PyData.eqv]
  | n, .str _, .none, _, _ => by simp [PyData.eqv]
  | n, .str _, .int _, _, _ => by simp [PyData.eqv]
  | n, .str x, .str y, _, _ => by simp [PyData.eqv]
  | n, .str _, .list _, _, _ => by simp [PyData.eqv]
  | n, .str _, .tuple _, _, _ => by simp [PyData.eqv]
  | n, .list _, .none, _, _ => by simp [PyData.eqv]
  | n, .list _, .int _, _, _ => by simp [PyData.eqv]
  | n, .list _, .str _, _, _ => by simp [PyData.eqv]
  | n + 1, .list ds, .list es, h, k => by
    unfold pl at h k
    rw [PyData.eqv, plA_eqv n ds es h k, PyData.list.injEq]
  | n, .list _, .tuple _, _, _ => by simp [PyData.eqv]
  | n, .tuple _, .none, _, _ => by simp [PyData.eqv]
  | n, .tuple _, .int _, _, _ => by simp [PyData.eqv]
  | n, .tuple _, .str _, _, _ => by simp [PyData.eqv]
  | n, .tuple _, .list _, _, _ => by simp [PyData.eqv]
  | n + 1, .tuple ds, .tuple es, h, k => by
    unfold pl at h k
    rw [PyData.eqv, plA_eqv n ds es h k, PyData.tuple.injEq]
  | 0, .list _, .list _, h, _ => by unfold pl at h; cases h
  | 0, .tuple _, .tuple _, h, _ => by unfold pl at h; cases h
  | n, .bool _, _, h, _ => by unfold pl at h; cases h
  | n, .dict _, _, h, _ => by unfold pl at h; cases h
  | n, _, .bool _, _, h => by unfold pl at h; cases h
  | n, _, .dict _, _, h => by unfold pl at h; cases h
theorem plA_eqv : ∀ (n : Nat) (ds es : List PyData), plA n ds = true → plA n es = true → (PyData.eqvAll ds es = true ↔ ds = es)
  | _, [], [], _, _ => by simp [PyData.eqvAll]
  | _, [], _ :: _, _, _ => by simp [PyData.eqvAll]
  | _, _ :: _, [], _, _ => by simp [PyData.eqvAll]
  | n, d :: ds, e :: es, h, k => by
    unfold plA at h k
    obtain ⟨h1, h2⟩ := Bool.and_eq_true_iff.mp h
    obtain ⟨k1, k2⟩ := Bool.and_eq_true_iff.mp k
    rw [PyData.eqvAll, Bool.and_eq_true, pl_eqv n d e h1 k1, plA_eqv n ds es h2 k2, List.cons.injEq]
end
section
variable {K : PySem.W.Frag} {H : Hp} {Q : VK} {x y : V} {d e : PyData} {n : Nat}
theorem s_eqPl (n : Nat) (hn : n ≤ 64) (hx : Hd H x d) (hy : Hd H y e) (p1 : pl n d = true) (p2 : pl n e = true) (q1 : d = e → Q (.bl true) H) (q2 : d ≠ e → Q (.bl false) H) : rEqD K x y H Q := by
  refine ⟨d, e, hx.dp K _ _ (pl_lay n d p1).1, hy.dp K _ _ (pl_lay n e p2).1, pl_shaped p1 hn, pl_shaped p2 hn, ?_⟩
  cases z : PyData.eqv d e with
  | true => exact q1 ((pl_eqv n d e p1 p2).mp z)
  | false => exact q2 fun w => by rw [(pl_eqv n d e p1 p2).mpr w] at z; cases z
theorem s_nePl (n : Nat) (hn : n ≤ 64) (hx : Hd H x d) (hy : Hd H y e) (p1 : pl n d = true) (p2 : pl n e = true) (q1 : d = e → Q (.bl false) H) (q2 : d ≠ e → Q (.bl true) H) : rNeD K x y H Q := by
  refine ⟨d, e, hx.dp K _ _ (pl_lay n d p1).1, hy.dp K _ _ (pl_lay n e p2).1, pl_shaped p1 hn, pl_shaped p2 hn, ?_⟩
  cases z : PyData.eqv d e with
  | true => exact q1 ((pl_eqv n d e p1 p2).mp z)
  | false => exact q2 fun w => by rw [(pl_eqv n d e p1 p2).mpr w] at z; cases z
theorem s_eqSame (hx : Hd H x d) (hy : Hd H y d) (p1 : SeqAt.shaped d = true) (q : Q (.bl true) H) : rEqD K x y H Q := by
  have c := SeqAt.canLay_of_shaped p1
  exact ⟨d, d, hx.dp K _ _ c, hy.dp K _ _ c, p1, p1, by rw [SeqAt.eqv_refl d c]; exact q⟩
theorem s_neSame (hx : Hd H x d) (hy : Hd H y d) (p1 : SeqAt.shaped d = true) (q : Q (.bl false) H) : rNeD K x y H Q := by
  have c := SeqAt.canLay_of_shaped p1
  exact ⟨d, d, hx.dp K _ _ c, hy.dp K _ _ c, p1, p1, by rw [SeqAt.eqv_refl d c]; exact q⟩
end

end K53
namespace K53
open PySem PySem.Spec PyProof.Rows L2
/-! ### comprehensions of new objects -/
def SameX (D : Addr) (H H' : Hp) : Prop := ∀ b o, b ≠ D → H b = some o → H' b = some o
theorem hdL_of {H : Hp} {α : Type} (F : α → PyData) : ∀ {as : List α} {acc : List V}, acc.length = as.length → (∀ (j : Nat) (a : α), as[j]? = some a → ∃ y, acc[j]? = some y ∧ Hd H y (F a)) → HdL H acc (as.map F)
  | [], [], _, _ => .nil
  | [], _ :: _, h, _ => by cases h
  | _ :: _, [], h, _ => by cases h
  | a :: as, v :: acc, h, q => by
    obtain ⟨y, e1, e2⟩ := q 0 a rfl
    have e1 := Option.some.inj e1
    subst e1
    exact .cons e2 (hdL_of F (by simpa using h) fun j b hb => q (j + 1) b hb)
section
variable {J : It} {n : Nat} {G : Hp → Prop} {Y : Nat → Hp → V → Hp → Prop} {g : TG} {tt : TT} {te : TE} {vs : List Nat} {σ : L2.St} {H1 : Hp} {Q : VK}
structure LcCe {α : Type} (as : List α) (El : Addr → α → V → Hp → Prop) (H1 : Hp) (D : Addr) (i : Nat) (a : α) (acc : List V) (H : Hp) : Prop where
  hD : H1 D = none
  ai : as[i]? = some a
  sm : Same H1 H
  hd : H D = some (.lst acc)
  hl : acc.length = i
  hE : ∀ (j : Nat) (a : α), j < i → as[j]? = some a → ∃ y, acc[j]? = some y ∧ El D a y H
  hz : as.length ≤ 100000
def EAcc {α : Type} (as : List α) (El : Addr → α → V → Hp → Prop) (H1 : Hp) (D : Addr) : Nat → List V → Hp → Prop := fun i acc H => acc.length = i ∧ Same H1 H ∧ ∀ (j : Nat) (a : α), j < i → as[j]? = some a → ∃ y, acc[j]? = some y ∧ El D a y H
theorem lce_yes {α : Type} {as : List α} {El : Addr → α → V → Hp → Prop} (hst : ∀ D a y H H', SameX D H H' → El D a y H → El D a y H') {D : Addr} {i : Nat} {a : α} {acc : List V} {y : V} {H H4 : Hp} (c : LcCe as El H1 D i a acc H) (s : Same H H4) (e : El D a y H4) :
    ∃ acc, H4 D = some (.lst acc) ∧ acc.length < sizeLine ∧ LcP D (EAcc as El H1 D) (i + 1) (upd H4 D (.lst (acc ++ [y]))) := by
  have hi : i < as.length := (List.getElem?_eq_some_iff.mp c.ai).1
  have hx : SameX D H4 (upd H4 D (.lst (acc ++ [y]))) := fun b o hb h => by rw [upd_ne hb]; exact h
  refine lc_put (s D _ c.hd) (by have := c.hl; omega) (by have := c.hz; omega) ⟨by rw [List.length_append, c.hl]; rfl, (c.sm.trans s).mut c.hD, fun j b hj hb => ?_⟩
  by_cases hji : j < i
  · obtain ⟨y', e1, e2⟩ := c.hE j b hji hb
    exact ⟨y', by rw [List.getElem?_append_left (by have := c.hl; omega)]; exact e1, hst _ _ _ _ _ hx (hst _ _ _ _ _ (fun b o _ h => s b o h) e2)⟩
  · have : j = i := by omega
    subst this
    rw [c.ai] at hb
    cases hb
    exact ⟨y, by rw [List.getElem?_append_right (by have := c.hl; omega), c.hl, Nat.sub_self]; rfl, hst _ _ _ _ _ hx e⟩
theorem lc_e {α : Type} {u : α → V} (as : List α) (El : Addr → α → V → Hp → Prop) (w : Walk J n G (YAt (as.map u))) (hn : n = as.length) (hz : as.length ≤ 100000) (hG : ∀ H, Same H1 H → G H)
    (hs : ∀ D i a acc H, LcCe as El H1 D i a acc H → g (u a) (wipe σ vs) H fun σ2 H2 => wipe σ2 vs = wipe σ vs ∧ tt σ2 H2 fun b H3 =>
      if b = true then te σ2 H3 fun y H4 => ∃ acc, H4 D = some (.lst acc) ∧ acc.length < sizeLine ∧ LcP D (EAcc as El H1 D) (i + 1) (upd H4 D (.lst (acc ++ [y]))) else LcP D (EAcc as El H1 D) (i + 1) H3)
    (hd : ∀ D acc H, H1 D = none → Same H1 H → H D = some (.lst acc) → acc.length = as.length → (∀ (j : Nat) (a : α), as[j]? = some a → ∃ y, acc[j]? = some y ∧ El D a y H) → Q (.ref D) H) : LcGoal J g tt te vs σ H1 Q := by
  refine lc_g w (fun D => EAcc as El H1 D) (fun D hD => ⟨rfl, L2.Same.up hD, fun j _ hj => absurd hj (Nat.not_lt_zero _)⟩) (fun D i acc H h => hG H h.2.1) (fun D i x acc H H' hD hi e hl h y => ?_) (fun D acc H hD e hl h => ?_)
  · obtain ⟨rfl, hx⟩ := y
    rw [List.getElem?_map] at hx
    have hi2 : i < as.length := by omega
    rw [List.getElem?_eq_getElem hi2] at hx
    have hx := Option.some.inj hx
    rw [← hx]
    exact hs D i _ acc H' ⟨hD, List.getElem?_eq_getElem hi2, h.2.1, e, h.1, h.2.2, hz⟩
  · obtain ⟨h1, h2, h3⟩ := h
    refine hd D acc H hD h2 e (by omega) fun j a hj => h3 j a ?_ hj
    have := (List.getElem?_eq_some_iff.mp hj).1
    omega
end
/-- an element that is an object of its own -/
def ElO {α : Type} (ob : α → HO) : Addr → α → V → Hp → Prop := fun D a y H => ∃ p, y = .ref p ∧ p ≠ D ∧ H p = some (ob a)
theorem elO_st {α : Type} {ob : α → HO} : ∀ D a y H H', SameX D H H' → ElO ob D a y H → ElO ob D a y H' := fun D a y H H' s ⟨p, e, ne, h⟩ => ⟨p, e, ne, s p _ ne h⟩
/-! ### dicts, loops with a test: the words -/
section
variable {σ : L2.St} {H : Hp} {Q : VK} {D : L2.Ends} {td ty tv : TE}
theorem s_din (h : ty σ H fun y H1 => td σ H1 fun x H2 => ∃ a o, x = .ref a ∧ DGet H2 a y o ∧ Q (.bl o.isSome) H2) : tDIn ty td σ H Q := h
theorem s_dnotin (h : ty σ H fun y H1 => td σ H1 fun x H2 => ∃ a o, x = .ref a ∧ DGet H2 a y o ∧ Q (.bl (!o.isSome)) H2) : tDNotIn ty td σ H Q := h
theorem s_dget (h : td σ H fun x H1 => ty σ H1 fun y H2 => ∃ a v, x = .ref a ∧ DGet H2 a y (some v) ∧ Q v H2) : tDGet td ty σ H Q := h
theorem s_dput (h : tv σ H fun v H1 => td σ H1 fun x H2 => ty σ H2 fun y H3 => ∃ a H4, x = .ref a ∧ DPut H3 a y v H4 ∧ D.nx σ H4) : sDPut td ty tv D σ H := h
theorem s_dnewT (h : ∀ p, H p = none → Q (.ref p) (upd H p (.dT []))) : tDNewT σ H Q := h
theorem s_dnewK (h : ∀ p, H p = none → Q (.ref p) (upd H p (.dK []))) : tDNewK σ H Q := h
theorem s_wh {c : TT} {tb : TS} (W : Nat → L2.St → Hp → Prop) (m : Nat) (h0 : W m σ H)
    (hs : ∀ m σ H, W m σ H → c σ H fun b H1 => if b = true then ∃ N : L2.St → Hp → Prop, (∀ σ' H', N σ' H' → ∃ m', m' < m ∧ W m' σ' H') ∧ tb { D with nx := N, ct := N, bk := D.nx } σ H1 else D.nx σ H1) : tWhile c tb D σ H := ⟨W, ⟨m, h0⟩, hs⟩
end
/-- keys that are tuples of whole numbers -/
def keyN (ns : List Nat) : List L2.Key := ns.map fun (n : Nat) => (Sum.inl (n : Int) : L2.Key)
theorem keyN_iv (ns : List Nat) : (keyN ns).map kV = ivs ns := by
  unfold keyN ivs
  rw [List.map_map]
  rfl
theorem keyN_inj {ns ms : List Nat} (h : keyN ns = keyN ms) : ns = ms := by
  have e := congrArg (List.map kV) h
  rw [keyN_iv, keyN_iv] at e
  unfold ivs at e
  exact List.map_inj_right (fun x y e => by injection e with e; omega) |>.mp e
/-- the dict of the first places -/
def plcs (f : Nat → List Nat) (i : Nat) : List (List L2.Key × V) := (List.range i).map fun j => (keyN (f j), V.int (j : Int))
theorem plcs_none {f : Nat → List Nat} {i : Nat} {k : List Nat} (h : ∀ j, j < i → f j ≠ k) : valV (plcs f i) (keyN k) = none := by
  unfold valV
  rw [List.find?_eq_none.mpr]
  · rfl
  · intro p hp
    obtain ⟨j, hj, rfl⟩ := List.mem_map.mp hp
    exact fun z => h j (List.mem_range.mp hj) (keyN_inj (of_decide_eq_true z))
theorem plcs_succ {f : Nat → List Nat} (i : Nat) : plcs f (i + 1) = plcs f i ++ [(keyN (f i), V.int (i : Int))] := by
  unfold plcs
  rw [List.range_succ, List.map_append]
  rfl
theorem plcs_some {f : Nat → List Nat} {j : Nat} : ∀ {i : Nat}, j < i → (∀ a b, a < b → b < i → f a ≠ f b) → valV (plcs f i) (keyN (f j)) = some (.int (j : Int))
  | 0, h, _ => absurd h (Nat.not_lt_zero _)
  | i + 1, h, hd => by
    have hn : valV (plcs f i) (keyN (f i)) = none := plcs_none fun a ha => hd a i ha (Nat.lt_succ_self _)
    rw [plcs_succ, valV_snoc _ _ _ _ hn]
    by_cases e : j = i
    · subst e
      rw [if_pos rfl]
    · have hj : j < i := by omega
      rw [if_neg fun z => hd j i hj (Nat.lt_succ_self _) (keyN_inj z)]
      exact plcs_some hj fun a b h1 h2 => hd a b h1 (by omega)
theorem plcs_put {f : Nat → List Nat} {i : Nat} (h : ∀ j, j < i → f j ≠ f i) : putK (plcs f i) (keyN (f i)) (.int (i : Int)) = plcs f (i + 1) := by
  rw [putK_new _ (plcs_none h), plcs_succ]
theorem pe_clE {X : Cx} {k j : Nat} {x : Str} {sp : Sp} {dvs : List V} {p pos : Pos} {e : Expr} {es : List Expr} {t : TA} {CX : CXT} {E : XK} (c : Cal CX X.prog X.w X.K X.mg X.base k x sp dvs) (hr : Room j X.A) (hk : k ≤ j) (ha : PA X (e :: es) t) (hx : Passes CX X E) (hg : Gl X x := by rfl)
    (hdb : (x == ("__debug__" : Str)) = false := by decide) (he : starEach (e :: es) X.env = (false, eval e X.env) :: starEach es X.env := by rfl) (hpl : (backTo pos (starEach es X.env)).any (·.1) = false := by rfl) :
    PE X (.Call (.Name x p) (e :: es) [] pos) (tCall sp dvs E t) := by
  obtain ⟨f, fd, ps, ds, F, hm, kp, b, d⟩ := c.ex
  exact pe_call F (hr.mono hk) hg hm kp b d hx ha hdb he hpl
/-! ### dicts whose keys are whole numbers and whose values are True -/
def haveK (ns : List Nat) : List (L2.Key × V) := ns.map fun (n : Nat) => ((Sum.inl (n : Int) : L2.Key), V.bl true)
theorem haveK_val {k : Nat} : ∀ ns : List Nat, (valV (haveK ns) (Sum.inl (k : Int))).isSome = decide (k ∈ ns)
  | [] => rfl
  | n :: ns => by
    show (valV ((Sum.inl (n : Int), V.bl true) :: haveK ns) (Sum.inl (k : Int))).isSome = _
    by_cases e : n = k
    · subst e
      rw [valV_pos rfl]
      exact (decide_eq_true (List.mem_cons_self ..)).symm
    · rw [valV_neg fun z => e (by injection z with z; omega), haveK_val ns]
      exact bl_iff (by rw [List.mem_cons]; exact ⟨.inr, fun z => z.elim (fun z => absurd z.symm e) id⟩)
theorem haveK_len (ns : List Nat) : (haveK ns).length = ns.length := by unfold haveK; rw [List.length_map]
theorem haveK_put {n : Nat} {ns : List Nat} (h : n ∉ ns) : putK (haveK ns) (Sum.inl (n : Int)) (.bl true) = haveK (ns ++ [n]) := by
  have e : valV (haveK ns) (Sum.inl (n : Int)) = none := by
    have := haveK_val (k := n) ns
    rw [decide_eq_false h] at this
    exact Option.isNone_iff_eq_none.mp (by rw [← Option.not_isSome, this]; rfl)
  rw [putK_new _ e]
  unfold haveK
  rw [List.map_append]
  rfl
section
variable {H : Hp} {Q : VK} {a : Addr} {ns : List Nat} {k : Nat}
theorem s_have (h : Rd H a (.dK (haveK ns))) (q : Q (.bl (decide (k ∈ ns))) H) : ∃ a' o, V.ref a = .ref a' ∧ DGet H a' (.int (k : Int)) o ∧ Q (.bl o.isSome) H :=
  ⟨a, valV (haveK ns) (Sum.inl (k : Int)), rfl, .inl ⟨_, Sum.inl (k : Int), h, rfl, rfl⟩, by rw [haveK_val]; exact q⟩
theorem walk_have {d : Addr} {o : Obj} : Walk (Itk d o (haveK ns)) ns.length (fun H => H d = some (.frz o (.dK (haveK ns)))) (YAt (ns.map fun (n : Nat) => V.int (n : Int))) := by
  have w := walk_keys (d := d) (o := o) (kvs := haveK ns)
  rw [haveK_len] at w
  refine w.mono (fun _ h => h) fun i H x H' hi _ y => ⟨y.1, ?_⟩
  obtain ⟨k, v, h1, h2⟩ := y.2
  unfold haveK at h1
  rw [List.getElem?_map] at h1 ⊢
  rw [List.getElem?_eq_getElem hi] at h1 ⊢
  have h1 := Option.some.inj h1
  injection h1 with h1 _
  rw [h2, ← h1]
  rfl
end
/-- a dict comprehension's rest -/
def DcGoal (J : It) (g : TG) (tt : TT) (tk tv : TE) (vs : List Nat) (σ : L2.St) (H1 : Hp) (Q : VK) : Prop := ∀ D, H1 D = none → ∃ W : Nat → Nat → Hp → Prop, (∃ m, W 0 m (upd H1 D (.dK []))) ∧ ∀ i m H, W i m H →
  (J.stop i H ∧ Q (.ref D) H) ∨ (J.go i H ∧ ∃ Nx : Hp → Prop, (∀ H', Nx H' → ∃ m', m' < m ∧ W (i + 1) m' H') ∧ ∀ x H', J.yld i H x H' → g x (wipe σ vs) H' fun σ2 H2 => wipe σ2 vs = wipe σ vs ∧ tt σ2 H2 fun b H3 =>
    if b = true then tk σ2 H3 fun y H4 => tv σ2 H4 fun z H5 => ∃ kvs k, y = kV k ∧ H5 D = some (.dK kvs) ∧ kvs.length < sizeLine ∧ Nx (upd H5 D (.dK (putK kvs k z))) else Nx H3)
section
variable {σ : L2.St} {H : Hp} {Q : VK} {K : PySem.W.Frag} {g : TG} {tt : TT} {tk tv : TE} {vs : List Nat} {x : V} {xs : List V}
theorem s_dc {wi : TI} (h : wi σ H fun J H1 => DcGoal J g tt tk tv vs σ H1 Q) : tDc wi g tt tk tv vs σ H Q := h
theorem s_iSd (hS : Seq K H x xs) (q : ∀ (J : It) (G : Hp → Prop), Walk J xs.length G (YAt xs) → (∀ H', Same H H' → G H') → DcGoal J g tt tk tv vs σ H Q) :
    ∃ a xs, x = .ref a ∧ ((SqL K H a xs ∧ DcGoal (Itl K a) g tt tk tv vs σ H Q) ∨ (SqT K H a xs ∧ DcGoal (Itt K a) g tt tk tv vs σ H Q)) := by
  obtain ⟨p, e, h | h⟩ := hS
  · exact ⟨p, xs, e, .inl ⟨h, q _ _ walk_list fun H' s => sqL_to s h⟩⟩
  · exact ⟨p, xs, e, .inr ⟨h, q _ _ walk_tup fun H' s => sqT_to s h⟩⟩
theorem s_iLd {p : Addr} (hS : SqL K H p xs) (q : DcGoal (Itl K p) g tt tk tv vs σ H Q) : ∃ a, V.ref p = .ref a ∧ (∃ xs, SqL K H a xs) ∧ DcGoal (Itl K a) g tt tk tv vs σ H Q := ⟨p, rfl, ⟨xs, hS⟩, q⟩
/-- {n: True for n in ..} of unlike whole numbers -/
def DcN (ns : List Nat) (H1 : Hp) (D : Addr) (i : Nat) (H : Hp) : Prop := Same H1 H ∧ H D = some (.dK (haveK (ns.take i)))
structure DcCx (ns : List Nat) (H1 : Hp) (D : Addr) (i n : Nat) (H : Hp) : Prop where
  hD : H1 D = none
  ai : ns[i]? = some n
  nd : ns.Nodup
  hz : ns.length ≤ 100000
  at_ : DcN ns H1 D i H
theorem dc_yes {ns : List Nat} {H1 H : Hp} {D : Addr} {i n : Nat} (c : DcCx ns H1 D i n H) :
    ∃ kvs k, V.int (n : Int) = kV k ∧ H D = some (.dK kvs) ∧ kvs.length < sizeLine ∧ DcN ns H1 D (i + 1) (upd H D (.dK (putK kvs k (.bl true)))) := by
  have hlt : i < ns.length := (List.getElem?_eq_some_iff.mp c.ai).1
  have hz := c.hz
  have hni : n ∉ ns.take i := fun hm => by
    obtain ⟨j, hj, e⟩ := List.getElem_of_mem hm
    rw [List.length_take] at hj
    rw [List.getElem_take] at e
    have := (List.getElem?_inj (by omega) c.nd).mp (show ns[j]? = ns[i]? by rw [c.ai, List.getElem?_eq_getElem (by omega), e])
    omega
  refine ⟨_, Sum.inl (n : Int), rfl, c.at_.2, sz16l (by rw [haveK_len, List.length_take]; omega), c.at_.1.mut c.hD, ?_⟩
  rw [upd_same, haveK_put hni, List.take_add_one, c.ai]
  rfl
theorem dc_have {J : It} {G : Hp → Prop} {ns : List Nat} (w : Walk J (ivs ns).length G (YAt (ivs ns))) (hn : ns.Nodup) (hz : ns.length ≤ 100000) (hG : ∀ H', Same H H' → G H')
    (hs : ∀ (D : Addr) (i n : Nat) (H' : Hp), DcCx ns H D i n H' → g (.int (n : Int)) (wipe σ vs) H' fun σ2 H2 => wipe σ2 vs = wipe σ vs ∧ tt σ2 H2 fun b H3 =>
      if b = true then tk σ2 H3 fun y H4 => tv σ2 H4 fun z H5 => ∃ kvs k, y = kV k ∧ H5 D = some (.dK kvs) ∧ kvs.length < sizeLine ∧ DcN ns H D (i + 1) (upd H5 D (.dK (putK kvs k z))) else DcN ns H D (i + 1) H3)
    (hd : ∀ D H', H D = none → Same H H' → H' D = some (.dK (haveK ns)) → Q (.ref D) H') :
    DcGoal J g tt tk tv vs σ H Q := by
  intro D hD
  rw [iv_len] at w
  refine ⟨fun i m H' => m = ns.length - i ∧ i ≤ ns.length ∧ DcN ns H D i H', ⟨ns.length, by simp, Nat.zero_le _, L2.Same.up hD, upd_same⟩, ?_⟩
  rintro i m H' ⟨rfl, hi, sm, hDi⟩
  by_cases hlt : i < ns.length
  · refine .inr ⟨w.goes i H' hlt (hG _ sm), DcN ns H D (i + 1), fun H'' p' => ⟨ns.length - (i + 1), by omega, rfl, hlt, p'⟩, fun x H'' y => ?_⟩
    obtain ⟨rfl, hx⟩ := w.yields i H' x H'' hlt (hG _ sm) y
    rw [iv_get (List.getElem?_eq_getElem hlt)] at hx
    cases hx
    exact hs D i ns[i] H'' ⟨hD, List.getElem?_eq_getElem hlt, hn, hz, sm, hDi⟩
  · have e : i = ns.length := by omega
    subst e
    rw [List.take_length] at hDi
    exact .inl ⟨w.stops H' (hG _ sm), hd D H' hD sm hDi⟩
end
theorem walk_r1 {lo n : Nat} : Walk (Itr ((lo : Nat) : Int) n) n (fun _ => True) (YAt ((List.range n).map fun (k : Nat) => V.int ((lo + k : Nat) : Int))) := by
  have w := walk_rangeX (lo := (lo : Int)) (n := n)
  exact w
theorem s_srcK {σ : L2.St} {H : Hp} {td : TE} {R : It → Hp → Prop} (h : td σ H fun x H1 => ∃ d o, x = .ref d ∧ ((∃ kvs, H1 d = some (.frz o (.dK kvs)) ∧ R (Itk d o kvs) H1) ∨ ∃ kvs, H1 d = some (.frz o (.dT kvs)) ∧ R (Itkt d o kvs) H1)) : iKeys td σ H R := h
theorem s_tpar {σ : L2.St} {H : Hp} {D : L2.Ends} {i j : Nat} {ta : TA} (h : ta σ H fun vs H1 => ∃ v w, vs = [v, w] ∧ D.nx ((σ.set i (some v)).set j (some w)) H1) : tPar i j ta D σ H := h
theorem s_pr {x y : V} {Z : V → V → Prop} (q : Z x y) : ∃ v w, [x, y] = [v, w] ∧ Z v w := ⟨x, y, rfl, q⟩
theorem have_get {H : Hp} {a : Addr} {ns : List Nat} {k : Nat} (h : Rd H a (.dK (haveK ns))) : DGet H a (.int (k : Int)) (valV (haveK ns) (Sum.inl (k : Int))) := .inl ⟨_, Sum.inl (k : Int), h, rfl, rfl⟩
theorem s_cut {t u : TS} {D : L2.Ends} {σ : L2.St} {H : Hp} (Mid : L2.St → Hp → Prop) (h : t { D with nx := Mid } σ H) (k : ∀ σ' H', Mid σ' H' → u D σ' H') : C8.tCut t u D σ H := ⟨Mid, h, k⟩
section
variable {σ : L2.St} {H : Hp} {Q : VK} {te : TE} {tl th : TO} {r : V → Option Int → Option Int → Hp → VK → Prop} {Qo : Option Int → Hp → Prop} {n : Int} {Z : Int → Prop}
theorem s_sl (h : te σ H fun x H1 => tl σ H1 fun l H2 => th σ H2 fun u H3 => r x l u H3 Q) : tSl r te tl th σ H Q := h
theorem s_noP (h : Qo none H) : tNoPart σ H Qo := h
theorem s_part (h : te σ H fun x H1 => ∃ i, x = .int i ∧ Qo (some i) H1) : tPart te σ H Qo := h
theorem s_pi (h : Z n) : ∃ i, V.int n = .int i ∧ Z i := ⟨n, rfl, h⟩
end

end K53
namespace K53
open PySem PySem.Spec PyProof.Rows L2
/-! ### enumerate(tuple) -/
section
open PySem.Sem (wp)
set_option maxHeartbeats 1000000 in
theorem meets_enumB {v : Value} {o : Obj} {H : Heap → Prop} (B : Begins v o H) :
    Meets (Builtin.«enumerate.__new__» ⟨[.type "enumerate", v], []⟩) (fun _ R s => H s.heap ∧
      R (.ok (.ret (.ref (s.heap.push o).objs.size))) { s with heap := (s.heap.push o).push { cls := .type "enumerate", data := .fields #[.none, .bool false, .ref s.heap.objs.size, rawInt 0, .none, .none] } }) :=
  .of_wp fun prog w A R s h => by
    obtain ⟨hp, g, d, tk, os⟩ := s; obtain ⟨h1, h⟩ := h
    have hsub := sub_enumerate
    have q1 : ∀ {A' : Around} {E : Value → Shared → Prop} {Q : Value → Shared → Prop}, Q (.ref hp.objs.size) ⟨hp.push o, g, d, tk, os⟩ → wpAny (model prog w) A' (pyIter v) Q E ⟨hp, g, d, tk, os⟩ :=
      fun q => B.iter prog w _ _ ⟨hp, g, d, tk, os⟩ _ h1 q
    wp_walk using q1
    refine wpAny_stack_any fun st => wpAny_pure ?_
    split
    · rename_i c _ _ _ _ _
      cases (c == Value.type "enumerate")
      · wp_walk using q1
        exact ⟨_, rfl, h⟩
      · wp_walk using q1
        exact ⟨_, rfl, h⟩
    · wp_walk using q1
      exact ⟨_, rfl, h⟩
end
theorem call_enumB {prog : Program} {w : World} {A : Around} {E : Value → Shared → Prop} {s : Shared} {v : Value} {o : Obj} {H : Heap → Prop} {Q : Value → Shared → Prop} (B : Begins v o H) (h1 : H s.heap)
    (h : ∀ h', IsEnum h' (s.heap.objs.size + 1) s.heap.objs.size 0 .none → h'.get? s.heap.objs.size = some o → h'.objs.size = s.heap.objs.size + 2 →
      (∀ b o, s.heap.get? b = some o → h'.get? b = some o) → Q (.ref (s.heap.objs.size + 1)) { s with heap := h' }) :
    wpAny (model prog w) A (call (.type "enumerate") [v]) Q E s := by
  refine callType_new F.called_enumerate (by decide) (F.typeCall_enumerate_1 _) (F.newCall_enumerate_1 _) (fun obj => F.args_object_init_2 obj _) F.entry_enumerate_new
    (meets_enumB B) ⟨h1, ?_⟩
  have hz : (s.heap.push o).objs.size = s.heap.objs.size + 1 := Heap.size_push ..
  show _ ∧ _
  rw [hz]
  have he : IsEnum ((s.heap.push o).push { cls := .type "enumerate", data := .fields #[.none, .bool false, .ref s.heap.objs.size, rawInt 0, .none, .none] }) (s.heap.objs.size + 1) s.heap.objs.size 0 .none := by
    have := Heap.get?_push_size (s.heap.push o) (o := { cls := .type "enumerate", data := .fields #[.none, .bool false, .ref s.heap.objs.size, rawInt 0, .none, .none] }) rfl
    rw [hz] at this; exact this
  refine ⟨⟨_, he, rfl⟩, h _ he (Heap.get?_push_of_some _ (Heap.get?_push_size _ B.free)) (by rw [Heap.size_push, hz]) fun b o x => Heap.get?_push_of_some _ (Heap.get?_push_of_some _ x)⟩
/-- the tuple at a, each item in a new pair -/
def Itet (K : PySem.W.Frag) (a : Addr) : It :=
  ⟨fun i H => ∃ (xs : List V) (x : V), SqT K H a xs ∧ xs[i]? = some x, fun i H v H' => ∃ T x, v = .ref T ∧ H T = none ∧ H' = upd H T (.tup [.int (i : Nat), x]) ∧ ∀ xs, SqT K H a xs → xs[i]? = some x, fun i H => ∃ xs : List V, SqT K H a xs ∧ xs.length = i⟩
theorem turn_enumT {P : Program} {w : World} {K : PySem.W.Frag} {elts : List Expr} {kk : Nat} {tpos : Pos} (a e it : Addr) (hai : a ≠ it) :
    Turn P w K (.Tuple elts kk tpos) (Itet K a) [e, it] e (fun i h => (∃ old, IsEnum h e it ((i : Nat) : Int) old) ∧ h.IsTupleIter it a i ∧ e ≠ it ∧ a ≠ e) where
  mem := by simp
  obj := fun i h st b hb => by
    obtain ⟨⟨old, he⟩, ⟨o, ho, hc, hd⟩, _⟩ := st
    have e' : b = e ∨ b = it := by simpa using hb
    rcases e' with z | z
    · rw [z]; exact ⟨_, he, fun v q => nomatch q⟩
    · rw [z]; exact ⟨o, ho, fun v q => by rw [hd] at q; cases q⟩
  keep := fun i h h' st k => let ⟨⟨old, he⟩, hi, hne⟩ := st; ⟨⟨old, k e (by simp) _ he⟩, hi.at fun o q => k it (by simp) o q, hne⟩
  item := by
    intro X hP hw hK hc i pins s σ H E I hf st hg
    subst hP hw hK
    obtain ⟨⟨old, he⟩, hit, hne, hae⟩ := st
    obtain ⟨xs, x, hq, hx⟩ := hg
    obtain ⟨its, rv, p, hz⟩ := I.tuple hq
    obtain ⟨u, hu, ru⟩ := rv.get hx
    have hel : e < s.heap.objs.size := Heap.lt_size he
    have hil : it < s.heap.objs.size := by obtain ⟨_, q, _⟩ := hit; exact Heap.lt_size q
    have D := Draws.tuple (prog := X.prog) (w := X.w) (A := X.A.in1) (I.ok.hd hc) it a hai its.toArray
    have hlt : i < its.toArray.size := by
      have := (List.getElem?_eq_some_iff.mp hu).1
      simpa using this
    refine wpAny_pyNext_enum_itemD D he ⟨hit, p⟩ hlt hne (fun q => by rcases List.mem_cons.mp q with z | z; exact hne z; exact hae (List.mem_singleton.mp z).symm) fun u' h' tk hu' ho hit' hT hsz hk => ?_
    have : u' = u := by
      have e2 : its[i]? = some u' := by simpa using hu'
      rw [hu] at e2
      exact (Option.some.inj e2).symm
    subst this
    refine ⟨_, rfl, wpAny_letOwnedTupleGo_enum (s := { s with heap := h', toks := tk + 1 }) ho fun h'' he' sb => ?_⟩
    have hT2 : h''.get? s.heap.objs.size = some { cls := .type "tuple", data := .seq #[.int i tk, u'] } := (sb.2 _ (Nat.ne_of_gt hel)).trans hT
    have new : ObjOk X.prog X.w (upd H s.heap.objs.size (.tup [.int (i : Nat), x])) h'' s.heap.objs.size (.tup [.int (i : Nat), x]) :=
      ⟨by show 2 ≤ sizeLine; decide, [.int i tk, u'], .cons ⟨_, rfl⟩ (.cons ru .nil), ⟨_, hT2, rfl, _, rfl⟩⟩
    have I1 : Inv X pins σ (upd H s.heap.objs.size (.tup [.int (i : Nat), x])) { s with heap := h'', toks := tk + 1 } :=
      I.turnedNew (ch := [e, it]) (fun b ob hb q => (sb.2 b (fun z => hb (by simp [z]))).trans (hk b ob (fun z => hb (by simp [z])) (fun z => hb (by simp [z])) q)) hf (Nat.le_refl _) new
    refine ⟨.ref s.heap.objs.size, _, I1, rfl, ⟨_, x, rfl, I.hok.fresh (Nat.le_refl _), rfl, fun ys hy => by rw [I.tuple_inj hy hq]; exact hx⟩, ⟨⟨u', ?_⟩, hit'.1.at fun o q => (sb.2 it (Ne.symm hne)).trans q, hne, hae⟩, fun b hb => ?_⟩
    · have e1 : ((i + 1 : Nat) : Int) = (i : Int) + 1 := by omega
      rw [e1]; exact he'
    · have hb' : b < s.heap.objs.size := by
        have e' : b = e ∨ b = it := by simpa using hb
        rcases e' with z | z
        · rw [z]; exact hel
        · rw [z]; exact hil
      rw [upd_ne (Nat.ne_of_lt hb')]
      exact (hf b hb).1
  done := by
    intro X hP hw hK hc i pins s σ H E I hf st hg
    subst hP hw hK
    obtain ⟨⟨old, he⟩, hit, hne, hae⟩ := st
    obtain ⟨xs, hq, hx⟩ := hg
    obtain ⟨its, rv, p, hz⟩ := I.tuple hq
    obtain ⟨f0, f1, f2, f3, f4, f5⟩ := hf it (by simp)
    have hl := rv.length
    have D := Draws.tuple (prog := X.prog) (w := X.w) (A := X.A.in1) (I.ok.hd hc) it a hai its.toArray
    have e1 : i = its.toArray.size := by
      rw [← hx, hl]
      simp
    subst e1
    exact wpAny_pyNext_enum_endD D he ⟨hit, p⟩ fun h' eb => ⟨rfl, I.turned (t' := s.toks) (fun b o hb q => eb b o hb q) f0 f1 f3 f4 f5⟩
  self := fun A i s Q E st h => let ⟨⟨_, he⟩, _⟩ := st; wpAny_pyIter_enum he h
def iEnumT (K : PySem.W.Frag) (ta : TA) : TI := fun σ H R => ta σ H fun vs H1 => ∃ a xs, vs = [.ref a] ∧ SqT K H1 a xs ∧ R (Itet K a) H1
theorem pi_enumT {X : Cx} {K : PySem.W.Frag} {e : Expr} {ta : TA} {p pos tpos : Pos} {elts : List Expr} {kk : Nat} (hK : X.K = K) (hg : Gl X "enumerate") (hm : X.mg "enumerate" = none) (ha : PA X [e] ta) (hs : starEach [e] X.env = [(false, eval e X.env)] := by rfl) :
    PI X (.Tuple elts kk tpos) (.Call (.Name "enumerate" p) [e] [] pos) (iEnumT K ta) := by
  subst hK
  refine ⟨fun pins s σ H R I h => ?_⟩
  refine Call_ (ld_blt I hg hm boot_enumerate (PyProof.Rows.callWith_type1 (thn (ha.run pos pins s σ H _ I h) fun us s1 ⟨vs, H1, I1, r1, q1⟩ => ?_) hs rfl))
  obtain ⟨a, xs, ex, hq, q⟩ := q1
  subst ex
  cases r1 with
  | cons r rr =>
    cases rr
    cases r
    obtain ⟨its, rv, p', hz⟩ := I1.tuple hq
    have hal : a < s1.heap.objs.size := by obtain ⟨o, ho, _⟩ := id p'; exact Heap.lt_size ho
    refine call_enumB (begins_tuple a its.toArray) p' fun h' he hit hsz hk => wpAny_pyIter_enum he ?_
    have I2 : Inv X pins σ H1 { s1 with heap := h' } := I1.kept (t' := s1.toks) hk
    refine ⟨s1.heap.objs.size + 1, [s1.heap.objs.size + 1, s1.heap.objs.size], _, _, H1, rfl, I2, turn_enumT a (s1.heap.objs.size + 1) s1.heap.objs.size (Nat.ne_of_lt hal), ⟨⟨.none, he⟩, ⟨_, hit, rfl, rfl⟩, Nat.succ_ne_self _, Nat.ne_of_lt (Nat.lt_succ_of_lt hal)⟩, fun b hb => ?_, q⟩
    have e' : b = s1.heap.objs.size + 1 ∨ b = s1.heap.objs.size := by simpa using hb
    have hle : s1.heap.objs.size ≤ b := by
      rcases e' with z | z
      · rw [z]; exact Nat.le_add_right _ _
      · rw [z]; exact Nat.le_refl _
    exact I1.fpOk hle (I1.hok.fresh hle)
theorem walk_enumT {K : PySem.W.Frag} {a : Addr} {xs : List V} : Walk (Itet K a) xs.length (fun H => SqT K H a xs) (YPair (fun i => some (.int (i : Nat))) (fun i => xs[i]?)) := by
  refine ⟨fun i _ hi q => ⟨xs, xs[i], q, by simp [hi]⟩, fun _ q => ⟨xs, q, rfl⟩, fun i H v H' _ q y => ?_⟩
  obtain ⟨T, x, h1, h2, h3, h4⟩ := y
  exact ⟨T, .int (i : Nat), x, h1, h2, h3, rfl, h4 xs q⟩
section
variable {K : PySem.W.Frag} {σ : L2.St} {H : Hp} {D : L2.Ends}
theorem s_srcET {ta : TA} {R : It → Hp → Prop} (h : ta σ H fun vs H1 => ∃ a xs, vs = [.ref a] ∧ SqT K H1 a xs ∧ R (Itet K a) H1) : iEnumT K ta σ H R := h
theorem s_iETf {p : Addr} {xs : List V} {g : TG} {tb : TS} (hS : SqT K H p xs) (q : ForGoal (Itet K p) g tb D σ H) : ∃ a xs, [V.ref p] = [.ref a] ∧ SqT K H a xs ∧ ForGoal (Itet K a) g tb D σ H := ⟨p, xs, rfl, hS, q⟩
theorem for_eT {a : Addr} {xs : List V} {g : TG} {tb : TS} (Pv : Nat → L2.St → Hp → Prop) (h0 : Pv 0 σ H) (hG : ∀ i σ H, Pv i σ H → SqT K H a xs)
    (hs : ∀ i x T σ H, xs[i]? = some x → Pv i σ H → H T = none → g (.ref T) σ (upd H T (.tup [.int (i : Nat), x])) fun σ2 H2 => tb ⟨Pv (i + 1), D.rt, D.nx, Pv (i + 1)⟩ σ2 H2) (hd : ∀ σ H, Pv xs.length σ H → D.nx σ H) : ForGoal (Itet K a) g tb D σ H := by
  refine for_it (walk_enumT (xs := xs)) Pv h0 (fun i σ H _ h => hG i σ H h) (fun i x σ H H' hi h y => ?_) hd
  obtain ⟨T, x', y', rfl, h2, rfl, h4, h5⟩ := y
  have h4 := Option.some.inj h4
  subst h4
  exact hs i y' T σ H h5 h h2
end

end K53
namespace K53
open PySem PySem.Spec PyProof.Rows L2
/-! ### set comprehensions of two clauses, of whole numbers (as list comprehensions of two clauses, the adding a set's) -/
theorem ctS_out (elt t0 i0 t1 i1 : Expr) (ifs0 ifs1 : List Expr) (scope : Scope) (pos : Pos) (it acc : Value) (env : Env) :
    compTurn (.SetComp elt [⟨t0, i0, ifs0, 0⟩, ⟨t1, i1, ifs1, 0⟩] scope pos) 0 it acc env = (do
      standAt i0.pos
      match ← pyNext it with
      | none => pure (.done .next)
      | some v =>
        letOwnedTupleGo t0 it v
        assign t0 env v
        let mut ok := true
        for c in ifs0 do
          if ok then ok ← isTrue c env (eval c env)
        if ok then
          let x ← eval i1 env
          standAt i1.pos
          let x ← foldedSetIterable i1 env x
          let _ ← runOwn (.compStart (.SetComp elt [⟨t0, i0, ifs0, 0⟩, ⟨t1, i1, ifs1, 0⟩] scope pos) 1 (← holding [x] (pyIter x)) acc env) env
        again (.compLoop (.SetComp elt [⟨t0, i0, ifs0, 0⟩, ⟨t1, i1, ifs1, 0⟩] scope pos) 0 it acc env)) := by rfl
theorem ctS_in (elt t0 i0 t1 i1 : Expr) (ifs0 ifs1 : List Expr) (scope : Scope) (pos : Pos) (it acc : Value) (env : Env) :
    compTurn (.SetComp elt [⟨t0, i0, ifs0, 0⟩, ⟨t1, i1, ifs1, 0⟩] scope pos) 1 it acc env = (do
      standAt i1.pos
      match ← pyNext it with
      | none => pure (.done .next)
      | some v =>
        letOwnedTupleGo t1 it v
        assign t1 env v
        let mut ok := true
        for c in ifs1 do
          if ok then ok ← isTrue c env (eval c env)
        if ok then
          (do let v ← eval elt env; standAt elt.pos; let _ ← call (.builtin "set.add") [acc, v])
        again (.compLoop (.SetComp elt [⟨t0, i0, ifs0, 0⟩, ⟨t1, i1, ifs1, 0⟩] scope pos) 1 it acc env)) := by rfl

section
variable {prog : Program} {w : World} {A : Around} {R : Result → Shared → Prop} {s : Shared} {elt t0 i0 t1 i1 : Expr} {ifs0 ifs1 : List Expr} {scope : Scope} {pos : Pos} {it acc : Value} {env : Env}
/-- the loop of the first clause -/
theorem clS_out (hs : ∀ x, foldedSetIterable i1 env x = pure x) (I : Nat → Shared → Prop)
    (turn : ∀ n s, I n s → wpAny (model prog w) A (pyNext it) (fun r s₁ => match r with
      | none => R (.ok .next) s₁
      | some v => wpAny (model prog w) A (letOwnedTupleGo t0 it v) (fun _ s₁' => wpAny (model prog w) A (assign t0 env v) (fun _ s₂ =>
          wpAny (model prog w) A (forIn ifs0 true fun c r => if r = true then do let ok ← isTrue c env (eval c env); pure (ForInStep.yield ok) else pure (ForInStep.yield r)) (fun ok s₃ =>
            if ok = true then wpAny (model prog w) A (eval i1 env) (fun x s₄ => wpAny (model prog w) A (pyIter x) (fun it1 s₅ =>
              codeAny (model prog w) A (.compStart (.SetComp elt [⟨t0, i0, ifs0, 0⟩, ⟨t1, i1, ifs1, 0⟩] scope pos) 1 it1 acc env) (fun r s' => match r with
                | .ok _ => ∃ m, m < n ∧ I m s'
                | .error _ => False) s₅) (notedBy (model prog w) A env fun e s' => R (.error e) s') s₄) (notedBy (model prog w) A env fun e s' => R (.error e) s') s₃
            else ∃ m, m < n ∧ I m s₃) (notedBy (model prog w) A env fun e s' => R (.error e) s') s₂) (notedBy (model prog w) A env fun e s' => R (.error e) s') s₁') (notedBy (model prog w) A env fun e s' => R (.error e) s') s₁) (notedBy (model prog w) A env fun e s' => R (.error e) s') s)
    (n : Nat) (h : I n s) :
    codeAny (model prog w) A (.compLoop (.SetComp elt [⟨t0, i0, ifs0, 0⟩, ⟨t1, i1, ifs1, 0⟩] scope pos) 0 it acc env) R s := by
  refine codeAny_loop rfl I (fun n s hI => ?_) n h
  show wpAny _ A ((compTurn (.SetComp elt [⟨t0, i0, ifs0, 0⟩, ⟨t1, i1, ifs1, 0⟩] scope pos) 0 it acc env).onRaise (fun x => do noteFrame x env; theTreesLotGoes x)) _ _ s
  refine wpAny_noted ?_
  rw [ctS_out]
  refine wpAny_bind (wpAny_standAt (wpAny_bind (wpAny_mono (turn n s hI) (fun r s₁ h₁ => ?_) fun _ _ h' => h')))
  cases r with
  | none => exact wpAny_pure h₁
  | some v =>
    refine wpAny_bind (wpAny_mono h₁ (fun _ s₁' h₁' => ?_) fun _ _ h' => h')
    refine wpAny_bind (wpAny_mono h₁' (fun _ s₂ h₂ => wpAny_bind (wpAny_mono h₂ (fun ok s₃ h₃ => ?_) fun _ _ h' => h')) fun _ _ h' => h')
    cases ok with
    | false => exact wpAny_pure ⟨rfl, h₃⟩
    | true =>
      refine wpAny_bind (wpAny_mono h₃ (fun x s₄ h₄ => ?_) fun _ _ h' => h')
      refine wpAny_bind (wpAny_standAt (wpAny_bind (wpAny_of_eq (hs x) (wpAny_bind (wpAny_holding (wpAny_mono h₄ (fun it1 s₅ h₅ => ?_) fun _ _ h' => h'))))))
      refine wpAny_bind (wpAny_runOwn ?_)
      rw [Around.mark_none]
      refine codeAny_mono h₅ fun r s' hr => ?_
      cases r with
      | ok f =>
        first
          | exact wpAny_pure ⟨rfl, hr⟩
          | exact wpAny_bind (wpAny_pure (wpAny_pure ⟨rfl, hr⟩))
      | error e => exact hr.elim
/-- the loop of the second -/
theorem clS_in (I : Nat → Shared → Prop)
    (turn : ∀ n s, I n s → wpAny (model prog w) A (pyNext it) (fun r s₁ => match r with
      | none => R (.ok .next) s₁
      | some v => wpAny (model prog w) A (letOwnedTupleGo t1 it v) (fun _ s₁' => wpAny (model prog w) A (assign t1 env v) (fun _ s₂ =>
          wpAny (model prog w) A (forIn ifs1 true fun c r => if r = true then do let ok ← isTrue c env (eval c env); pure (ForInStep.yield ok) else pure (ForInStep.yield r)) (fun ok s₃ =>
            if ok = true then wpAny (model prog w) A (eval elt env) (fun x s₄ =>
              wpAny (model prog w) A (call (.builtin "set.add") [acc, x]) (fun _ s₅ => ∃ m, m < n ∧ I m s₅) (notedBy (model prog w) A env fun e s' => R (.error e) s') s₄) (notedBy (model prog w) A env fun e s' => R (.error e) s') s₃
            else ∃ m, m < n ∧ I m s₃) (notedBy (model prog w) A env fun e s' => R (.error e) s') s₂) (notedBy (model prog w) A env fun e s' => R (.error e) s') s₁') (notedBy (model prog w) A env fun e s' => R (.error e) s') s₁) (notedBy (model prog w) A env fun e s' => R (.error e) s') s)
    (n : Nat) (h : I n s) :
    codeAny (model prog w) A (.compLoop (.SetComp elt [⟨t0, i0, ifs0, 0⟩, ⟨t1, i1, ifs1, 0⟩] scope pos) 1 it acc env) R s := by
  refine codeAny_loop rfl I (fun n s hI => ?_) n h
  show wpAny _ A ((compTurn (.SetComp elt [⟨t0, i0, ifs0, 0⟩, ⟨t1, i1, ifs1, 0⟩] scope pos) 1 it acc env).onRaise (fun x => do noteFrame x env; theTreesLotGoes x)) _ _ s
  refine wpAny_noted ?_
  rw [ctS_in]
  refine wpAny_bind (wpAny_standAt (wpAny_bind (wpAny_mono (turn n s hI) (fun r s₁ h₁ => ?_) fun _ _ h' => h')))
  cases r with
  | none => exact wpAny_pure h₁
  | some v =>
    refine wpAny_bind (wpAny_mono h₁ (fun _ s₁' h₁' => ?_) fun _ _ h' => h')
    refine wpAny_bind (wpAny_mono h₁' (fun _ s₂ h₂ => wpAny_bind (wpAny_mono h₂ (fun ok s₃ h₃ => ?_) fun _ _ h' => h')) fun _ _ h' => h')
    cases ok with
    | false => exact wpAny_pure ⟨rfl, h₃⟩
    | true =>
      exact wpAny_bind (wpAny_bind (wpAny_mono h₃ (fun x s₄ h₄ => wpAny_bind (wpAny_standAt (wpAny_bind (wpAny_mono h₄ (fun _ s₅ h₅ => wpAny_pure (wpAny_pure ⟨rfl, h₅⟩)) fun _ _ h' => h')))) fun _ _ h' => h'))
theorem csS_ok (h0 : codeAny (model prog w) A (.compLoop (.SetComp elt [⟨t0, i0, ifs0, 0⟩, ⟨t1, i1, ifs1, 0⟩] scope pos) 1 it acc env) R s)
    (h : wpAny (model prog w) A (pyIter it) (fun it' s' => codeAny (model prog w) A (.compLoop (.SetComp elt [⟨t0, i0, ifs0, 0⟩, ⟨t1, i1, ifs1, 0⟩] scope pos) 1 it' acc env) R s')
      (notedBy (model prog w) A env fun x s' => R (.error x) s') s) :
    codeAny (model prog w) A (.compStart (.SetComp elt [⟨t0, i0, ifs0, 0⟩, ⟨t1, i1, ifs1, 0⟩] scope pos) 1 it acc env) R s := by
  refine codeAny_of_tree ?_
  show wpAny _ _ ((compStart (.SetComp elt [⟨t0, i0, ifs0, 0⟩, ⟨t1, i1, ifs1, 0⟩] scope pos) 1 it acc env).onRaise (fun x => do noteFrame x env; standAt theWindowsPlace)) _ _ s
  refine wpAny_notedAt ?_
  unfold compStart
  show wpAny _ _ (ask >>= _) _ _ s
  refine wpAny_bind (wpAny_askSetting (wpAny_ite ?_))
  split
  · first
      | exact wpAny_bind (wpAny_pure (wpAny_pure (And.intro rfl h0)))
      | exact wpAny_pure (And.intro rfl h0)
  · first
      | exact wpAny_bind (wpAny_rule (wpAny_bind (wpAny_standAt (wpAny_bind (wpAny_mono h (fun it' s' h' => wpAny_pure (And.intro rfl h')) fun _ _ x => x)))))
      | (refine wpAny_bind (wpAny_rule ?_); show wpAny _ _ (standAt i1.pos >>= _) _ _ s; exact wpAny_bind (wpAny_standAt (wpAny_bind (wpAny_mono h (fun it' s' h' => wpAny_pure (And.intro rfl h')) fun _ _ x => x))))
end


section
variable {X : Cx}
def tSc2 (w : World) (wi : TI) (g : TG) (tt : TT) (wi1 : TI) (g1 : TG) (tt1 : TT) (te : TE) (vs vs1 : List Nat) : TE := fun σ H Q => wi σ H fun J H1 => ∀ D, H1 D = none → ∃ W : Nat → Nat → Hp → Prop, (∃ m, W 0 m (upd H1 D (SetO w D (fun _ => false) 0))) ∧ ∀ i m H, W i m H →
  (J.stop i H ∧ Q (.ref D) H) ∨ (J.go i H ∧ ∃ Nx : Hp → Prop, (∀ H', Nx H' → ∃ m', m' < m ∧ W (i + 1) m' H') ∧ ∀ x H', J.yld i H x H' → g x (wipe σ vs) H' fun σ2 H2 => wipe σ2 vs = wipe σ vs ∧ tt σ2 H2 fun b H3 =>
    if b = true then wi1 σ2 H3 fun J1 H4 => ∃ W1 : Nat → Nat → Hp → Prop, (∃ m, W1 0 m H4) ∧ ∀ j k H, W1 j k H →
      (J1.stop j H ∧ Nx H) ∨ (J1.go j H ∧ ∃ Nx1 : Hp → Prop, (∀ H', Nx1 H' → ∃ k', k' < k ∧ W1 (j + 1) k' H') ∧ ∀ x H', J1.yld j H x H' → g1 x (wipe σ2 vs1) H' fun σ3 H5 => wipe σ3 vs1 = wipe σ2 vs1 ∧ tt1 σ3 H5 fun b H6 =>
        if b = true then te σ3 H6 fun y H7 => ∃ (c : Int) (S : Int → Bool) (n : Nat), y = .int c ∧ H7 D = some (SetO w D S n) ∧ n + 1 < scanBound ∧ Nx1 (upd H7 D (SetO w D (fun j => S j || decide (j = c)) (if S c = true then n else n + 1))) else Nx1 H6)
    else Nx H3)
theorem sc2_core {pins : List (Addr × Obj)} {s : Shared} {σ : L2.St} {H : Hp} {Q : VK} {elt tg iter tg1 iter1 : Expr} {ifs ifs1 : List Expr} {scope : Scope} {own : List (PySem.Str × Nat)} {vs1 : List Nat} {pos pos' : Pos} {wi wi1 : TI} {g g1 : TG} {tt tt1 : TT} {te : TE} {use : Option (Value → Sem Unit)} {Qf : Value → Shared → Prop}
    (hc : X.calm = true) (hN : X.N.Nodup) (I : Inv X pins σ H s) (hi : PI X tg iter wi) (ok : BlkOk X.N X.env.scope scope own) (hv : ∀ i ∈ vs1, i ∈ own.map (·.2))
    (hg : ∀ (s : Shared) (H : Hp) (C : Addr) (cl : List (PySem.Str × Addr)) (fp : List Addr), PG (X.blk s H scope (compEnvC scope cl C X.env) fp) tg g) (ht : ∀ (s : Shared) (H : Hp) (C : Addr) (cl : List (PySem.Str × Addr)) (fp : List Addr), PTs (X.blk s H scope (compEnvC scope cl C X.env) fp) ifs tt)
    (he : ∀ (s : Shared) (H : Hp) (C : Addr) (cl : List (PySem.Str × Addr)) (fp : List Addr), PE (X.blk s H scope (compEnvC scope cl C X.env) fp) elt te) (hs : ∀ x, foldedSetIterable iter X.env x = pure x)
    (hi1 : ∀ (s : Shared) (H : Hp) (C : Addr) (cl : List (PySem.Str × Addr)) (fp : List Addr), PI (X.blk s H scope (compEnvC scope cl C X.env) fp) tg1 iter1 wi1)
    (hg1 : ∀ (s : Shared) (H : Hp) (C : Addr) (cl : List (PySem.Str × Addr)) (fp : List Addr), PG (X.blk s H scope (compEnvC scope cl C X.env) fp) tg1 g1)
    (ht1 : ∀ (s : Shared) (H : Hp) (C : Addr) (cl : List (PySem.Str × Addr)) (fp : List Addr), PTs (X.blk s H scope (compEnvC scope cl C X.env) fp) ifs1 tt1)
    (hs1 : ∀ env x, foldedSetIterable iter1 env x = pure x)
    (h : tSc2 X.w wi g tt wi1 g1 tt1 te (own.map (·.2)) vs1 σ H Q)
    (hRR : ∀ D C s' m H', Inv X pins σ H' s' → Q (.ref D) H' → s'.heap.Ns C m → FpOk X pins H' C → compPost (model X.prog X.w) X.A X.xe use Qf (.ref D) C (.ok .next) s') :
    wpAny (model X.prog X.w) X.A (comprehension (.SetComp elt [⟨tg, iter, ifs, 0⟩, ⟨tg1, iter1, ifs1, 0⟩] scope pos) scope X.env pos' (newSet (.type "set")) false (eval iter X.env) use) Qf X.xe s := by
  have hfree : ∀ y ∈ scope.names, y.2 = .free → ∃ c, X.env.cells.lookup y.1 = some c := fun y hy e => by
    rcases ok.free y hy e with k | k
    · exact I.ok.has _ (.inl k)
    · exact I.ok.has _ (.inr k)
  refine wpAny_comprehension_free (use := use) rfl hs (closure_ok hfree) ok.kind (fun y hy e => by rw [ok.uniq y hy, e])
    (thn (hi.run pins s σ H _ I h) fun xv s1 hx => thn hx fun itv s2 h2 => ?_)
  obtain ⟨it, fp, tn, J, H2, e, I2, T, st2, f2, q⟩ := h2
  subst e
  refine PpSet.newSet_ok (newEnv_comp ?_)
  generalize hD : s2.heap.objs.size = D
  have hDn : H2 D = none := I2.hok.fresh (Nat.le_of_eq hD)
  obtain ⟨W, ⟨m0, w0⟩, turn⟩ := q D hDn
  -- the new list
  generalize hs3 : ({ s2 with heap := s2.heap.push { cls := .type "set", dict := none, data := .set #[] 0 (.fresh 0 0 (!X.w.params.followText "set-order")) } } : Shared) = s3
  have I3 : Inv X pins σ (upd H2 D (SetO X.w D (fun _ => false) 0)) s3 := by
    rw [← hs3]
    refine I2.laid (t' := s2.toks) (fun b o e => Heap.get?_push_of_some _ e) (Nat.le_of_eq hD) ?_
    rw [← hD]
    exact setO_new (setR_fresh X.w)
  have h3 : s3.heap = s2.heap.push { cls := .type "set", dict := none, data := .set #[] 0 (.fresh 0 0 (!X.w.params.followText "set-order")) } := by rw [← hs3]
  have sz : ∀ b ∈ fp, b < s2.heap.objs.size := fun b hb => by
    obtain ⟨o, e, _⟩ := T.obj _ _ st2 b hb
    exact Heap.lt_size e
  have f3 : ∀ b ∈ fp, FpOk X pins (upd H2 D (SetO X.w D (fun _ => false) 0)) b ∧ b < s3.heap.objs.size := fun b hb => by
    have hlt := sz b hb
    refine ⟨⟨?_, (f2 b hb).2⟩, by rw [h3, Heap.size_push]; exact Nat.lt_succ_of_lt hlt⟩
    rw [upd_ne (by rw [← hD]; exact Nat.ne_of_lt hlt)]
    exact (f2 b hb).1
  have st3 : tn 0 s3.heap := T.keep _ _ _ st2 fun b _ o e => by rw [h3]; exact Heap.get?_push_of_some _ e
  have I4 := block_start I3 ok hN f3
  have pg := hg s3 (upd H2 D (SetO X.w D (fun _ => false) 0)) s3.heap.objs.size (cellsFrom (s3.heap.objs.size + 1) scope.names (cloFrom X.env.cells scope.names [])) fp
  have pt := ht s3 (upd H2 D (SetO X.w D (fun _ => false) 0)) s3.heap.objs.size (cellsFrom (s3.heap.objs.size + 1) scope.names (cloFrom X.env.cells scope.names [])) fp
  have pe := he s3 (upd H2 D (SetO X.w D (fun _ => false) 0)) s3.heap.objs.size (cellsFrom (s3.heap.objs.size + 1) scope.names (cloFrom X.env.cells scope.names [])) fp
  have pi1 := hi1 s3 (upd H2 D (SetO X.w D (fun _ => false) 0)) s3.heap.objs.size (cellsFrom (s3.heap.objs.size + 1) scope.names (cloFrom X.env.cells scope.names [])) fp
  have pg1 := hg1 s3 (upd H2 D (SetO X.w D (fun _ => false) 0)) s3.heap.objs.size (cellsFrom (s3.heap.objs.size + 1) scope.names (cloFrom X.env.cells scope.names [])) fp
  have pt1 := ht1 s3 (upd H2 D (SetO X.w D (fun _ => false) 0)) s3.heap.objs.size (cellsFrom (s3.heap.objs.size + 1) scope.names (cloFrom X.env.cells scope.names [])) fp
  show codeAny _ _ (.compStart (.SetComp elt [⟨tg, iter, ifs, 0⟩, ⟨tg1, iter1, ifs1, 0⟩] scope pos) 0 (.ref it) (.ref D) (compEnvC scope (cellsFrom (s3.heap.objs.size + 1) scope.names (cloFrom X.env.cells scope.names [])) s3.heap.objs.size X.env)) (compPost (model X.prog X.w) X.A X.xe use Qf (.ref D) s3.heap.objs.size) { s3 with heap := pushCells (s3.heap.push { cls := .type "dict", data := .dict #[] }) scope.names }
  have nfp : ∀ b ∈ fp, (upd H2 D (SetO X.w D (fun _ => false) 0)) b = none := fun b hb => (f3 b hb).1.1
  generalize hce : compEnvC scope (cellsFrom (s3.heap.objs.size + 1) scope.names (cloFrom X.env.cells scope.names [])) s3.heap.objs.size X.env = ce at I4 pg pt pe pi1 pg1 pt1 ⊢
  have cL : ce.locals = s3.heap.objs.size := by subst hce; rfl
  generalize hH3 : upd H2 D (SetO X.w D (fun _ => false) 0) = H3 at I3 I4 pg pt pe pi1 pg1 pt1 w0 nfp f3
  generalize hs4 : ({ s3 with heap := pushCells (s3.heap.push { cls := .type "dict", data := .dict #[] }) scope.names } : Shared) = s4 at I4 ⊢
  have st4 : tn 0 s4.heap := T.keep _ _ _ st3 fun b _ o e => by rw [← hs4]; exact pushCells_keeps _ _ _ _ (Heap.get?_push_of_some _ e)
  have stat : ∀ {σ' : L2.St} {H' : Hp} {s' : Shared}, Inv (X.blk s3 H3 scope ce fp) [] σ' H' s' → (∀ b ∈ fp, H' b = none) → ∀ b ∈ fp, FpOk (X.blk s3 H3 scope ce fp) [] H' b := fun {σ' H' s'} I' hn b hb =>
    ⟨hn b hb, (I'.ok.exf b hb).1, I'.ok.exfs b hb, .inl hb, fun x c e => (I'.ok.exf b hb).2 x c e, fun p hp => absurd (show p ∈ ([] : List (Addr × Obj)) ++ [] from hp) (by simp)⟩
  have loop : codeAny (model X.prog X.w) X.A (.compLoop (.SetComp elt [⟨tg, iter, ifs, 0⟩, ⟨tg1, iter1, ifs1, 0⟩] scope pos) 0 (.ref it) (.ref D) ce) (compPost (model X.prog X.w) X.A X.xe use Qf (.ref D) s3.heap.objs.size) s4 := by
    refine clS_out (hs1 ce) (fun n s' => ∃ i H', Inv (X.blk s3 H3 scope ce fp) [] (wipe σ (own.map (·.2))) H' s' ∧ tn i s'.heap ∧ (∀ b ∈ fp, H' b = none) ∧ W i n H') ?_ m0 ⟨0, H3, I4, st4, nfp, w0⟩
    rintro n s5 ⟨i, H5, I5, st5, n5, w5⟩
    rcases turn i n H5 w5 with ⟨stop, qq⟩ | ⟨go, Nx, hNx, step⟩
    · have td := T.done (X.blk s3 H3 scope ce fp) rfl rfl rfl hc i [] s5 _ H5 (fun _ _ => False) I5 (stat I5 n5) st5 stop
      refine thnF td fun r s6 ⟨hr, I6⟩ => ?_
      subst hr
      -- back in the def's context
      have I7 : Inv X pins σ H5 s6 := I3.call' (ch := fp) I6.os I6.base I6.hok I6.bare fun b hb => ⟨(f3 b hb).1.2.2.2.1, (f3 b hb).1.2.1, (f3 b hb).1.2.2.2.2.1, (f3 b hb).1.2.2.2.2.2⟩
      have nC : H5 s3.heap.objs.size = none := by
        have z : H5 ce.locals = none := I6.free
        rw [cL] at z
        exact z
      obtain ⟨m, hn, _⟩ := I6.loc
      have hn : s6.heap.Ns ce.locals m := hn
      rw [cL] at hn
      exact hRR D s3.heap.objs.size s6 m H5 I7 qq hn (I3.fpOk (Nat.le_refl _) nC)
    · have ti := T.item (X.blk s3 H3 scope ce fp) rfl rfl rfl hc i [] s5 _ H5 (fun _ _ => False) I5 (stat I5 n5) st5 go
      refine thnF ti fun r s6 ⟨u, hr, h6⟩ => ?_
      subst hr
      refine thnF h6 fun _ s7 ⟨x, H7, I7, r7, y7, st7, n7⟩ => ?_
      have I7' := I7.pinned (stat I7 n7) (T.obj _ _ st7)
      refine thnF (pg.run _ s7 _ H7 x u _ I7' r7 (step x H7 y7)) fun _ s8 ⟨σ8, H8, I8, hw8, q8⟩ => ?_
      refine thnF (pt.run _ s8 σ8 H8 _ I8 q8) fun b s9 ⟨H9, I9, q9⟩ => ?_
      -- the turn's end, from any slots that know what the block knew at its start
      have fin : ∀ {σ9 : L2.St} {s' : Shared} {H' : Hp}, Inv (X.blk s3 H3 scope ce fp) ([] ++ pinsAt fp s7.heap) σ9 H' s' → (wipe σ (own.map (·.2))).length = σ9.length → (∀ (j : Nat) v, (wipe σ (own.map (·.2)))[j]? = some (some v) → σ9[j]? = some (some v)) → Nx H' →
          ∃ m, m < n ∧ ∃ i H', Inv (X.blk s3 H3 scope ce fp) [] (wipe σ (own.map (·.2))) H' s' ∧ tn i s'.heap ∧ (∀ b ∈ fp, H' b = none) ∧ W i m H' := fun {σ9 s' H'} I' hl hk nx => by
        obtain ⟨m', hm, w'⟩ := hNx H' nx
        have pin' : ∀ b ∈ fp, ∀ o, s7.heap.get? b = some o → s'.heap.get? b = some o ∧ H' b = none := fun b hb o e =>
          let z := I'.pin (b, o) (List.mem_append_right _ (List.mem_append_right _ (mem_pinsAt hb e)))
          ⟨z.1, z.2.1⟩
        refine ⟨m', hm, i + 1, H', (I'.unpinned (pins := [])).weak hl hk, T.keep _ _ _ st7 fun b hb o e => (pin' b hb o e).1, fun b hb => ?_, w'⟩
        obtain ⟨o, e, _⟩ := T.obj _ _ st7 b hb
        exact (pin' b hb o e).2
      have hl8 : (wipe σ (own.map (·.2))).length = σ8.length := by rw [← hw8, wipe_length]
      have hk8 : ∀ (j : Nat) v, (wipe σ (own.map (·.2)))[j]? = some (some v) → σ8[j]? = some (some v) := fun j v e => by
        rw [← hw8] at e
        exact (wipe_some e).1
      have hk9 : ∀ (j : Nat) v, (wipe σ (own.map (·.2)))[j]? = some (some v) → (wipe σ8 vs1)[j]? = some (some v) := fun j v e => by
        rw [← hw8] at e
        obtain ⟨e1, e2⟩ := wipe_some e
        rw [wipe_out fun z => e2 (hv j z)]
        exact e1
      cases b with
      | false =>
        simp only [Bool.false_eq_true, if_false] at q9 ⊢
        exact fin I9 hl8 hk8 q9
      | true =>
        simp only [if_true] at q9 ⊢
        refine thnF (pi1.run _ s9 σ8 H9 _ I9 q9) fun xv s10 hx => thnF hx fun itv s11 h11 => ?_
        obtain ⟨it1, fp1, tn1, J1, H11, e1, I11, T1, st11, f11, W1, ⟨m1, w1⟩, turn1⟩ := h11
        subst e1
        -- the inner loop
        have stat1 : ∀ {H' : Hp}, (∀ b ∈ fp1, H' b = none) → ∀ b ∈ fp1, FpOk (X.blk s3 H3 scope ce fp) ([] ++ pinsAt fp s7.heap) H' b := fun hn b hb => ⟨hn b hb, (f11 b hb).2⟩
        have loop1 : codeAny (model X.prog X.w) X.A (.compLoop (.SetComp elt [⟨tg, iter, ifs, 0⟩, ⟨tg1, iter1, ifs1, 0⟩] scope pos) 1 (.ref it1) (.ref D) ce)
            (fun r s' => match r with
              | .ok _ => ∃ m, m < n ∧ ∃ i H', Inv (X.blk s3 H3 scope ce fp) [] (wipe σ (own.map (·.2))) H' s' ∧ tn i s'.heap ∧ (∀ b ∈ fp, H' b = none) ∧ W i m H'
              | .error _ => False) s11 := by
          refine clS_in (fun k s' => ∃ j H', Inv (X.blk s3 H3 scope ce fp) ([] ++ pinsAt fp s7.heap) (wipe σ8 vs1) H' s' ∧ tn1 j s'.heap ∧ (∀ b ∈ fp1, H' b = none) ∧ W1 j k H') ?_ m1 ⟨0, H11, I11.weak (wipe_length _ _) (fun j v e => (wipe_some e).1), st11, fun b hb => (f11 b hb).1, w1⟩
          rintro k s12 ⟨j, H12, I12, st12, n12, w12⟩
          rcases turn1 j k H12 w12 with ⟨stop1, nx1⟩ | ⟨go1, Nx1, hNx1, step1⟩
          · refine thnF (T1.done (X.blk s3 H3 scope ce fp) rfl rfl rfl hc j _ s12 (wipe σ8 vs1) H12 (fun _ _ => False) I12 (stat1 n12) st12 stop1) fun r s13 ⟨hr, I13⟩ => ?_
            subst hr
            exact fin I13 (hl8.trans (wipe_length σ8 vs1).symm) hk9 nx1
          · refine thnF (T1.item (X.blk s3 H3 scope ce fp) rfl rfl rfl hc j _ s12 (wipe σ8 vs1) H12 (fun _ _ => False) I12 (stat1 n12) st12 go1) fun r s13 ⟨u1, hr, h13⟩ => ?_
            subst hr
            refine thnF h13 fun _ s14 ⟨x1, H14, I14, r14, y14, st14, n14⟩ => ?_
            have I14' := I14.pinned (stat1 n14) (T1.obj _ _ st14)
            refine thnF (pg1.run _ s14 (wipe σ8 vs1) H14 x1 u1 _ I14' r14 (step1 x1 H14 y14)) fun _ s15 ⟨σ15, H15, I15, hw15, q15⟩ => ?_
            refine thnF (pt1.run _ s15 σ15 H15 _ I15 q15) fun b1 s16 ⟨H16, I16, q16⟩ => ?_
            have fin1 : ∀ {s' : Shared} {H' : Hp}, Inv (X.blk s3 H3 scope ce fp) (([] ++ pinsAt fp s7.heap) ++ pinsAt fp1 s14.heap) σ15 H' s' → Nx1 H' → ∃ m, m < k ∧ ∃ j H', Inv (X.blk s3 H3 scope ce fp) ([] ++ pinsAt fp s7.heap) (wipe σ8 vs1) H' s' ∧ tn1 j s'.heap ∧ (∀ b ∈ fp1, H' b = none) ∧ W1 j m H' := fun {s' H'} I' nx => by
              obtain ⟨m', hm, w'⟩ := hNx1 H' nx
              have pin' : ∀ b ∈ fp1, ∀ o, s14.heap.get? b = some o → s'.heap.get? b = some o ∧ H' b = none := fun b hb o e =>
                let z := I'.pin (b, o) (List.mem_append_right _ (List.mem_append_right _ (mem_pinsAt hb e)))
                ⟨z.1, z.2.1⟩
              refine ⟨m', hm, j + 1, H', I'.unpinned.weak (by rw [← hw15, wipe_length]) (fun j v e => by rw [← hw15] at e; exact (wipe_some e).1), T1.keep _ _ _ st14 fun b hb o e => (pin' b hb o e).1, fun b hb => ?_, w'⟩
              obtain ⟨o, e, _⟩ := T1.obj _ _ st14 b hb
              exact (pin' b hb o e).2
            cases b1 with
            | false =>
              simp only [Bool.false_eq_true, if_false] at q16 ⊢
              exact fin1 I16 q16
            | true =>
              simp only [if_true] at q16 ⊢
              refine thnF (pe.run _ s16 σ15 H16 _ I16 q16) fun z s17 ⟨yv, H17, I17, r17, cb, S0, n0, ey, hD17, hz17, nx⟩ => ?_
              exact thnF (mt_sadd (X := X.blk s3 H3 scope ce fp) _ s17 σ15 H17 (.ref D) [yv] (.ref D) [z] (fun v H' => v = .non ∧ Nx1 H') I17 rfl (.cons r17 .nil) ⟨D, cb, S0, n0, rfl, by rw [ey], hD17, hz17, rfl, nx⟩) fun _ s18 ⟨v18, H18, I18, _, e18, q18⟩ => fin1 I18 q18
        exact csS_ok loop1 (T1.self X.A 0 _ _ _ st11 loop1)
  exact PpSet.codeAny_compStart_set loop (T.self X.A 0 _ _ _ st4 loop)
theorem pe_sc2 {elt tg iter tg1 iter1 : Expr} {ifs ifs1 : List Expr} {scope : Scope} {own : List (PySem.Str × Nat)} {vs1 : List Nat} {pos : Pos} {wi wi1 : TI} {g g1 : TG} {tt tt1 : TT} {te : TE} (hc : X.calm = true) (hN : X.N.Nodup) (hi : PI X tg iter wi) (ok : BlkOk X.N X.env.scope scope own) (hv : ∀ i ∈ vs1, i ∈ own.map (·.2))
    (hg : ∀ (s : Shared) (H : Hp) (C : Addr) (cl : List (PySem.Str × Addr)) (fp : List Addr), PG (X.blk s H scope (compEnvC scope cl C X.env) fp) tg g) (ht : ∀ (s : Shared) (H : Hp) (C : Addr) (cl : List (PySem.Str × Addr)) (fp : List Addr), PTs (X.blk s H scope (compEnvC scope cl C X.env) fp) ifs tt)
    (hi1 : ∀ (s : Shared) (H : Hp) (C : Addr) (cl : List (PySem.Str × Addr)) (fp : List Addr), PI (X.blk s H scope (compEnvC scope cl C X.env) fp) tg1 iter1 wi1)
    (hg1 : ∀ (s : Shared) (H : Hp) (C : Addr) (cl : List (PySem.Str × Addr)) (fp : List Addr), PG (X.blk s H scope (compEnvC scope cl C X.env) fp) tg1 g1) (ht1 : ∀ (s : Shared) (H : Hp) (C : Addr) (cl : List (PySem.Str × Addr)) (fp : List Addr), PTs (X.blk s H scope (compEnvC scope cl C X.env) fp) ifs1 tt1)
    (he : ∀ (s : Shared) (H : Hp) (C : Addr) (cl : List (PySem.Str × Addr)) (fp : List Addr), PE (X.blk s H scope (compEnvC scope cl C X.env) fp) elt te) (hs : ∀ x, foldedSetIterable iter X.env x = pure x := by intro _; rfl) (hs1 : ∀ env x, foldedSetIterable iter1 env x = pure x := by intro _ _; rfl) :
    PE X (.SetComp elt [⟨tg, iter, ifs, 0⟩, ⟨tg1, iter1, ifs1, 0⟩] scope pos) (tSc2 X.w wi g tt wi1 g1 tt1 te (own.map (·.2)) vs1) := by
  refine ⟨fun pins s σ H Q I h => ?_⟩
  rw [PpSet.eval_SetComp]
  refine sc2_core hc hN I hi ok hv hg ht he hs hi1 hg1 ht1 hs1 h fun D C s' m H' I' q hn f => ⟨m, hn, fun h'' sb => ?_⟩
  obtain ⟨f0, f1, f2, f3, f4, f5⟩ := f
  exact ⟨.ref D, H', I'.turned (t' := s'.toks) (fun b o hb e => (sb.2 b hb).trans e) f0 f1 f3 f4 f5, rfl, q⟩
end
def ScIn (w : World) (J1 : It) (g1 : TG) (tt1 : TT) (te : TE) (σ2 : L2.St) (vs1 : List Nat) (D : Addr) (H4 : Hp) (Nx : Hp → Prop) : Prop := ∃ W1 : Nat → Nat → Hp → Prop, (∃ m, W1 0 m H4) ∧ ∀ j k H, W1 j k H →
  (J1.stop j H ∧ Nx H) ∨ (J1.go j H ∧ ∃ Nx1 : Hp → Prop, (∀ H', Nx1 H' → ∃ k', k' < k ∧ W1 (j + 1) k' H') ∧ ∀ x H', J1.yld j H x H' → g1 x (wipe σ2 vs1) H' fun σ3 H5 => wipe σ3 vs1 = wipe σ2 vs1 ∧ tt1 σ3 H5 fun b H6 =>
    if b = true then te σ3 H6 fun y H7 => ∃ (c : Int) (S : Int → Bool) (n : Nat), y = .int c ∧ H7 D = some (SetO w D S n) ∧ n + 1 < scanBound ∧ Nx1 (upd H7 D (SetO w D (fun j => S j || decide (j = c)) (if S c = true then n else n + 1))) else Nx1 H6)
def ScGoal (w : World) (J : It) (g : TG) (tt : TT) (wi1 : TI) (g1 : TG) (tt1 : TT) (te : TE) (vs vs1 : List Nat) (σ : L2.St) (H1 : Hp) (Q : VK) : Prop := ∀ D, H1 D = none → ∃ W : Nat → Nat → Hp → Prop, (∃ m, W 0 m (upd H1 D (SetO w D (fun _ => false) 0))) ∧ ∀ i m H, W i m H →
  (J.stop i H ∧ Q (.ref D) H) ∨ (J.go i H ∧ ∃ Nx : Hp → Prop, (∀ H', Nx H' → ∃ m', m' < m ∧ W (i + 1) m' H') ∧ ∀ x H', J.yld i H x H' → g x (wipe σ vs) H' fun σ2 H2 => wipe σ2 vs = wipe σ vs ∧ tt σ2 H2 fun b H3 =>
    if b = true then wi1 σ2 H3 fun J1 H4 => ScIn w J1 g1 tt1 te σ2 vs1 D H4 Nx else Nx H3)
theorem s_sc2 {w : World} {wi wi1 : TI} {g g1 : TG} {tt tt1 : TT} {te : TE} {vs vs1 : List Nat} {σ : L2.St} {H : Hp} {Q : VK} (h : wi σ H fun J H1 => ScGoal w J g tt wi1 g1 tt1 te vs vs1 σ H1 Q) : tSc2 w wi g tt wi1 g1 tt1 te vs vs1 σ H Q := h
theorem s_iSs {w : World} {K : PySem.W.Frag} {wi1 : TI} {g g1 : TG} {tt tt1 : TT} {te : TE} {vs vs1 : List Nat} {σ : L2.St} {H : Hp} {Q : VK} {x : V} {xs : List V} (hS : Seq K H x xs) (q : ∀ (J : It) (G : Hp → Prop), Walk J xs.length G (YAt xs) → (∀ H', Same H H' → G H') → ScGoal w J g tt wi1 g1 tt1 te vs vs1 σ H Q) :
    ∃ a xs, x = .ref a ∧ ((SqL K H a xs ∧ ScGoal w (Itl K a) g tt wi1 g1 tt1 te vs vs1 σ H Q) ∨ (SqT K H a xs ∧ ScGoal w (Itt K a) g tt wi1 g1 tt1 te vs vs1 σ H Q)) := by
  obtain ⟨p, e, h | h⟩ := hS
  · exact ⟨p, xs, e, .inl ⟨h, q _ _ walk_list fun H' s => sqL_to s h⟩⟩
  · exact ⟨p, xs, e, .inr ⟨h, q _ _ walk_tup fun H' s => sqT_to s h⟩⟩
theorem s_iLs {w : World} {K : PySem.W.Frag} {g1 : TG} {tt1 : TT} {te : TE} {σ2 : L2.St} {vs1 : List Nat} {D p : Addr} {xs : List V} {H : Hp} {Nx : Hp → Prop} (hS : SqL K H p xs) (q : ScIn w (Itl K p) g1 tt1 te σ2 vs1 D H Nx) :
    ∃ a, V.ref p = .ref a ∧ (∃ xs, SqL K H a xs) ∧ ScIn w (Itl K a) g1 tt1 te σ2 vs1 D H Nx := ⟨p, rfl, ⟨xs, hS⟩, q⟩
theorem sc_out {w : World} {J : It} {n : Nat} {G : Hp → Prop} {Y : Nat → Hp → V → Hp → Prop} {wi1 : TI} {g g1 : TG} {tt tt1 : TT} {te : TE} {vs vs1 : List Nat} {σ : L2.St} {H1 : Hp} {Q : VK} (wk : Walk J n G Y) (Pv : Addr → Nat → Hp → Prop) (h0 : ∀ D, H1 D = none → Pv D 0 (upd H1 D (SetO w D (fun _ => false) 0))) (hG : ∀ D i H, Pv D i H → G H)
    (hs : ∀ D i x H H', H1 D = none → i < n → Pv D i H → Y i H x H' → g x (wipe σ vs) H' fun σ2 H2 => wipe σ2 vs = wipe σ vs ∧ tt σ2 H2 fun b H3 => if b = true then wi1 σ2 H3 fun J1 H4 => ScIn w J1 g1 tt1 te σ2 vs1 D H4 (Pv D (i + 1)) else Pv D (i + 1) H3)
    (hd : ∀ D H, H1 D = none → Pv D n H → Q (.ref D) H) : ScGoal w J g tt wi1 g1 tt1 te vs vs1 σ H1 Q := by
  intro D hD
  refine ⟨fun i m H => m = n - i ∧ i ≤ n ∧ Pv D i H, ⟨n, by simp, Nat.zero_le _, h0 D hD⟩, ?_⟩
  rintro i m H ⟨rfl, hi, p⟩
  have q := hG D i H p
  by_cases hlt : i < n
  · exact .inr ⟨wk.goes i H hlt q, Pv D (i + 1), fun H' p' => ⟨n - (i + 1), by omega, rfl, hlt, p'⟩, fun x H' y => hs D i x H H' hD hlt p (wk.yields i H x H' hlt q y)⟩
  · have e : i = n := by omega
    subst e
    exact .inl ⟨wk.stops H q, hd D H hD p⟩
theorem sc_in {w : World} {J : It} {n : Nat} {G : Hp → Prop} {Y : Nat → Hp → V → Hp → Prop} {g1 : TG} {tt1 : TT} {te : TE} {vs1 : List Nat} {σ2 : L2.St} {D : Addr} {H4 : Hp} {Nx : Hp → Prop} (wk : Walk J n G Y) (Pw : Nat → Hp → Prop) (h0 : Pw 0 H4) (hG : ∀ i H, Pw i H → G H)
    (hs : ∀ j x H H', j < n → Pw j H → Y j H x H' → g1 x (wipe σ2 vs1) H' fun σ3 H5 => wipe σ3 vs1 = wipe σ2 vs1 ∧ tt1 σ3 H5 fun b H6 =>
      if b = true then te σ3 H6 fun y H7 => ∃ (c : Int) (S : Int → Bool) (n : Nat), y = .int c ∧ H7 D = some (SetO w D S n) ∧ n + 1 < scanBound ∧ Pw (j + 1) (upd H7 D (SetO w D (fun j => S j || decide (j = c)) (if S c = true then n else n + 1))) else Pw (j + 1) H6)
    (hd : ∀ H, Pw n H → Nx H) : ScIn w J g1 tt1 te σ2 vs1 D H4 Nx := by
  refine ⟨fun i m H => m = n - i ∧ i ≤ n ∧ Pw i H, ⟨n, by simp, Nat.zero_le _, h0⟩, ?_⟩
  rintro i m H ⟨rfl, hi, p⟩
  have q := hG i H p
  by_cases hlt : i < n
  · exact .inr ⟨wk.goes i H hlt q, Pw (i + 1), fun H' p' => ⟨n - (i + 1), by omega, rfl, hlt, p'⟩, fun x H' y => hs i x H H' hlt p (wk.yields i H x H' hlt q y)⟩
  · have e : i = n := by omega
    subst e
    exact .inl ⟨wk.stops H q, hd H p⟩
/-- the set at D holds exactly the whole numbers ms, each once -/
def SetN (w : World) (D : Addr) (ms : List Nat) (H : Hp) : Prop := ms.Nodup ∧ ∃ S, H D = some (SetO w D S ms.length) ∧ ∀ k : Int, S k = true ↔ ∃ m, m ∈ ms ∧ k = (m : Int)
theorem setN_add {w : World} {D : Addr} {ms : List Nat} {H : Hp} {m : Nat} (h : SetN w D ms H) : ∃ S n, H D = some (SetO w D S n) ∧ n = ms.length ∧
    SetN w D (if m ∈ ms then ms else ms ++ [m]) (upd H D (SetO w D (fun j => S j || decide (j = (m : Int))) (if S (m : Int) = true then n else n + 1))) := by
  obtain ⟨nd, S, e, hS⟩ := h
  refine ⟨S, _, e, rfl, ?_⟩
  by_cases hm : m ∈ ms
  · rw [if_pos hm]
    have hs : S (m : Int) = true := (hS _).mpr ⟨m, hm, rfl⟩
    refine ⟨nd, _, by rw [upd_same, if_pos hs], fun k => ?_⟩
    rw [Bool.or_eq_true, hS, decide_eq_true_iff]
    exact ⟨fun z => z.elim id fun z => ⟨m, hm, z⟩, .inl⟩
  · rw [if_neg hm]
    have hs : ¬ S (m : Int) = true := fun z => by
      obtain ⟨m', h1, h2⟩ := (hS _).mp z
      exact hm (by rw [show m = m' by omega]; exact h1)
    refine ⟨?_, _, by rw [upd_same, if_neg hs, List.length_append]; rfl, fun k => ?_⟩
    · rw [List.nodup_append]
      refine ⟨nd, List.pairwise_singleton .., fun a ha b hb e => ?_⟩
      rw [List.mem_singleton] at hb
      exact hm (by rw [← hb, ← e]; exact ha)
    · rw [Bool.or_eq_true, hS, decide_eq_true_iff]
      constructor
      · rintro (⟨x, h1, h2⟩ | h)
        · exact ⟨x, List.mem_append_left _ h1, h2⟩
        · exact ⟨m, List.mem_append_right _ (List.mem_singleton.mpr rfl), h⟩
      · rintro ⟨x, h1, h2⟩
        rcases List.mem_append.mp h1 with h1 | h1
        · exact .inl ⟨x, h1, h2⟩
        · rw [List.mem_singleton] at h1
          exact .inr (by rw [h2, h1])
theorem setN0 {w : World} {D : Addr} {H : Hp} : SetN w D [] (upd H D (SetO w D (fun _ => false) 0)) := by
  refine ⟨List.nodup_nil, _, upd_same, fun k => ?_⟩
  constructor
  · intro z
    cases z
  · rintro ⟨m, z, _⟩
    cases z
theorem same_none {H H' : Hp} {r : Addr} (s : Same H H') (h : H' r = none) : H r = none := by
  cases z : H r with
  | none => rfl
  | some u =>
    have := s _ _ z
    rw [h] at this
    cases this
/-! ### name = {k: v for ..} -/
section
variable {X : Cx}
theorem ps_setDc {i : Nat} {y : Str} {py : Pos} {kx vx tg iter : Expr} {ifs : List Expr} {scope : Scope} {own : List (Str × Nat)} {pos spos : Pos} {wi : TI} {g : TG} {tt : TT} {tk tv : TE} (hc : X.calm = true) (hN : X.N.Nodup) (hy : X.N[i]? = some y) (hyl : X.env.scope.names.lookup y = some .local)
    (hsw : swapsWith (.DictComp kx vx [⟨tg, iter, ifs, 0⟩] scope pos) (some (.Name y py)) spos.line X.env = pure true) (hi : PI X tg iter wi) (ok : BlkOk X.N X.env.scope scope own)
    (hg : ∀ (s : Shared) (H : Hp) (C : Addr) (cl : List (Str × Addr)) (fp : List Addr), PG (X.blk s H scope (compEnvC scope cl C X.env) fp) tg g) (ht : ∀ (s : Shared) (H : Hp) (C : Addr) (cl : List (Str × Addr)) (fp : List Addr), PTs (X.blk s H scope (compEnvC scope cl C X.env) fp) ifs tt)
    (hk : ∀ (s : Shared) (H : Hp) (C : Addr) (cl : List (Str × Addr)) (fp : List Addr), PE (X.blk s H scope (compEnvC scope cl C X.env) fp) kx tk)
    (he : ∀ (s : Shared) (H : Hp) (C : Addr) (cl : List (Str × Addr)) (fp : List Addr), PE (X.blk s H scope (compEnvC scope cl C X.env) fp) vx tv) (hs : ∀ x, foldedSetIterable iter X.env x = pure x := by intro _; rfl) :
    PS X (.Assign [.Name y py] (.DictComp kx vx [⟨tg, iter, ifs, 0⟩] scope pos) spos) (tAsg (tDc wi g tt tk tv (own.map (·.2))) (gName i)) := by
  refine ⟨fun pins s σ H D I h => ?_⟩
  rw [exec_Assign_Name_used _ _ _ _ hsw]
  refine wpAny_bind (wpAny_standAt (wpAny_bind ?_))
  show wpAny _ X.A (do let _ ← comprehension (.DictComp kx vx [⟨tg, iter, ifs, 0⟩] scope pos) scope X.env (firstIterPos [⟨tg, iter, ifs, 0⟩] pos) newDict false (eval iter X.env) (some (assign (.Name y py) X.env))) _ _ s
  have h : tDc wi g tt tk tv (own.map (·.2)) σ H (fun x H1 => gName i x σ H1 D.nx) := h
  refine wpAny_bind (thn (dc_core (Qf := fun _ s' => SP X pins D .next s') hc hN I hi ok hg ht hk he hs h fun L C s' m H' I' q hn f => ?_) fun _ s' hq => wpAny_pure (wpAny_pure hq))
  show wpAny _ _ (assign (.Name y py) X.env (.ref L)) _ _ _
  refine wpAny_assign_Name (store_ok2 (v := V.ref L) I' hN hy (.inl hyl) rfl (fun s2 I2 ⟨a, sb, ha⟩ => ?_) (.inr hyl))
  obtain ⟨f0, f1, f2, f3, f4, f5⟩ := f
  have haC : C ≠ a := by
    rcases ha with z | z
    · rw [z]; exact f1
    · exact fun e => f4 y a z e.symm
  refine ⟨m, hn.sameBut sb haC, fun h3 sb3 => ?_⟩
  exact ⟨_, H', I2.turned (t' := s2.toks) (fun b o hb e => (sb3.2 b hb).trans e) f0 f1 f3 f4 f5, q⟩
theorem sw_trueD {kx vx : Expr} {gs : List Comprehension} {scope : Scope} {pos py : Pos} {y : Str} {l : Nat} {env : Env} (hk : env.scope.kind = .function) (hy : env.scope.names.lookup y = some .local) (hl : (py.line == pos.line) = true)
    (ha : (scope.names.any fun (n, k) => n == y && (k == .local || k == .cell)) = false) : swapsWith (.DictComp kx vx gs scope pos) (some (.Name y py)) l env = pure true := by
  have ky : env.kindOf y = some .local := hy
  have hb : env.blockKind = .function := by unfold Env.blockKind; rw [hk]; rfl
  unfold swapsWith
  simp only [hb, ky, ha, Expr.pos, hl]
  rfl
end

end K53
local macro_rules | `(tactic| walk_at "s1") => `(tactic| with_reducible first
  | refine K53.s_seq ?_ | refine K53.s_asg ?_ | refine K53.s_name ?_ | refine K53.s_ret ?_ | refine K53.s_retN ?_ | refine K53.s_next ?_ | refine K53.s_brk ?_ | refine K53.s_drop ?_ | refine K53.s_if ?_
  | (refine K53.s_var (v := ?vv) ?hv ?_; (case hv => with_unfolding_all rfl))
  | refine K53.s_c ?_ | refine K53.s_op ?_ | refine K53.s_un ?_ | refine K53.s_addN ?_ | refine K53.s_add1 ?_ | refine K53.s_ltN ?_ | refine K53.s_leN ?_ | refine K53.s_gtN ?_ | refine K53.s_geN ?_ | refine K53.s_gt0 ?_ | refine K53.s_eqN ?_ | refine K53.s_neN ?_ | refine K53.s_eq0 ?_ | refine K53.s_I0 ?_ | refine K53.s_U ?_ | refine K53.s_eqi ?_ | refine K53.s_nei ?_
  | refine K53.s_test ?_ | refine K53.s_B ?_ | refine K53.s_bl ?_ | refine K53.s_and ?_ | refine K53.s_or ?_ | refine K53.s_not ?_ | refine K53.s_andV ?_ | refine K53.s_orV ?_ | refine K53.s_notV ?_ | refine K53.s_ifE ?_
  | refine K53.s_din ?_ | refine K53.s_dnotin ?_ | refine K53.s_dget ?_ | refine K53.s_dput ?_ | refine K53.s_srcK ?_ | refine K53.s_tpar ?_ | refine K53.s_pr ?_ | refine K53.s_sl ?_ | refine K53.s_noP ?_ | refine K53.s_part ?_ | refine K53.s_pi ?_ | refine K53.s_dc ?_ | refine K53.s_sc2 ?_ | refine K53.s_gc ?_ | refine K53.s_gn ?_ | refine K53.s_then ?_ | refine K53.s_int1 ?_ | refine K53.s_max2 ?_ | refine K53.s_min2 ?_ | refine K53.s_tYes ?_ | refine K53.s_for ?_ | refine K53.s_lc ?_ | refine K53.s_srcL ?_ | refine K53.s_srcS ?_ | refine K53.s_srcET ?_ | refine K53.s_srcT ?_ | refine K53.s_src1 ?_ | refine K53.s_src2 ?_ | refine K53.s_src3 ?_ | refine K53.s_srcE ?_ | refine K53.s_nil ?_ | refine K53.s_cons ?_ | refine K53.s_tup ?_ | refine K53.s_lst ?_ | refine K53.s_call ?_ | refine K53.s_cb ?_ | refine K53.s_itT ?_ | refine K53.s_itF ?_ | refine K53.s_itNT ?_ | refine K53.s_itNF ?_ | refine K53.s_isN ?_ | refine K53.s_notN ?_ | refine K53.s_bm ?_ | refine K53.s_fldR ?_)
local macro_rules | `(tactic| walk_at "s") => `(tactic| repeat (walk_at "s1"))
local macro_rules | `(tactic| walk_at "hg") => `(tactic| first
  | assumption | exact upd_same | (refine K53.get_up ?hgo ?hgn; (case hgn => assumption); (case hgo => walk_at "hg")) | (refine L2.Same.get ?hgs ?hgo; (case hgs => assumption); (case hgo => walk_at "hg")))
namespace K53
open PySem PySem.Spec PyProof.Rows L2
/-! ### is_whole -/
abbrev ov : Option Int → V
  | none => .non
  | some i => .int i
def isW (d : PyData) (lo hi : Option Int) : Bool :=
  match d with
  | .int i => lo.all (fun l => decide (l ≤ i)) && hi.all (fun h => decide (i ≤ h))
  | _ => false
abbrev N_is_whole : List Str := ["thing", "low", "high"]
theorem sc_is_whole : FnScope N_is_whole ["thing", "low", "high"] (defScope s_is_whole) := C8.fnScope_by (by decide +kernel)
def sp_is_whole : Sp := fun vs H Q _ => ∃ v d lo hi, vs = [v, ov lo, ov hi] ∧ Hd H v d ∧ Q (.bl (isW d lo hi)) H
section
variable {P : Program} {w : World} {K : PySem.W.Frag} {mg : Str → Option Value} {base : Heap}
theorem k_is_whole (T : TX K mg) : Keeps (L2.CX P w) P w K mg base d_is_whole N_is_whole 0 sp_is_whole := by
  intro cdv A outer s H vs Q E hr h
  obtain ⟨v, d, lo, hi, rfl, hv, q⟩ := h
  have nd := sc_is_whole.nd
  have hu := hu_of hr
  have hu64 := hr.units
  refine ⟨_, (pss_cons (ps_if (PW.pt (pw_or (pt_not (pt_val (pe_callB (call_isiK1 (K := K) rfl) (by rfl) T.b_isinstance (by decide +kernel) (pa_cons (pv 0) (pa_cons (pe_bltn (v := .ty "int") (by rfl) T.b_int (by decide +kernel) rfl) pa_nil))))) (pw_or1 (pt_val (pe_callB (call_isiK1 (K := K) rfl) (by rfl) T.b_isinstance (by decide +kernel) (pa_cons (pv 0) (pa_cons (pe_bltn (v := .ty "bool") (by rfl) T.b_bool (by decide +kernel) rfl) pa_nil))))))) (pss_one (ps_ret pe_bl)) pss_nil)
  (pss_cons (ps_if (PW.pt (pw_and (pt_cmp (pc_notN (pv 1))) (pw_and1 (pt_cmpR op_lt (pv 0) (pv 1) (nomark _))))) (pss_one (ps_ret pe_bl)) pss_nil)
  (pss_one (ps_ret (pe_or (pe_cmp (pc_isN (pv 2))) (pe_one (pe_cmpR op_le (pv 0) (pv 2) (nomark _)))))))), ?_⟩
  refine st_eq (σ := [some (v), some (ov lo), some (ov hi)]) rfl ?_
  walk_at "s"
  refine s_isiInt hv ?_
  walk_at "s"
  cases d
  case bool b =>
    refine s_noN rfl ?_
    walk_at "s"
    refine s_isiBool hv ?_
    walk_at "s"
    refine s_yes rfl ?_
    walk_at "s"
    exact q
  case int i =>
    cases hv
    refine s_noN rfl ?_
    walk_at "s"
    refine s_isiBool (.int i) ?_
    walk_at "s"
    refine s_no rfl ?_
    walk_at "s"
    cases lo with
    | none =>
      refine s_noND rfl ?_
      walk_at "s"
      cases hi with
      | none => exact s_yesD rfl q
      | some h =>
        refine s_noD (fun e => by cases e) ?_
        walk_at "s"
        exact q
    | some l =>
      refine s_yesND (fun e => by cases e) ?_
      walk_at "s"
      refine s_iteD (fun e => ?_) (fun e => ?_)
      · have z : isW (.int i) (some l) hi = false := by
          show (decide (l ≤ i) && _) = false
          rw [decide_eq_false (by omega), Bool.false_and]
        rw [z] at q
        walk_at "s"
        exact q
      · have z : isW (.int i) (some l) hi = isW (.int i) none hi := by
          show (decide (l ≤ i) && _) = _
          rw [decide_eq_true (by omega), Bool.true_and]
          rfl
        rw [z] at q
        walk_at "s"
        cases hi with
        | none => exact s_yesD rfl q
        | some h =>
          refine s_noD (fun e => by cases e) ?_
          walk_at "s"
          exact q
  all_goals
    refine s_yesN rfl ?_
    walk_at "s"
    exact q
theorem c_is_whole (T : TX K mg) : Cal (L2.CX P w) P w K mg base 1 "is_whole" sp_is_whole [] := by
  obtain ⟨fd, F, G⟩ := fn_mk T.f_is_whole sc_is_whole (fun vs H Q E h => by obtain ⟨v, d, lo, hi, rfl, _⟩ := h; rfl) (k_is_whole (P := P) (w := w) (base := base) T)
  obtain ⟨ds, r, b⟩ := F.binds1 (ps := ["thing", "low", "high"]) 3 2 (by intro e; cases e) rfl (fun Tt kV doc pm an cdv ct us its h1 h2 => match us, h1, its, h2 with | [_, _, _], _, [_, _], _ => ⟨_, rfl, rfl⟩)
  exact ⟨_, fd, _, ds, G, T.g_is_whole, F.kp, b, r⟩
theorem c_is_whole2 (T : TX K mg) : Cal (L2.CX P w) P w K mg base 1 "is_whole" sp_is_whole [.non] := by
  obtain ⟨fd, F, G⟩ := fn_mk T.f_is_whole sc_is_whole (fun vs H Q E h => by obtain ⟨v, d, lo, hi, rfl, _⟩ := h; rfl) (k_is_whole (P := P) (w := w) (base := base) T)
  obtain ⟨ds, r, b⟩ := F.binds1 (ps := ["thing", "low", "high"]) 2 1 (by intro e; cases e) rfl (fun Tt kV doc pm an cdv ct us its h1 h2 => match us, h1, its, h2 with | [_, _], _, [_, _], _ => ⟨_, rfl, rfl⟩)
  exact ⟨_, fd, _, ds, G, T.g_is_whole, F.kp, b, r⟩
end

end K53
namespace K53
open PySem PySem.Spec PyProof.Rows L2
/-! ### houses on the heap -/
def cpD (c : Nat × Nat) : PyData := .tuple [.int (c.1 : Int), .int (c.2 : Int)]
def rowsD (g : Hou) : PyData := .tuple (g.rows.map cpD)
abbrev fget (fs : List (Str × V)) (x : Str) (v : V) : Prop := fs.lookup x = some v
/-- the house at p -/
structure HouO (K : PySem.W.Frag) (H : Hp) (p : Addr) (g : Hou) : Prop where
  ok : g.Ok
  at_ : ∃ dx fs r, H p = some (.ins (gA K "House") dx fs) ∧ fget fs "hand_size" (.int (g.hs : Int)) ∧ fget fs "letter_size" (.int (g.ls : Int)) ∧ fget fs "rows" (.ref r) ∧ Hd H (.ref r) (rowsD g)
theorem HouO.toS {K : PySem.W.Frag} {H H' : Hp} {p : Addr} {g : Hou} (h : HouO K H p g) (s : SameS H H') : HouO K H' p g :=
  ⟨h.ok, let ⟨dx, fs, r, a, b, c, d, e⟩ := h.at_; ⟨dx, fs, r, s _ _ rfl a, b, c, d, e.toS s⟩⟩
theorem HouO.to {K : PySem.W.Frag} {H H' : Hp} {p : Addr} {g : Hou} (h : HouO K H p g) (s : Same H H') : HouO K H' p g := h.toS s.toS
section
variable {K : PySem.W.Frag} {mg : Str → Option Value} {H : Hp} {p : Addr} {g : Hou} {Z : V → Prop}
theorem s_hs (T : TX K mg) (h : HouO K H p g) (q : Z (.int (g.hs : Int))) : ∃ a C dx fs v, V.ref p = .ref a ∧ H a = some (.ins C dx fs) ∧ Cls K C ∧ NoAttr K C "hand_size" ∧ fget fs "hand_size" v ∧ Z v := by
  obtain ⟨dx, fs, r, h1, h2, h3, h4, h5⟩ := h.at_
  exact s_fld h1 T.cl_House T.na_House_hand_size h2 q
theorem s_ls (T : TX K mg) (h : HouO K H p g) (q : Z (.int (g.ls : Int))) : ∃ a C dx fs v, V.ref p = .ref a ∧ H a = some (.ins C dx fs) ∧ Cls K C ∧ NoAttr K C "letter_size" ∧ fget fs "letter_size" v ∧ Z v := by
  obtain ⟨dx, fs, r, h1, h2, h3, h4, h5⟩ := h.at_
  exact s_fld h1 T.cl_House T.na_House_letter_size h3 q
theorem s_rows (T : TX K mg) (h : HouO K H p g) (q : ∀ r, Hd H (.ref r) (rowsD g) → Z (.ref r)) : ∃ a C dx fs v, V.ref p = .ref a ∧ H a = some (.ins C dx fs) ∧ Cls K C ∧ NoAttr K C "rows" ∧ fget fs "rows" v ∧ Z v := by
  obtain ⟨dx, fs, r, h1, h2, h3, h4, h5⟩ := h.at_
  exact s_fld h1 T.cl_House T.na_House_rows h4 (q r h5)
end
/-! ### numbers_with_hand, numbers_with_letter, couples_of -/
abbrev N_numbers_with_hand : List Str := ["house", "hand", "letter"]
theorem sc_numbers_with_hand : FnScope N_numbers_with_hand ["house", "hand"] (defScope s_numbers_with_hand) := C8.fnScope_by (by decide +kernel)
abbrev N_numbers_with_letter : List Str := ["house", "letter", "hand"]
theorem sc_numbers_with_letter : FnScope N_numbers_with_letter ["house", "letter"] (defScope s_numbers_with_letter) := C8.fnScope_by (by decide +kernel)
def sp_numbers_with_hand (K : PySem.W.Frag) : Sp := fun vs H Q _ => ∃ p g h, vs = [.ref p, .int ((h : Nat) : Int)] ∧ HouO K H p g ∧ h < g.hs ∧ ∀ H' D, Same H H' → H D = none → H' D = some (.lst (ivs (g.wh h))) → Q (.ref D) H'
def sp_numbers_with_letter (K : PySem.W.Frag) : Sp := fun vs H Q _ => ∃ p g y, vs = [.ref p, .int ((y : Nat) : Int)] ∧ HouO K H p g ∧ y < g.ls ∧ ∀ H' D, Same H H' → H D = none → H' D = some (.lst (ivs (g.wl y))) → Q (.ref D) H'
section
variable {P : Program} {w : World} {K : PySem.W.Frag} {mg : Str → Option Value} {base : Heap}
theorem k_numbers_with_hand (T : TX K mg) : Keeps (L2.CX P w) P w K mg base d_numbers_with_hand N_numbers_with_hand 0 (sp_numbers_with_hand K) := by
  intro cdv A outer s H vs Q E hr hsp
  obtain ⟨p, g, h, rfl, hh, hl, q⟩ := hsp
  have o := hh.ok
  have := o.l4
  have := o.h4
  have nd := sc_numbers_with_hand.nd
  have hu := hu_of hr
  have hu64 := hr.units
  refine ⟨_, (pss_one (ps_ret (pe_lc (own := [("letter", 2)]) (tt := tYes) rfl nd (pi_range1 (by rfl) T.b_range (pa_cons (pe_fldK (K := K) rfl (pv 0) (by rfl)) pa_nil)) (blkOk_by (N := N_numbers_with_hand) (sc := (defScope s_numbers_with_hand)) (by decide +kernel)) (fun _ _ _ _ _ => (pg_name (i := 2) nd rfl (Or.inl rfl))) (fun _ _ _ _ _ => pts_nil) (fun _ _ _ _ _ => (pe_op op_add (pe_op op_mul (pv 1) (pe_fldK (K := K) rfl (pv 0) (by rfl))) (pv 2)))))), ?_⟩
  refine st_eq (σ := [some (.ref p), some (.int (h : Int)), none]) rfl ?_
  walk_at "s"
  refine s_ls T hh ?_
  walk_at "s"
  refine s_i1c (n := g.ls) (by omega) ?_
  refine lc_f (List.range g.ls) (fun y => some (.int ((h * g.ls + y : Nat) : Int))) walk_r List.length_range.symm (by rw [List.length_range]; omega) (fun _ _ => trivial) (fun D i y H1 c => ?_) (fun D H1 hD s1 e => ?_)
  · walk_at "s"
    refine ⟨rfl, ?_⟩
    walk_at "s"
    refine s_ls T (hh.to c.sm) ?_
    refine s_mulN (by omega) ?_
    walk_at "s"
    exact lc_yes c (L2.Same.refl _) rfl
  · rw [fm_map] at e
    refine q H1 D s1 hD ?_
    rw [e]
    unfold Hou.wh ivs
    rw [List.map_map]
    rfl
theorem c_numbers_with_hand (T : TX K mg) : Cal (L2.CX P w) P w K mg base 1 "numbers_with_hand" (sp_numbers_with_hand K) [] :=
  cal_mk T.f_numbers_with_hand T.g_numbers_with_hand ⟨rfl, rfl⟩ (fun _ _ _ _ _ _ us hl => match us, hl with | [_, _], _ => rfl) sc_numbers_with_hand (fun vs H Q E h => by obtain ⟨p, g, h, rfl, _⟩ := h; rfl) (k_numbers_with_hand T)
theorem k_numbers_with_letter (T : TX K mg) : Keeps (L2.CX P w) P w K mg base d_numbers_with_letter N_numbers_with_letter 0 (sp_numbers_with_letter K) := by
  intro cdv A outer s H vs Q E hr hsp
  obtain ⟨p, g, y, rfl, hh, hl, q⟩ := hsp
  have o := hh.ok
  have := o.l4
  have := o.h4
  have nd := sc_numbers_with_letter.nd
  have hu := hu_of hr
  have hu64 := hr.units
  refine ⟨_, (pss_one (ps_ret (pe_lc (own := [("hand", 2)]) (tt := tYes) rfl nd (pi_range1 (by rfl) T.b_range (pa_cons (pe_fldK (K := K) rfl (pv 0) (by rfl)) pa_nil)) (blkOk_by (N := N_numbers_with_letter) (sc := (defScope s_numbers_with_letter)) (by decide +kernel)) (fun _ _ _ _ _ => (pg_name (i := 2) nd rfl (Or.inl rfl))) (fun _ _ _ _ _ => pts_nil) (fun _ _ _ _ _ => (pe_op op_add (pe_op op_mul (pv 2) (pe_fldK (K := K) rfl (pv 0) (by rfl))) (pv 1)))))), ?_⟩
  refine st_eq (σ := [some (.ref p), some (.int (y : Int)), none]) rfl ?_
  walk_at "s"
  refine s_hs T hh ?_
  walk_at "s"
  refine s_i1c (n := g.hs) (by omega) ?_
  refine lc_f (List.range g.hs) (fun h => some (.int ((h * g.ls + y : Nat) : Int))) walk_r List.length_range.symm (by rw [List.length_range]; omega) (fun _ _ => trivial) (fun D i h H1 c => ?_) (fun D H1 hD s1 e => ?_)
  · walk_at "s"
    refine ⟨rfl, ?_⟩
    walk_at "s"
    refine s_ls T (hh.to c.sm) ?_
    have := List.mem_range.mp (List.mem_of_getElem? c.ai)
    refine s_mulN (by omega) ?_
    walk_at "s"
    exact lc_yes c (L2.Same.refl _) rfl
  · rw [fm_map] at e
    refine q H1 D s1 hD ?_
    rw [e]
    unfold Hou.wl ivs
    rw [List.map_map]
    rfl
theorem c_numbers_with_letter (T : TX K mg) : Cal (L2.CX P w) P w K mg base 1 "numbers_with_letter" (sp_numbers_with_letter K) [] :=
  cal_mk T.f_numbers_with_letter T.g_numbers_with_letter ⟨rfl, rfl⟩ (fun _ _ _ _ _ _ us hl => match us, hl with | [_, _], _ => rfl) sc_numbers_with_letter (fun vs H Q E h => by obtain ⟨p, g, h, rfl, _⟩ := h; rfl) (k_numbers_with_letter T)
end

end K53
namespace K53
open PySem PySem.Spec PyProof.Rows L2
/-! ### is_couple_of, are_couples -/
def isCpl (hs ls : Nat) (d : PyData) : Bool :=
  match seqD d with
  | [a, b] => isW a (some 0) (some ((hs : Int) - 1)) && isW b (some 0) (some ((ls : Int) - 1))
  | _ => false
def areC (g : Hou) (d : PyData) : Bool := isSeqD d && (seqD d).all (isCpl g.hs g.ls)
abbrev N_is_couple_of : List Str := ["hand_size", "letter_size", "thing"]
theorem sc_is_couple_of : FnScope N_is_couple_of ["hand_size", "letter_size", "thing"] (defScope s_is_couple_of) := C8.fnScope_by (by decide +kernel)
abbrev N_are_couples : List Str := ["house", "thing", "part"]
theorem sc_are_couples : FnScope N_are_couples ["house", "thing"] (defScope s_are_couples) := C8.fnScope_by (by decide +kernel)
def sp_is_couple_of : Sp := fun vs H Q _ => ∃ v d, ∃ hs ls : Nat, vs = [.int hs, .int ls, v] ∧ Hd H v d ∧ ∀ H', Same H H' → Q (.bl (isCpl hs ls d)) H'
def sp_are_couples (K : PySem.W.Frag) : Sp := fun vs H Q _ => ∃ p g v d, vs = [.ref p, v] ∧ HouO K H p g ∧ Hd H v d ∧ (seqD d).length ≤ 100000 ∧ ∀ H', Same H H' → Q (.bl (areC g d)) H'
section
variable {P : Program} {w : World} {K : PySem.W.Frag} {mg : Str → Option Value} {base : Heap}
theorem k_is_couple_of (T : TX K mg) : Keeps (L2.CX P w) P w K mg base d_is_couple_of N_is_couple_of 1 sp_is_couple_of := by
  intro cdv A outer s H vs Q E hr hsp
  obtain ⟨v, d, hs, ls, rfl, hv, q⟩ := hsp
  have nd := sc_is_couple_of.nd
  have hu := hu_of hr
  have hu64 := hr.units
  refine ⟨_, (pss_cons (ps_if (PW.pt (pw_or (pt_not (pt_val (pe_callB (call_isiTK (K := K) rfl) (by rfl) T.b_isinstance (by decide +kernel) (pa_cons (pv 2) (pa_cons (pe_tup (pa_cons (pe_bltn (v := .ty "list") (by rfl) T.b_list (by decide +kernel) rfl) (pa_cons (pe_bltn (v := .ty "tuple") (by rfl) T.b_tuple (by decide +kernel) rfl) pa_nil))) pa_nil))))) (pw_or1 (pt_cmpR op_ne (pe_callB (call_lenK (K := K) rfl) (by rfl) T.b_len PySem.boot_len (pa_cons (pv 2) pa_nil)) pe_int (nomark _))))) (pss_one (ps_ret pe_bl)) pss_nil)
  (pss_one (ps_ret (pe_and (pe_cl (c_is_whole T) hr (by decide) (pa_cons (pe_ix (ix_seqK (K := K) rfl) (pv 2) pe_int (fun _ _ => rfl)) (pa_cons pe_int (pa_cons (pe_op op_sub (pv 0) pe_int) pa_nil))) passL) (pe_one (pe_cl (c_is_whole T) hr (by decide) (pa_cons (pe_ix (ix_seqK (K := K) rfl) (pv 2) pe_int (fun _ _ => rfl)) (pa_cons pe_int (pa_cons (pe_op op_sub (pv 1) pe_int) pa_nil))) passL)))))), ?_⟩
  refine st_eq (σ := [some (.int (hs : Int)), some (.int (ls : Int)), some (v)]) rfl ?_
  walk_at "s"
  refine s_tl (by decide) fun tp hp => ?_
  have sm := L2.Same.up (o := HO.tup [V.ty "list", V.ty "tuple"]) hp
  have q := q _ sm
  have hv := hv.to sm
  walk_at "s"
  refine s_isiLT hv upd_same ?_
  walk_at "s"
  refine s_iteN (fun e => ?_) (fun e => ?_)
  · walk_at "s"
    have z : isCpl hs ls d = false := by
      cases d <;> first | rfl | cases e
    rw [z] at q
    exact q
  · obtain ⟨xs, hS, hL⟩ := hv.seq (K := K) e
    walk_at "s"
    refine s_len hS ?_
    walk_at "s"
    have hll := hL.len
    refine s_iteND (fun e2 => ?_) (fun e2 => ?_)
    · walk_at "s"
      have z : isCpl hs ls d = false := by
        unfold isCpl
        rcases hx : seqD d with _ | ⟨a, _ | ⟨b, _ | ⟨c, r⟩⟩⟩
        · rfl
        · rfl
        · rw [hx] at hll
          exact absurd (by rw [hll]; rfl) e2
        · rfl
      rw [z] at q
      exact q
    · rcases hx : seqD d with _ | ⟨a, _ | ⟨b, _ | ⟨c, r⟩⟩⟩
      · rw [hx] at hll
        rw [hll] at e2
        cases e2
      · rw [hx] at hll
        rw [hll] at e2
        cases e2
      · rw [hx] at hL
        have z : isCpl hs ls d = (isW a (some 0) (some ((hs : Int) - 1)) && isW b (some 0) (some ((ls : Int) - 1))) := by
          unfold isCpl
          rw [hx]
        rw [z] at q
        cases hL with
        | cons h1 hL =>
          cases hL with
          | cons h2 hL =>
            cases hL
            walk_at "s"
            refine s_ixS0 hS ?_
            walk_at "s"
            refine ⟨_, a, some 0, some _, rfl, h1, ?_⟩
            walk_at "s"
            refine s_ite (fun e3 => ?_) (fun e3 => ?_)
            · rw [e3, Bool.true_and] at q
              walk_at "s"
              refine s_ixS1 hS ?_
              walk_at "s"
              refine ⟨_, b, some 0, some _, rfl, h2, ?_⟩
              exact q
            · rw [e3, Bool.false_and] at q
              exact q
      · rw [hx] at hll
        rw [hll] at e2
        simp only [List.length_cons] at e2
        omega
theorem c_is_couple_of (T : TX K mg) : Cal (L2.CX P w) P w K mg base 2 "is_couple_of" sp_is_couple_of [] :=
  cal_mk T.f_is_couple_of T.g_is_couple_of ⟨rfl, rfl⟩ (fun _ _ _ _ _ _ us hl => match us, hl with | [_, _, _], _ => rfl) sc_is_couple_of (fun vs H Q E h => by obtain ⟨v, d, hs, ls, rfl, _⟩ := h; rfl) (k_is_couple_of T)
theorem k_are_couples (T : TX K mg) : Keeps (L2.CX P w) P w K mg base d_are_couples N_are_couples 2 (sp_are_couples K) := by
  intro cdv A outer s H vs Q E hr hsp
  obtain ⟨p, g, v, d, rfl, hh, hv, hz, q⟩ := hsp
  have nd := sc_are_couples.nd
  have hu := hu_of hr
  have hu64 := hr.units
  refine ⟨_, (pss_cons (ps_if (pt_not (pt_val (pe_callB (call_isiTK (K := K) rfl) (by rfl) T.b_isinstance (by decide +kernel) (pa_cons (pv 1) (pa_cons (pe_tup (pa_cons (pe_bltn (v := .ty "list") (by rfl) T.b_list (by decide +kernel) rfl) (pa_cons (pe_bltn (v := .ty "tuple") (by rfl) T.b_tuple (by decide +kernel) rfl) pa_nil))) pa_nil))))) (pss_one (ps_ret pe_bl)) pss_nil)
  (pss_one (ps_ret (pe_callB (cr_allK (K := K) rfl rfl) (by rfl) T.b_all (by decide +kernel) (pa_cons (pe_lc (own := [("part", 2)]) (tt := tYes) rfl nd (pi_seqK (K := K) rfl (pv 1)) (blkOk_by (N := N_are_couples) (sc := (defScope s_are_couples)) (by decide +kernel)) (fun _ _ _ _ _ => (pg_name (i := 2) nd rfl (Or.inl rfl))) (fun _ _ _ _ _ => pts_nil) (fun _ _ _ _ _ => (pe_cl (c_is_couple_of T) hr (by decide) (pa_cons (pe_fldK (K := K) rfl (pv 0) (by rfl)) (pa_cons (pe_fldK (K := K) rfl (pv 0) (by rfl)) (pa_cons (pv 2) pa_nil))) passL))) pa_nil))))), ?_⟩
  refine st_eq (σ := [some (.ref p), some (v), none]) rfl ?_
  walk_at "s"
  refine s_tl (by decide) fun tp hp => ?_
  have sm := L2.Same.up (o := HO.tup [V.ty "list", V.ty "tuple"]) hp
  have hv := hv.to sm
  have hh := hh.to sm
  walk_at "s"
  refine s_isiLT hv upd_same ?_
  walk_at "s"
  refine s_iteN (fun e => ?_) (fun e => ?_)
  · walk_at "s"
    have z : areC g d = false := by unfold areC; rw [e]; rfl
    have q := q _ sm
    rw [z] at q
    exact q
  · obtain ⟨xs, hS, hL⟩ := hv.seq (K := K) e
    walk_at "s"
    refine s_iSc hS fun J G W hG => ?_
    obtain ⟨as, rfl, e2, hA⟩ := hL.zip
    have hlen := hL.len
    rw [List.length_map] at hlen
    refine lc_f as (u := fun p => p.1) (fun p => some (.bl (isCpl g.hs g.ls p.2))) W (List.length_map ..) (by omega) hG (fun D i x H1 c => ?_) (fun D H1 hD s1 e3 => ?_)
    · walk_at "s"
      refine ⟨rfl, ?_⟩
      walk_at "s"
      refine s_hs T (hh.to c.sm) ?_
      walk_at "s"
      refine s_ls T (hh.to c.sm) ?_
      walk_at "s"
      refine ⟨_, x.2, g.hs, g.ls, rfl, (hA x (List.mem_of_getElem? c.ai)).to c.sm, fun H2 s2 => ?_⟩
      exact lc_yes c s2 rfl
    · rw [fm_map] at e3
      have e4 : as.map (fun p => V.bl (isCpl g.hs g.ls p.2)) = ((seqD d).map (isCpl g.hs g.ls)).map V.bl := by
        rw [e2, List.map_map, List.map_map]
        rfl
      rw [e4] at e3
      walk_at "s"
      refine ⟨D, _, rfl, SqL.of e3, ?_⟩
      have q := q H1 (sm.trans s1)
      unfold areC at q
      rw [e, Bool.true_and] at q
      rw [List.all_map]
      exact q
theorem c_are_couples (T : TX K mg) : Cal (L2.CX P w) P w K mg base 3 "are_couples" (sp_are_couples K) [] :=
  cal_mk T.f_are_couples T.g_are_couples ⟨rfl, rfl⟩ (fun _ _ _ _ _ _ us hl => match us, hl with | [_, _], _ => rfl) sc_are_couples (fun vs H Q E h => by obtain ⟨p, g, v, d, rfl, _⟩ := h; rfl) (k_are_couples T)
end

end K53
namespace K53
open PySem PySem.Spec PyProof.Rows L2
/-! ### the own errors' __init__, check_days, check_hand, check_letter -/
/-- C(v), of the errors with one field f -/
def sp_xi (K : PySem.W.Frag) (f : Str) : Sp := fun vs H Q _ => ∃ a C v, vs = [.ref a, v] ∧ OexC K C ∧ PySem.W.findIn K (.ref C) f = some none ∧ H a = some (exo a C none) ∧ ∀ dx, H dx = none → dx ≠ a → Q .non (upd (upd H dx (exd dx [(f, v)])) a (exo a C (some dx)))
/-- a check: the thing itself, or the error with it -/
def ckR (K : PySem.W.Frag) (C f : Str) (v : V) (ok : Bool) (H : Hp) (Q : VK) (E : XK) : Prop :=
  (ok = true → Q v H) ∧ (ok = false → ∀ dx H', Same H H' → H dx = none → H' dx = some (.xd [(f, v)]) → E (.ref (gA K C)) (some dx) H')
section
variable {K : PySem.W.Frag} {H : Hp} {Q : VK} {v : V} {f : Str}
theorem xi_use {C : Addr} {R : XK} (o : OexC K C) (no : PySem.W.findIn K (.ref C) f = some none) (h : ∀ dx H', Same H H' → H dx = none → H' dx = some (.xd [(f, v)]) → R (.ref C) (some dx) H') :
    ∀ a, H a = none → sp_xi K f (.ref a :: ([v] ++ [])) (upd H a (exo a C none)) (fun u H2 => u = .non ∧ ∃ (d : Addr) (fs : List (Str × V)), H2 a = some (exo a C (some d)) ∧ H2 d = some (exd d fs) ∧ H d = none ∧ R (.ref C) (some d) (upd (del H2 a) d (.xd fs))) (fun _ _ _ => False) := by
  intro a ha
  refine ⟨a, C, v, rfl, o, no, upd_same, fun dx hd ne => ⟨rfl, dx, [(f, v)], upd_same, ?_, ?_, ?_⟩⟩
  · rw [upd_ne ne, upd_same]
  · rw [← hd, upd_ne ne]
  · have hd' : H dx = none := by rw [← hd, upd_ne ne]
    refine h dx _ (fun b u e => ?_) hd' upd_same
    have h1 : b ≠ dx := ne_of_none e hd'
    have h2 : b ≠ a := ne_of_none e ha
    rw [upd_ne h1, del_ne h2, upd_ne h2, upd_ne h1, upd_ne h2]
    exact e
end
section
variable {P : Program} {w : World} {K : PySem.W.Frag} {mg : Str → Option Value} {base : Heap}
abbrev N_BadDays__init__ : List Str := ["self", "days"]
theorem sc_BadDays__init__ : FnScope N_BadDays__init__ ["self", "days"] (defScope s_BadDays__init__) := C8.fnScope_by (by decide +kernel)
theorem k_BadDays__init__ (T : TX K mg) : Keeps (L2.CX P w) P w K mg base d_BadDays__init__ N_BadDays__init__ 0 (sp_xi K "days") := by
  intro cdv A outer s H vs Q E hr hsp
  obtain ⟨a, C, v, rfl, o, no, ha, q⟩ := hsp
  have nd := sc_BadDays__init__.nd
  have hu := hu_of hr
  have hu64 := hr.units
  refine ⟨_, (pss_one (ps_ost (pv 0) (pv 1))), ?_⟩
  refine st_eq (σ := [some (.ref a), some (v)]) rfl ?_
  show tVar 1 _ H _
  walk_at "s"
  exact ⟨a, C, rfl, o, no, .inl ⟨ha, fun dx h1 h2 => q dx h1 h2⟩⟩
theorem x_BadDays (T : TX K mg) : ∃ fd, FnOk P w K mg base (L2.CX P w) 1 (He.ma K (gA K "BadDays") "__init__") fd ["self", "days"] (sp_xi K "days") ∧ Binds K fd ["self", "days"] [] := by
  obtain ⟨fd, F, G⟩ := fn_mk T.f_BadDays__init__ sc_BadDays__init__ (fun vs H Q E h => by obtain ⟨a, C, v, rfl, _⟩ := h; rfl) (k_BadDays__init__ (P := P) (w := w) (base := base) T)
  exact ⟨fd, G, F.bindsN fun _ _ _ _ _ _ us hl => match us, hl with | [_, _], _ => rfl⟩
abbrev N_BadHand__init__ : List Str := ["self", "hand"]
theorem sc_BadHand__init__ : FnScope N_BadHand__init__ ["self", "hand"] (defScope s_BadHand__init__) := C8.fnScope_by (by decide +kernel)
theorem k_BadHand__init__ (T : TX K mg) : Keeps (L2.CX P w) P w K mg base d_BadHand__init__ N_BadHand__init__ 0 (sp_xi K "hand") := by
  intro cdv A outer s H vs Q E hr hsp
  obtain ⟨a, C, v, rfl, o, no, ha, q⟩ := hsp
  have nd := sc_BadHand__init__.nd
  have hu := hu_of hr
  have hu64 := hr.units
  refine ⟨_, (pss_one (ps_ost (pv 0) (pv 1))), ?_⟩
  refine st_eq (σ := [some (.ref a), some (v)]) rfl ?_
  show tVar 1 _ H _
  walk_at "s"
  exact ⟨a, C, rfl, o, no, .inl ⟨ha, fun dx h1 h2 => q dx h1 h2⟩⟩
theorem x_BadHand (T : TX K mg) : ∃ fd, FnOk P w K mg base (L2.CX P w) 1 (He.ma K (gA K "BadHand") "__init__") fd ["self", "hand"] (sp_xi K "hand") ∧ Binds K fd ["self", "hand"] [] := by
  obtain ⟨fd, F, G⟩ := fn_mk T.f_BadHand__init__ sc_BadHand__init__ (fun vs H Q E h => by obtain ⟨a, C, v, rfl, _⟩ := h; rfl) (k_BadHand__init__ (P := P) (w := w) (base := base) T)
  exact ⟨fd, G, F.bindsN fun _ _ _ _ _ _ us hl => match us, hl with | [_, _], _ => rfl⟩
abbrev N_BadLetter__init__ : List Str := ["self", "letter"]
theorem sc_BadLetter__init__ : FnScope N_BadLetter__init__ ["self", "letter"] (defScope s_BadLetter__init__) := C8.fnScope_by (by decide +kernel)
theorem k_BadLetter__init__ (T : TX K mg) : Keeps (L2.CX P w) P w K mg base d_BadLetter__init__ N_BadLetter__init__ 0 (sp_xi K "letter") := by
  intro cdv A outer s H vs Q E hr hsp
  obtain ⟨a, C, v, rfl, o, no, ha, q⟩ := hsp
  have nd := sc_BadLetter__init__.nd
  have hu := hu_of hr
  have hu64 := hr.units
  refine ⟨_, (pss_one (ps_ost (pv 0) (pv 1))), ?_⟩
  refine st_eq (σ := [some (.ref a), some (v)]) rfl ?_
  show tVar 1 _ H _
  walk_at "s"
  exact ⟨a, C, rfl, o, no, .inl ⟨ha, fun dx h1 h2 => q dx h1 h2⟩⟩
theorem x_BadLetter (T : TX K mg) : ∃ fd, FnOk P w K mg base (L2.CX P w) 1 (He.ma K (gA K "BadLetter") "__init__") fd ["self", "letter"] (sp_xi K "letter") ∧ Binds K fd ["self", "letter"] [] := by
  obtain ⟨fd, F, G⟩ := fn_mk T.f_BadLetter__init__ sc_BadLetter__init__ (fun vs H Q E h => by obtain ⟨a, C, v, rfl, _⟩ := h; rfl) (k_BadLetter__init__ (P := P) (w := w) (base := base) T)
  exact ⟨fd, G, F.bindsN fun _ _ _ _ _ _ us hl => match us, hl with | [_, _], _ => rfl⟩
abbrev N_check_hand : List Str := ["house", "thing"]
theorem sc_check_hand : FnScope N_check_hand ["house", "thing"] (defScope s_check_hand) := C8.fnScope_by (by decide +kernel)
def sp_check_hand (K : PySem.W.Frag) : Sp := fun vs H Q E => ∃ p g v d, vs = [.ref p, v] ∧ HouO K H p g ∧ Hd H v d ∧ ckR K "BadHand" "hand" v (isW d (some 0) (some ((g.hs : Int) - 1))) H Q E
theorem k_check_hand (T : TX K mg) : Keeps (L2.CX P w) P w K mg base d_check_hand N_check_hand 2 (sp_check_hand K) := by
  intro cdv A outer s H vs Q E hr hsp
  obtain ⟨p, g, v, d, rfl, hh, hv, q1, q2⟩ := hsp
  obtain ⟨fd, F1, b1⟩ := x_BadHand (P := P) (w := w) (base := base) T
  have nd := sc_check_hand.nd
  have hu := hu_of hr
  have hu64 := hr.units
  refine ⟨_, (pss_cons (ps_if (pt_not (pt_val (pe_cl (c_is_whole T) hr (by decide) (pa_cons (pv 1) (pa_cons pe_int (pa_cons (pe_op op_sub (pe_fldK (K := K) rfl (pv 0) (by rfl)) pe_int) pa_nil))) passL))) (pss_one (ps_raise rfl (takes_of rfl rfl rfl rfl) (pmk_oex T.xHand.o T.xHand.ini T.xHand.fn F1 hr b1 .nil passL (by rfl) T.g_BadHand (pa_cons (pv 1) pa_nil)))) pss_nil)
  (pss_one (ps_ret (pv 1)))), ?_⟩
  refine st_eq (σ := [some (.ref p), some (v)]) rfl ?_
  walk_at "s"
  refine s_hs T hh ?_
  walk_at "s"
  refine ⟨v, d, some 0, some _, rfl, hv, ?_⟩
  walk_at "s"
  refine s_iteN (fun e => ?_) (fun e => ?_)
  · show tVar 1 _ _ _
    walk_at "s"
    exact ⟨Nat.le_of_ble_eq_true rfl, xi_use T.xHand.o T.xHand.no fun dx H' s1 h1 h2 => q2 e dx H' s1 h1 h2⟩
  · walk_at "s"
    exact q1 e
theorem c_check_hand (T : TX K mg) : Cal (L2.CX P w) P w K mg base 3 "check_hand" (sp_check_hand K) [] :=
  cal_mk T.f_check_hand T.g_check_hand ⟨rfl, rfl⟩ (fun _ _ _ _ _ _ us hl => match us, hl with | [_, _], _ => rfl) sc_check_hand (fun vs H Q E h => by obtain ⟨p, g, v, d, rfl, _⟩ := h; rfl) (k_check_hand T)
abbrev N_check_letter : List Str := ["house", "thing"]
theorem sc_check_letter : FnScope N_check_letter ["house", "thing"] (defScope s_check_letter) := C8.fnScope_by (by decide +kernel)
def sp_check_letter (K : PySem.W.Frag) : Sp := fun vs H Q E => ∃ p g v d, vs = [.ref p, v] ∧ HouO K H p g ∧ Hd H v d ∧ ckR K "BadLetter" "letter" v (isW d (some 0) (some ((g.ls : Int) - 1))) H Q E
theorem k_check_letter (T : TX K mg) : Keeps (L2.CX P w) P w K mg base d_check_letter N_check_letter 2 (sp_check_letter K) := by
  intro cdv A outer s H vs Q E hr hsp
  obtain ⟨p, g, v, d, rfl, hh, hv, q1, q2⟩ := hsp
  obtain ⟨fd, F1, b1⟩ := x_BadLetter (P := P) (w := w) (base := base) T
  have nd := sc_check_letter.nd
  have hu := hu_of hr
  have hu64 := hr.units
  refine ⟨_, (pss_cons (ps_if (pt_not (pt_val (pe_cl (c_is_whole T) hr (by decide) (pa_cons (pv 1) (pa_cons pe_int (pa_cons (pe_op op_sub (pe_fldK (K := K) rfl (pv 0) (by rfl)) pe_int) pa_nil))) passL))) (pss_one (ps_raise rfl (takes_of rfl rfl rfl rfl) (pmk_oex T.xLetter.o T.xLetter.ini T.xLetter.fn F1 hr b1 .nil passL (by rfl) T.g_BadLetter (pa_cons (pv 1) pa_nil)))) pss_nil)
  (pss_one (ps_ret (pv 1)))), ?_⟩
  refine st_eq (σ := [some (.ref p), some (v)]) rfl ?_
  walk_at "s"
  refine s_ls T hh ?_
  walk_at "s"
  refine ⟨v, d, some 0, some _, rfl, hv, ?_⟩
  walk_at "s"
  refine s_iteN (fun e => ?_) (fun e => ?_)
  · show tVar 1 _ _ _
    walk_at "s"
    exact ⟨Nat.le_of_ble_eq_true rfl, xi_use T.xLetter.o T.xLetter.no fun dx H' s1 h1 h2 => q2 e dx H' s1 h1 h2⟩
  · walk_at "s"
    exact q1 e
theorem c_check_letter (T : TX K mg) : Cal (L2.CX P w) P w K mg base 3 "check_letter" (sp_check_letter K) [] :=
  cal_mk T.f_check_letter T.g_check_letter ⟨rfl, rfl⟩ (fun _ _ _ _ _ _ us hl => match us, hl with | [_, _], _ => rfl) sc_check_letter (fun vs H Q E h => by obtain ⟨p, g, v, d, rfl, _⟩ := h; rfl) (k_check_letter T)
abbrev N_check_days : List Str := ["thing", "most"]
theorem sc_check_days : FnScope N_check_days ["thing", "most"] (defScope s_check_days) := C8.fnScope_by (by decide +kernel)
def sp_check_days (K : PySem.W.Frag) : Sp := fun vs H Q E => ∃ v d m, vs = [v, .int m] ∧ Hd H v d ∧ ckR K "BadDays" "days" v (isW d (some 0) (some m)) H Q E
theorem k_check_days (T : TX K mg) : Keeps (L2.CX P w) P w K mg base d_check_days N_check_days 2 (sp_check_days K) := by
  intro cdv A outer s H vs Q E hr hsp
  obtain ⟨v, d, m, rfl, hv, q1, q2⟩ := hsp
  obtain ⟨fd, F1, b1⟩ := x_BadDays (P := P) (w := w) (base := base) T
  have nd := sc_check_days.nd
  have hu := hu_of hr
  have hu64 := hr.units
  refine ⟨_, (pss_cons (ps_if (pt_not (pt_val (pe_cl (c_is_whole T) hr (by decide) (pa_cons (pv 0) (pa_cons pe_int (pa_cons (pv 1) pa_nil))) passL))) (pss_one (ps_raise rfl (takes_of rfl rfl rfl rfl) (pmk_oex T.xDays.o T.xDays.ini T.xDays.fn F1 hr b1 .nil passL (by rfl) T.g_BadDays (pa_cons (pv 0) pa_nil)))) pss_nil)
  (pss_one (ps_ret (pv 0)))), ?_⟩
  refine st_eq (σ := [some (v), some (.int m)]) rfl ?_
  walk_at "s"
  refine ⟨v, d, some 0, some _, rfl, hv, ?_⟩
  walk_at "s"
  refine s_iteN (fun e => ?_) (fun e => ?_)
  · show tVar 0 _ _ _
    walk_at "s"
    exact ⟨Nat.le_of_ble_eq_true rfl, xi_use T.xDays.o T.xDays.no fun dx H' s1 h1 h2 => q2 e dx H' s1 h1 h2⟩
  · walk_at "s"
    exact q1 e
theorem c_check_days (T : TX K mg) : Cal (L2.CX P w) P w K mg base 3 "check_days" (sp_check_days K) [] := by
  obtain ⟨fd, F, G⟩ := fn_mk T.f_check_days sc_check_days (fun vs H Q E h => by obtain ⟨v, d, m, rfl, _⟩ := h; rfl) (k_check_days (P := P) (w := w) (base := base) T)
  obtain ⟨ds, r, b⟩ := F.binds1 (ps := ["thing", "most"]) 2 1 (by intro e; cases e) rfl (fun Tt kV doc pm an cdv ct us its h1 h2 => match us, h1, its, h2 with | [_, _], _, [_], _ => ⟨_, rfl, rfl⟩)
  exact ⟨_, fd, _, ds, G, T.g_check_days, F.kp, b, r⟩
theorem c_check_days60 (T : TX K mg) : Cal (L2.CX P w) P w K mg base 3 "check_days" (sp_check_days K) [.int 60] := by
  obtain ⟨fd, F, G⟩ := fn_mk T.f_check_days sc_check_days (fun vs H Q E h => by obtain ⟨v, d, m, rfl, _⟩ := h; rfl) (k_check_days (P := P) (w := w) (base := base) T)
  obtain ⟨ds, r, b⟩ := F.binds1 (ps := ["thing", "most"]) 1 0 (by intro e; cases e) rfl (fun Tt kV doc pm an cdv ct us its h1 h2 => match us, h1, its, h2 with | [_], _, [_], _ => ⟨_, rfl, rfl⟩)
  exact ⟨_, fd, _, ds, G, T.g_check_days, F.kp, b, r⟩
end

end K53
namespace K53
open PySem PySem.Spec PyProof.Rows L2
/-! ### first_fall, couples_of -/
def Hou.stC (g : Hou) (c d : Nat × Nat) : Bool := decide (g.row (c.1 * g.ls + d.2) = (d.1, c.2))
def chain (g : Hou) (cs : List (Nat × Nat)) : Prop := ∀ i a b, cs[i]? = some a → cs[i + 1]? = some b → g.stC a b = true
def inR (g : Hou) (c : Nat × Nat) : Prop := c.1 < g.hs ∧ c.2 < g.ls
theorem Hd.cp {H : Hp} {v : V} {c : Nat × Nat} (h : Hd H v (cpD c)) : ∃ p, v = .ref p ∧ H p = some (.tup [.int (c.1 : Int), .int (c.2 : Int)]) := by
  obtain ⟨p, xs, e, h1, h2⟩ := h.tup_eq
  cases h2 with
  | cons a h2 =>
    cases h2 with
    | cons b h2 =>
      cases h2
      rw [a.int_eq, b.int_eq] at h1
      exact ⟨p, e, h1⟩
theorem Hd.cpI {H : Hp} {p : Addr} {a b : Nat} (h : H p = some (.tup [.int (a : Int), .int (b : Int)])) : Hd H (.ref p) (cpD (a, b)) := .tup h (.cons (.int _) (.cons (.int _) .nil))
theorem cpD_inj {c d : Nat × Nat} (h : cpD c = cpD d) : c = d := by
  unfold cpD at h
  injection h with h
  injection h with h1 h
  injection h with h2 _
  injection h1 with h1
  injection h2 with h2
  exact Prod.ext (by omega) (by omega)
theorem pl_cp (c : Nat × Nat) : pl 1 (cpD c) = true := by
  unfold cpD
  simp [pl, plA]
theorem rows_at {H : Hp} {g : Hou} {r : Addr} (h : Hd H (.ref r) (rowsD g)) : ∃ xs, H r = some (.tup xs) ∧ xs.length = g.rows.length ∧ ∀ k, k < g.rows.length → ∃ v, xs[k]? = some v ∧ Hd H v (cpD (g.row k)) := by
  obtain ⟨a, xs, e, h1, h2⟩ := h.tup_eq
  cases e
  refine ⟨xs, h1, by rw [h2.len, List.length_map], fun k hk => ?_⟩
  obtain ⟨v, e1, e2⟩ := h2.get (i := k) (d := cpD (g.row k)) (by
    rw [List.getElem?_map]
    unfold Hou.row
    rw [List.getD_eq_getElem?_getD, List.getElem?_eq_getElem hk]
    rfl)
  exact ⟨v, e1, e2⟩
abbrev N_first_fall : List Str := ["house", "couples", "place", "hand", "letter", "after"]
theorem sc_first_fall : FnScope N_first_fall ["house", "couples"] (defScope s_first_fall) := C8.fnScope_by (by decide +kernel)
abbrev N_couples_of : List Str := ["house", "numbers", "number"]
theorem sc_couples_of : FnScope N_couples_of ["house", "numbers"] (defScope s_couples_of) := C8.fnScope_by (by decide +kernel)
def sp_first_fall (K : PySem.W.Frag) : Sp := fun vs H Q _ => ∃ p g a xs cs, vs = [.ref p, .ref a] ∧ HouO K H p g ∧ H a = some (.lst xs) ∧ HdL H xs (cs.map cpD) ∧ (∀ c ∈ cs, inR g c) ∧ cs ≠ [] ∧ cs.length ≤ 100000 ∧
  (chain g cs → ∀ H', Same H H' → Q .non H') ∧ (¬ chain g cs → ∀ (i : Nat) H', Same H H' → Q (.int (i : Int)) H')
def sp_couples_of (K : PySem.W.Frag) : Sp := fun vs H Q _ => ∃ p g a ns, vs = [.ref p, .ref a] ∧ HouO K H p g ∧ H a = some (.lst (ivs ns)) ∧ ns.length ≤ 100000 ∧
  ∀ H' r, Same H H' → Hd H' (.ref r) (.tuple (ns.map fun n => cpD (n / g.ls, n % g.ls))) → Q (.ref r) H'
section
variable {P : Program} {w : World} {K : PySem.W.Frag} {mg : Str → Option Value} {base : Heap}
theorem k_first_fall (T : TX K mg) : Keeps (L2.CX P w) P w K mg base d_first_fall N_first_fall 0 (sp_first_fall K) := by
  intro cdv A outer s H vs Q E hr hsp
  obtain ⟨p, g, a, xs, cs, rfl, hh, ha, hL, hin, hne, hz, q1, q2⟩ := hsp
  have o := hh.ok
  have hl := hL.len
  rw [List.length_map] at hl
  have hpos : 1 ≤ cs.length := List.length_pos_iff.mpr hne
  have nd := sc_first_fall.nd
  have hu := hu_of hr
  have hu64 := hr.units
  refine ⟨_, (pss_cons (ps_for (passes_of rfl) rfl (pi_range1 (by rfl) T.b_range (pa_cons (pe_op op_sub (pe_callB (call_lenK (K := K) rfl) (by rfl) T.b_len PySem.boot_len (pa_cons (pv 1) pa_nil)) pe_int) pa_nil)) (pg_name (i := 2) nd rfl (Or.inl rfl)) (pss_cons (ps_asg (pe_ix (ix_listK (K := K) rfl) (pv 1) (pv 2) (fun _ _ => rfl)) (pg_tupK (K := K) (n := 2) rfl rfl (pgs_cons (pg_name (i := 3) nd rfl (Or.inl rfl)) (pgs_cons (pg_name (i := 4) nd rfl (Or.inl rfl)) pgs_nil))))
  (pss_cons (ps_set (i := 5) nd rfl (Or.inl rfl) (pe_ix (ix_listK (K := K) rfl) (pv 1) (pe_op op_add (pv 2) pe_int) (fun _ _ => rfl)))
  (pss_one (ps_if (pt_cmpR (op_neDK (K := K) rfl hu64) (pe_ix (ix_tupK (K := K) rfl) (pe_fldK (K := K) rfl (pv 0) (by rfl)) (pe_op op_add (pe_op op_mul (pv 3) (pe_fldK (K := K) rfl (pv 0) (by rfl))) (pe_ix (ix_tupK (K := K) rfl) (pv 5) pe_int (fun _ _ => rfl))) (fun _ _ => rfl)) (pe_tup (pa_cons (pe_ix (ix_tupK (K := K) rfl) (pv 5) pe_int (fun _ _ => rfl)) (pa_cons (pv 4) pa_nil))) (nomark _)) (pss_one (ps_ret (pv 2))) pss_nil)))))
  (pss_one (ps_ret pe_non))), ?_⟩
  refine st_eq (σ := [some (.ref p), some (.ref a), none, none, none, none]) rfl ?_
  walk_at "s"
  refine s_lenL ha ?_
  rw [hl]
  walk_at "s"
  rw [show ((cs.length : Int) - 1) = ((cs.length - 1 : Nat) : Int) by omega]
  refine s_i1f (n := cs.length - 1) (by omega) ?_
  refine for_f (List.range (cs.length - 1)) walk_r List.length_range.symm (fun i σ H3 => ∃ x y z w, σ = [some (.ref p), some (.ref a), x, y, z, w] ∧ Same H H3 ∧ ∀ j b c, j < i → cs[j]? = some b → cs[j + 1]? = some c → g.stC b c = true)
    ⟨_, _, _, _, rfl, L2.Same.refl _, fun j _ _ h => absurd h (Nat.not_lt_zero _)⟩ (fun _ _ _ _ => trivial) (fun i i' σ H3 hi hP => ?_) (fun σ H3 hP => ?_)
  · obtain ⟨x, y, z, w, rfl, sm, hst⟩ := hP
    have hi2 : i < cs.length - 1 := by
      have := (List.getElem?_eq_some_iff.mp hi).1
      rwa [List.length_range] at this
    rw [List.getElem?_range hi2] at hi
    cases hi
    obtain ⟨c1, e1⟩ : ∃ c, cs[i]? = some c := ⟨_, List.getElem?_eq_getElem (by omega)⟩
    obtain ⟨c2, e2⟩ : ∃ c, cs[i + 1]? = some c := ⟨_, List.getElem?_eq_getElem (by omega)⟩
    have r1 := hin c1 (List.mem_of_getElem? e1)
    have r2 := hin c2 (List.mem_of_getElem? e2)
    obtain ⟨v1, f1, g1⟩ := hL.get (i := i) (by rw [List.getElem?_map, e1]; rfl)
    obtain ⟨v2, f2, g2⟩ := hL.get (i := i + 1) (by rw [List.getElem?_map, e2]; rfl)
    obtain ⟨p1, rfl, t1⟩ := g1.cp
    obtain ⟨p2, rfl, t2⟩ := g2.cp
    have hk : c1.1 * g.ls + c2.2 < g.rows.length := by rw [o.len]; exact Hou.num_lt o r1.1 r2.2
    walk_at "s"
    refine s_ixL (SqL.of (sm _ _ ha)) f1 ?_
    walk_at "s"
    refine s_gt2 (SqT.of (sm _ _ t1)) ?_
    walk_at "s"
    refine s_ixL (SqL.of (sm _ _ ha)) f2 ?_
    walk_at "s"
    refine s_rows T (hh.to sm) fun r hr => ?_
    obtain ⟨rs, hr1, hr2, hr3⟩ := rows_at hr
    obtain ⟨rv, hr4, hr5⟩ := hr3 _ hk
    walk_at "s"
    refine s_ls T (hh.to sm) ?_
    have := o.h4
    refine s_mulN (by have := r1.1; omega) ?_
    walk_at "s"
    refine s_ixT1 (SqT.of (sm _ _ t2)) ?_
    walk_at "s"
    refine s_ixT (SqT.of hr1) hr4 ?_
    walk_at "s"
    refine s_ixT0 (SqT.of (sm _ _ t2)) ?_
    walk_at "s"
    refine s_tl (Nat.le_of_ble_eq_true rfl) fun tp htp => ?_
    have sm2 := sm.trans (L2.Same.up (o := HO.tup [V.int (c2.1 : Int), V.int (c1.2 : Int)]) htp)
    refine s_nePl 1 (by decide) (hr5.to (L2.Same.up htp)) (Hd.cpI upd_same) (pl_cp _) (pl_cp _) (fun e => ?_) (fun e => ?_)
    · walk_at "s"
      refine ⟨_, _, _, _, rfl, sm2, fun j b c hj hb hc => ?_⟩
      by_cases hji : j = i
      · subst hji
        rw [hb] at e1
        rw [hc] at e2
        cases e1
        cases e2
        exact decide_eq_true (cpD_inj e)
      · exact hst j b c (by omega) hb hc
    · walk_at "s"
      refine q2 (fun hc => ?_) i _ sm2
      have := of_decide_eq_true (hc i c1 c2 e1 e2)
      rw [this] at e
      exact e rfl
  · obtain ⟨x, y, z, w, rfl, sm, hst⟩ := hP
    walk_at "s"
    refine q1 (fun i b c hb hc => hst i b c ?_ hb hc) _ sm
    rw [List.length_range]
    have := (List.getElem?_eq_some_iff.mp hc).1
    omega
theorem c_first_fall (T : TX K mg) : Cal (L2.CX P w) P w K mg base 1 "first_fall" (sp_first_fall K) [] :=
  cal_mk T.f_first_fall T.g_first_fall ⟨rfl, rfl⟩ (fun _ _ _ _ _ _ us hl => match us, hl with | [_, _], _ => rfl) sc_first_fall (fun vs H Q E h => by obtain ⟨p, g, a, xs, cs, rfl, _⟩ := h; rfl) (k_first_fall T)
theorem k_couples_of (T : TX K mg) : Keeps (L2.CX P w) P w K mg base d_couples_of N_couples_of 0 (sp_couples_of K) := by
  intro cdv A outer s H vs Q E hr hsp
  obtain ⟨p, g, a, ns, rfl, hh, ha, hz, q⟩ := hsp
  have o := hh.ok
  have := o.l2
  have := o.l4
  have nd := sc_couples_of.nd
  have hu := hu_of hr
  have hu64 := hr.units
  refine ⟨_, (pss_one (ps_ret (pe_tupleOfK (K := K) rfl (by rfl) T.b_tuple (pe_lc (own := [("number", 2)]) (tt := tYes) rfl nd (pi_listK (K := K) rfl (pv 1)) (blkOk_by (N := N_couples_of) (sc := (defScope s_couples_of)) (by decide +kernel)) (fun _ _ _ _ _ => (pg_name (i := 2) nd rfl (Or.inl rfl))) (fun _ _ _ _ _ => pts_nil) (fun _ _ _ _ _ => (pe_tup (pa_cons (pe_op op_fdivW (pv 2) (pe_fldK (K := K) rfl (pv 0) (by rfl))) (pa_cons (pe_op op_mod (pv 2) (pe_fldK (K := K) rfl (pv 0) (by rfl))) pa_nil)))))))), ?_⟩
  refine st_eq (σ := [some (.ref p), some (.ref a), none]) rfl ?_
  walk_at "s"
  refine s_iLc (SqL.of ha) ?_
  refine lc_e ns (ElO fun n => .tup [.int ((n / g.ls : Nat) : Int), .int ((n % g.ls : Nat) : Int)]) walk_list (List.length_map ..) hz (fun H' s => SqL.of (s _ _ ha)) (fun D i n acc H1 c => ?_) (fun D acc H1 hD s1 hD1 hl hE => ?_)
  · walk_at "s"
    refine ⟨rfl, ?_⟩
    walk_at "s"
    refine s_ls T (hh.to c.sm) ?_
    refine s_divN (by omega) (by omega) ?_
    walk_at "s"
    refine s_ls T (hh.to c.sm) ?_
    refine s_modN (by omega) ?_
    walk_at "s"
    refine s_tl (Nat.le_of_ble_eq_true rfl) fun t ht => ?_
    exact lce_yes elO_st c (L2.Same.up ht) ⟨t, rfl, (ne_of_none c.hd ht).symm, upd_same⟩
  · refine s_kTupL hD1 fun r hr => ?_
    refine q _ r (s1.upT hr) (.tup upd_same (hdL_of _ hl fun j b hb => ?_))
    obtain ⟨y, e1, p', rfl, _, e2⟩ := hE j b hb
    exact ⟨_, e1, Hd.cpI (by rw [upd_ne (ne_of_none e2 hr)]; exact e2)⟩
theorem c_couples_of (T : TX K mg) : Cal (L2.CX P w) P w K mg base 1 "couples_of" (sp_couples_of K) [] :=
  cal_mk T.f_couples_of T.g_couples_of ⟨rfl, rfl⟩ (fun _ _ _ _ _ _ us hl => match us, hl with | [_, _], _ => rfl) sc_couples_of (fun vs H Q E h => by obtain ⟨p, g, a, ns, rfl, _⟩ := h; rfl) (k_couples_of T)
end

end K53
namespace K53
open PySem PySem.Spec PyProof.Rows L2
/-! ### lists_ahead -/
def aheadD (g : Hou) : PyData := .list ((List.range g.n).map fun a => .list (ivD (g.ahead a)))
theorem iv_int (ns : List Nat) : ivs ns = (ns.map fun (n : Nat) => (n : Int)).map V.int := by unfold ivs; rw [List.map_map]; rfl
theorem nh_refs : ∀ ps : List Addr, nh (ps.map V.ref) = true
  | [] => rfl
  | [_] => rfl
  | [_, _] => rfl
  | [_, _, _] => rfl
  | [_, _, _, _] => rfl
  | _ :: _ :: _ :: _ :: _ :: _ => rfl
def adrOf : Option V → Addr
  | some (.ref t) => t
  | _ => 0
abbrev N_lists_ahead : List Str := ["house", "size", "lists", "row", "place", "numbers"]
theorem sc_lists_ahead : FnScope N_lists_ahead ["house"] (defScope s_lists_ahead) := C8.fnScope_by (by decide +kernel)
def sp_lists_ahead (K : PySem.W.Frag) : Sp := fun vs H Q _ => ∃ p g, vs = [.ref p] ∧ HouO K H p g ∧ ∀ H' D, Same H H' → H D = none → Hd H' (.ref D) (aheadD g) → Q (.ref D) H'
section
variable {P : Program} {w : World} {K : PySem.W.Frag} {mg : Str → Option Value} {base : Heap}
theorem k_lists_ahead (T : TX K mg) : Keeps (L2.CX P w) P w K mg base d_lists_ahead N_lists_ahead 0 (sp_lists_ahead K) := by
  intro cdv A outer s H vs Q E hr hsp
  obtain ⟨p, g, rfl, hh, q⟩ := hsp
  have o := hh.ok
  have hls := o.l2
  have hl4 := o.l4
  have h16 := o.n16
  have nd := sc_lists_ahead.nd
  have hu := hu_of hr
  have hu64 := hr.units
  refine ⟨_, (pss_cons (ps_set (i := 1) nd rfl (Or.inl rfl) (pe_fldK (K := K) rfl (pv 0) (by rfl)))
  (pss_cons (ps_setLc (i := 2) (own := [("row", 3)]) (tt := tYes) rfl nd rfl rfl (sw_true rfl rfl rfl (by decide +kernel)) (pi_tupK (K := K) rfl (pe_fldK (K := K) rfl (pv 0) (by rfl))) (blkOk_by (N := N_lists_ahead) (sc := (defScope s_lists_ahead)) (by decide +kernel)) (fun _ _ _ _ _ => (pg_name (i := 3) nd rfl (Or.inl rfl))) (fun _ _ _ _ _ => pts_nil) (fun _ _ _ _ _ => (pe_lst pa_nil)))
  (pss_cons (ps_for (passes_of rfl) rfl (pi_enumT (K := K) rfl (by rfl) T.b_enumerate (pa_cons (pe_fldK (K := K) rfl (pv 0) (by rfl)) pa_nil)) (pg_tupK (K := K) (n := 2) rfl rfl (pgs_cons (pg_name (i := 4) nd rfl (Or.inl rfl)) (pgs_cons (pg_name (i := 3) nd rfl (Or.inl rfl)) pgs_nil))) (pss_one (ps_expr (pe_bmK (K := K) rfl PySem.F.plainAttrs_list PySem.F.slot_list_append PySem.F.type_list_append mt_append (pe_ix (ix_listK (K := K) rfl) (pv 2) (pe_op op_add (pe_op op_mul (pe_op op_fdivW (pv 4) (pv 1)) (pv 1)) (pe_ix (ix_tupK (K := K) rfl) (pv 3) pe_int (fun _ _ => rfl))) (fun _ _ => rfl)) (pa_cons (pe_op op_add (pe_op op_mul (pe_ix (ix_tupK (K := K) rfl) (pv 3) pe_int (fun _ _ => rfl)) (pv 1)) (pe_op op_mod (pv 4) (pv 1))) pa_nil)))))
  (pss_one (ps_ret (pe_lc (own := [("numbers", 5)]) (tt := tYes) rfl nd (pi_listK (K := K) rfl (pv 2)) (blkOk_by (N := N_lists_ahead) (sc := (defScope s_lists_ahead)) (by decide +kernel)) (fun _ _ _ _ _ => (pg_name (i := 5) nd rfl (Or.inl rfl))) (fun _ _ _ _ _ => pts_nil) (fun _ _ _ _ _ => (pe_callB (cr_sortedIK (K := K) rfl) (by rfl) T.b_sorted (by decide +kernel) (pa_cons (pv 5) pa_nil))))))))), ?_⟩
  refine st_eq (σ := [some (.ref p), none, none, none, none, none]) rfl ?_
  walk_at "s"
  refine s_ls T hh ?_
  walk_at "s"
  obtain ⟨dx, fs, r, hp1, hp2, hp3, hp4, hr⟩ := hh.at_
  refine s_fld hp1 T.cl_House T.na_House_rows hp4 ?_
  walk_at "s"
  obtain ⟨rs, hr1, hr2, hr3⟩ := rows_at hr
  rw [o.len] at hr2 hr3
  refine s_iTc (SqT.of hr1) ?_
  refine lc_g (walk_tup (xs := rs)) (fun D i acc H' => Same H H' ∧ ∃ qs : List Addr, acc = qs.map V.ref ∧ qs.length = i ∧ qs.Nodup ∧ ∀ q ∈ qs, q ≠ D ∧ H q = none ∧ H' q = some (.lst []))
    (fun D hD => ⟨L2.Same.up hD, [], rfl, rfl, List.nodup_nil, fun q hq => by cases hq⟩) (fun D i acc H' h => SqT.of (h.1 _ _ hr1)) (fun D i x acc H1 H1' hD hi hd hl hA hY => ?_) (fun L acc H1 hL hd hl hA => ?_)
  · obtain ⟨rfl, hx⟩ := hY
    obtain ⟨sm, qs, rfl, hq1, hq2, hq3⟩ := hA
    walk_at "s"
    refine ⟨rfl, ?_⟩
    walk_at "s"
    refine s_tl (Nat.zero_le _) fun t ht => ?_
    have htD : t ≠ D := (ne_of_none hd ht).symm
    refine lc_put (by rw [upd_ne htD.symm]; exact hd) hl (by omega) ⟨(sm.upT ht).mut hD, qs ++ [t], by rw [List.map_append]; rfl, by rw [List.length_append, hq1]; rfl, ?_, fun z hz => ?_⟩
    · rw [List.nodup_append]
      refine ⟨hq2, List.pairwise_singleton .., fun a ha b hb e => ?_⟩
      rw [List.mem_singleton] at hb
      subst hb
      subst e
      have := (hq3 a ha).2.2
      rw [ht] at this
      cases this
    · rcases List.mem_append.mp hz with hz | hz
      · obtain ⟨h1, h2, h3⟩ := hq3 z hz
        refine ⟨h1, h2, ?_⟩
        rw [upd_ne h1, upd_ne (ne_of_none h3 ht)]
        exact h3
      · rw [List.mem_singleton] at hz
        subst hz
        refine ⟨htD, ?_, ?_⟩
        · cases e : H z with
          | none => rfl
          | some u =>
            have := sm _ _ e
            rw [ht] at this
            cases this
        · rw [upd_ne htD, upd_same]
  · obtain ⟨sm, qs, rfl, hq1, hq2, hq3⟩ := hA
    rw [hr2] at hq1
    -- the lists by number
    let qa : Nat → Addr := fun a => qs.getD a 0
    have qa_at : ∀ a, a < g.n → qs[a]? = some (qa a) := fun a ha => by
      show _ = some (qs.getD a 0)
      rw [List.getD_eq_getElem?_getD, List.getElem?_eq_getElem (by omega)]
      rfl
    have qa_mem : ∀ a, a < g.n → qa a ∈ qs := fun a ha => List.mem_of_getElem? (qa_at a ha)
    have qa_ne : ∀ a b, a < g.n → b < g.n → a ≠ b → qa a ≠ qa b := fun a b ha hb ne e => by
      have h1 := qa_at a ha
      have h2 := qa_at b hb
      rw [e] at h1
      exact ne ((List.getElem?_inj (by omega) hq2).mp (h1.trans h2.symm))
    have qs_eq : qs.map V.ref = (List.range g.n).map fun a => V.ref (qa a) := by
      apply List.ext_getElem?
      intro i
      rw [List.getElem?_map, List.getElem?_map]
      by_cases hi : i < g.n
      · rw [qa_at i hi, List.getElem?_range hi]
        rfl
      · rw [List.getElem?_eq_none (by omega), List.getElem?_eq_none (by rw [List.length_range]; omega)]
        rfl
    walk_at "s"
    refine s_fld (sm _ _ hp1) T.cl_House T.na_House_rows hp4 ?_
    walk_at "s"
    refine s_iETf (SqT.of (sm _ _ hr1)) ?_
    refine for_eT (fun i σ H3 => ∃ x y z, σ = [some (.ref p), some (.int (g.ls : Int)), some (.ref L), x, y, z] ∧ Same H H3 ∧ H3 L = some (.lst (qs.map V.ref)) ∧ ∀ a, a < g.n → H3 (qa a) = some (.lst (ivs (g.gat i a))))
      ⟨_, _, _, rfl, sm, hd, fun a ha => (hq3 _ (qa_mem a ha)).2.2⟩ (fun i σ H3 h => by obtain ⟨x, y, z, e, s1, _⟩ := h; exact SqT.of (s1 _ _ hr1)) (fun i x Tp σ H3 hx hP hT => ?_) (fun σ H3 hP => ?_)
    · obtain ⟨x1, x2, x3, rfl, s3, h2, h3⟩ := hP
      have hi : i < g.n := by
        have := (List.getElem?_eq_some_iff.mp hx).1
        omega
      obtain ⟨rv, hv1, hv2⟩ := hr3 i hi
      rw [hv1] at hx
      cases hx
      obtain ⟨rp, rfl, hrp⟩ := (hv2.to s3).cp
      have hin := Hou.row_in o hi
      have hsl := Hou.src_lt o hi
      have s4 : Same H3 (upd H3 Tp (.tup [.int (i : Nat), .ref rp])) := L2.Same.up hT
      walk_at "s"
      refine s_gt2 (SqT.of upd_same) ?_
      walk_at "s"
      refine s_divN (by omega) (by omega) ?_
      walk_at "s"
      refine s_mulN (by have := o.h4; have := Hou.div_lt o hi; omega) ?_
      walk_at "s"
      refine s_ixT1 (SqT.of (s4 _ _ hrp)) ?_
      walk_at "s"
      refine s_ixL (v := .ref (qa (g.src i))) (SqL.of (s4 _ _ h2)) (by rw [List.getElem?_map]; show (qs[g.src i]?).map _ = _; rw [qa_at _ hsl]; rfl) ?_
      refine ⟨.inl ⟨rfl, _, SqL.of (s4 _ _ (h3 _ hsl))⟩, ?_⟩
      walk_at "s"
      refine s_ixT0 (SqT.of (s4 _ _ hrp)) ?_
      walk_at "s"
      refine s_mulN (by have := o.h4; omega) ?_
      walk_at "s"
      refine s_modN (by omega) ?_
      walk_at "s"
      have hle : (ivs (g.gat i (g.src i))).length ≤ i := by
        rw [iv_len]
        unfold Hou.gat
        rw [List.length_map]
        refine Nat.le_trans (List.length_filter_le _ _) ?_
        rw [List.length_range]
        exact Nat.le_refl _
      refine ⟨_, _, _, rfl, rfl, s4 _ _ (h3 _ hsl), sz16l (by omega), ?_⟩
      have hnone : H (qa (g.src i)) = none := (hq3 _ (qa_mem _ hsl)).2.1
      have hqL : qa (g.src i) ≠ L := (hq3 _ (qa_mem _ hsl)).1
      have keep : ∀ b u, b ≠ qa (g.src i) → H3 b = some u → upd (upd H3 Tp (.tup [.int (i : Nat), .ref rp])) (qa (g.src i)) (.lst (ivs (g.gat i (g.src i)) ++ [V.int ((g.tgt i : Nat) : Int)])) b = some u := fun b u hb hu => by rw [upd_ne hb]; exact s4 _ _ hu
      refine ⟨_, _, _, rfl, (s3.trans s4).mut hnone, keep _ _ (Ne.symm hqL) h2, fun a ha => ?_⟩
      rw [Hou.gat_succ]
      by_cases e : g.src i = a
      · subst e
        rw [if_pos rfl, upd_same]
        unfold ivs
        rw [List.map_append]
        rfl
      · rw [if_neg e]
        exact keep _ _ (qa_ne a _ ha hsl (Ne.symm e)) (h3 a ha)
    · obtain ⟨x1, x2, x3, rfl, s3, h2, h3⟩ := hP
      rw [hr2] at h3
      walk_at "s"
      refine s_iLc (SqL.of h2) ?_
      rw [qs_eq] at h2
      refine lc_e (List.range g.n) (u := fun a => V.ref (qa a)) (ElO fun a => .lst (ivs (g.ahead a))) (by rw [← qs_eq]; exact walk_list) (by rw [List.length_map, List.length_range]; exact hq1) (by rw [List.length_range]; omega) (fun H' s' => by rw [qs_eq]; exact SqL.of (s' _ _ h2)) (fun D i a acc H4 c => ?_) (fun D acc H4 hD s4 hD1 hl2 hE => ?_)
      · have ha : a < g.n := by
          have := List.mem_range.mp (List.mem_of_getElem? c.ai)
          exact this
        walk_at "s"
        refine ⟨rfl, ?_⟩
        walk_at "s"
        refine ⟨_, _, rfl, by rw [← iv_int]; exact SqL.of (c.sm _ _ (h3 a ha)), fun ns' t hp hs ht => ?_⟩
        have e := Hou.gat_srt o ha hp hs
        subst e
        rw [← iv_int]
        exact lce_yes elO_st c (L2.Same.up ht) ⟨t, rfl, (ne_of_none c.hd ht).symm, upd_same⟩
      · have hN : H D = none := by
          cases e : H D with
          | none => rfl
          | some u =>
            have := s3 _ _ e
            rw [hD] at this
            cases this
        have hAl : ∃ ts : List Addr, acc = ts.map V.ref := by
          refine ⟨(List.range g.n).map fun j => adrOf (acc[j]?), ?_⟩
          apply List.ext_getElem?
          intro j
          rw [List.map_map, List.getElem?_map]
          by_cases hj : j < g.n
          · obtain ⟨y, e1, t, rfl, _, _⟩ := hE j j (List.getElem?_range hj)
            rw [List.getElem?_range hj, e1]
            show _ = some (V.ref (adrOf (acc[j]?)))
            rw [e1]
            rfl
          · rw [List.getElem?_eq_none (by rw [hl2, List.length_range]; omega), List.getElem?_eq_none (by rw [List.length_range]; omega)]
            rfl
        obtain ⟨ts, hts⟩ := hAl
        refine q H4 D (s3.trans s4) hN (.lst hD1 (by rw [hts]; exact nh_refs ts) (hdL_of _ hl2 fun j a hj => ?_))
        obtain ⟨y, e1, t, rfl, _, e2⟩ := hE j a hj
        exact ⟨_, e1, Hd.iv e2⟩
theorem c_lists_ahead (T : TX K mg) : Cal (L2.CX P w) P w K mg base 1 "lists_ahead" (sp_lists_ahead K) [] :=
  cal_mk T.f_lists_ahead T.g_lists_ahead ⟨rfl, rfl⟩ (fun _ _ _ _ _ _ us hl => match us, hl with | [_], _ => rfl) sc_lists_ahead (fun vs H Q E h => by obtain ⟨p, g, rfl, _⟩ := h; rfl) (k_lists_ahead T)
end

end K53
namespace K53
open PySem PySem.Spec PyProof.Rows L2
/-! ### numbers_after -/
theorem ahead_at {H : Hp} {g : Hou} {v : V} (h : Hd H v (aheadD g)) : ∃ L xs, v = .ref L ∧ H L = some (.lst xs) ∧ xs.length = g.n ∧ ∀ a, a < g.n → ∃ q, xs[a]? = some (.ref q) ∧ H q = some (.lst (ivs (g.ahead a))) := by
  obtain ⟨L, xs, e, h1, _, h2⟩ := h.lst_eq
  refine ⟨L, xs, e, h1, by rw [h2.len, List.length_map, List.length_range], fun a ha => ?_⟩
  obtain ⟨v', e1, e2⟩ := h2.get (i := a) (d := .list (ivD (g.ahead a))) (by rw [List.getElem?_map, List.getElem?_range ha]; rfl)
  obtain ⟨q, rfl, hq⟩ := e2.iv_eq
  exact ⟨q, e1, hq⟩
abbrev N_numbers_after : List Str := ["lists", "numbers", "place", "goal"]
theorem sc_numbers_after : FnScope N_numbers_after ["lists", "numbers"] (defScope s_numbers_after) := C8.fnScope_by (by decide +kernel)
def sp_numbers_after (K : PySem.W.Frag) : Sp := fun vs H Q _ => ∃ (g : Hou) (S : List Nat) (lv nv : V), vs = [lv, nv] ∧ g.n ≤ 16 ∧ Hd H lv (aheadD g) ∧ Seq K H nv (ivs S) ∧ (∀ x ∈ S, x < g.n) ∧
  ∀ r H', Same H H' → H r = none → H' r = some (.tup (ivs (g.nxt S))) → Q (.ref r) H'
section
variable {P : Program} {w : World} {K : PySem.W.Frag} {mg : Str → Option Value} {base : Heap}
theorem k_numbers_after (T : TX K mg) : Keeps (L2.CX P w) P w K mg base d_numbers_after N_numbers_after 0 (sp_numbers_after K) := by
  intro cdv A outer s H vs Q E hr hsp
  obtain ⟨g, S, lv, nv, rfl, h16, hL, hS, hlt, q⟩ := hsp
  obtain ⟨L, xs, rfl, hL1, hL2, hL3⟩ := ahead_at hL
  have nd := sc_numbers_after.nd
  have hu := hu_of hr
  have hu64 := hr.units
  refine ⟨_, (pss_one (ps_ret (pe_tupleOfK (K := K) rfl (by rfl) T.b_tuple (pe_callB (cr_sortedSet rfl) (by rfl) T.b_sorted (by decide +kernel) (pa_cons (pe_sc2 (own := [("place", 2), ("goal", 3)]) (vs1 := [3]) rfl nd (pi_seqK (K := K) rfl (pv 1)) (blkOk_by (N := N_numbers_after) (sc := (defScope s_numbers_after)) (by decide +kernel)) (by decide) (fun _ _ _ _ _ => (pg_name (i := 2) nd rfl (Or.inl rfl))) (fun _ _ _ _ _ => pts_nil) (fun _ _ _ _ _ => (pi_listK (K := K) rfl (pe_ix (ix_listK (K := K) rfl) (pv 0) (pv 2) (fun _ _ => rfl)))) (fun _ _ _ _ _ => (pg_name (i := 3) nd rfl (Or.inl rfl))) (fun _ _ _ _ _ => pts_nil) (fun _ _ _ _ _ => (pv 3))) pa_nil))))), ?_⟩
  refine st_eq (σ := [some (.ref L), some (nv), none, none]) rfl ?_
  walk_at "s"
  refine s_iSs hS fun J G W hG => ?_
  have hSl : (ivs S).length = S.length := iv_len S
  have lt_of : ∀ ms : List Nat, ms.Nodup → (∀ x ∈ ms, x < g.n) → ms.length ≤ 16 := fun ms h1 h2 => Nat.le_trans (nd_lt h1 h2) h16
  refine sc_out W (fun D i H1 => Same H H1 ∧ ∃ ms, SetN w D ms H1 ∧ (∀ x ∈ ms, x < g.n) ∧ ∀ b, b ∈ ms ↔ b < g.n ∧ ∃ a, a ∈ S.take i ∧ g.stp a b = true)
    (fun D hD => ⟨L2.Same.up hD, [], setN0, (fun x hx => by cases hx), (fun b => by constructor <;> intro z <;> simp at z)⟩)
    (fun D i H1 h => hG H1 h.1) (fun D i x H1 H1' hD hi hP hY => ?_) (fun D H1 hD hP => ?_)
  · obtain ⟨rfl, hx⟩ := hY
    obtain ⟨sm, ms, hm1, hm2, hm3⟩ := hP
    have hi2 : i < S.length := by omega
    have hSi : S[i]? = some S[i] := List.getElem?_eq_getElem hi2
    rw [iv_get hSi] at hx
    cases hx
    have ha := hlt _ (List.getElem_mem hi2)
    obtain ⟨qa, hq1, hq2⟩ := hL3 _ ha
    have hah : ∀ b, b ∈ g.ahead S[i] ↔ b < g.n ∧ g.stp S[i] b = true := fun b => Hou.mem_ahead
    walk_at "s"
    refine ⟨rfl, ?_⟩
    walk_at "s"
    refine s_ixL (SqL.of (sm _ _ hL1)) hq1 ?_
    refine s_iLs (SqL.of (sm _ _ hq2)) ?_
    refine sc_in walk_list (fun j H2 => Same H H2 ∧ ∃ ms, SetN w D ms H2 ∧ (∀ x ∈ ms, x < g.n) ∧ ∀ b, b ∈ ms ↔ (b < g.n ∧ ∃ a, a ∈ S.take i ∧ g.stp a b = true) ∨ b ∈ (g.ahead S[i]).take j)
      ⟨sm, ms, hm1, hm2, fun b => by rw [hm3 b]; exact ⟨.inl, fun z => z.elim id fun z => by simp at z⟩⟩ (fun j H2 h => SqL.of (h.1 _ _ hq2)) (fun j x H2 H2' hj hP hY => ?_) (fun H2 hP => ?_)
    · obtain ⟨rfl, hx⟩ := hY
      obtain ⟨sm2, ms2, hn1, hn2, hn3⟩ := hP
      have hj2 : j < (g.ahead S[i]).length := by rwa [iv_len] at hj
      have hbj : (g.ahead S[i])[j]? = some (g.ahead S[i])[j] := List.getElem?_eq_getElem hj2
      rw [iv_get hbj] at hx
      cases hx
      have hb := (hah _).mp (List.getElem_mem hj2)
      walk_at "s"
      refine ⟨rfl, ?_⟩
      walk_at "s"
      obtain ⟨S', n', e1, e2, e3⟩ := setN_add (m := (g.ahead S[i])[j]) hn1
      have hlen := lt_of _ hn1.1 hn2
      refine ⟨_, S', n', rfl, e1, by rw [e2]; exact Nat.lt_of_le_of_lt (Nat.succ_le_succ hlen) (by decide), sm2.mut hD, _, e3, fun x hx => ?_, fun b => ?_⟩
      · split at hx
        · exact hn2 x hx
        · rcases List.mem_append.mp hx with hx | hx
          · exact hn2 x hx
          · rw [List.mem_singleton] at hx
            rw [hx]
            exact hb.1
      · have tk : b ∈ (g.ahead S[i]).take (j + 1) ↔ b ∈ (g.ahead S[i]).take j ∨ b = (g.ahead S[i])[j] := by
          rw [List.take_add_one, hbj, List.mem_append]
          show _ ∨ b ∈ [(g.ahead S[i])[j]] ↔ _
          rw [List.mem_singleton]
        rw [tk]
        split
        · rename_i hmem
          rw [hn3 b]
          constructor
          · rintro (z | z)
            · exact .inl z
            · exact .inr (.inl z)
          · rintro (z | z | z)
            · exact .inl z
            · exact .inr z
            · rw [z]
              exact (hn3 _).mp hmem
        · rw [List.mem_append, List.mem_singleton, hn3 b, or_assoc]
    · obtain ⟨sm2, ms2, hn1, hn2, hn3⟩ := hP
      refine ⟨sm2, ms2, hn1, hn2, fun b => ?_⟩
      rw [hn3 b, iv_len, List.take_length, hah b]
      have tk : ∀ a, a ∈ S.take (i + 1) ↔ a ∈ S.take i ∨ a = S[i] := fun a => by
        rw [List.take_add_one, hSi, List.mem_append]
        show _ ∨ a ∈ [S[i]] ↔ _
        rw [List.mem_singleton]
      constructor
      · rintro (⟨h1, a, h2, h3⟩ | ⟨h1, h2⟩)
        · exact ⟨h1, a, (tk a).mpr (.inl h2), h3⟩
        · exact ⟨h1, _, (tk _).mpr (.inr rfl), h2⟩
      · rintro ⟨h1, a, h2, h3⟩
        rcases (tk a).mp h2 with h2 | rfl
        · exact .inl ⟨h1, a, h2, h3⟩
        · exact .inr ⟨h1, h3⟩
  · obtain ⟨sm, ms, ⟨hn, S', e1, e2⟩, hm2, hm3⟩ := hP
    rw [hSl, List.take_length] at hm3
    walk_at "s"
    have hlen := lt_of _ hn hm2
    refine ⟨D, S', _, rfl, e1, by omega, fun ns t hs hm hl ht => ?_⟩
    have e : ns = (g.nxt S).map fun (m : Nat) => (m : Int) := by
      obtain ⟨ks, rfl⟩ := nats_of (ns := ns) fun x hx => by
        obtain ⟨m, _, rfl⟩ := (e2 x).mp ((hm x).mp hx)
        omega
      refine congrArg _ (lt_uniq ?_ filter_lt fun x => ?_)
      · rw [List.pairwise_map] at hs
        exact hs.imp fun h => by omega
      · show x ∈ ks ↔ x ∈ g.nxt S
        rw [Hou.mem_nxt, ← hm3 x]
        have q1 := hm (x : Int)
        rw [e2, List.mem_map] at q1
        constructor
        · intro hx
          obtain ⟨m, h1, h2⟩ := q1.mp ⟨x, hx, rfl⟩
          rw [show x = m by omega]
          exact h1
        · intro hx
          obtain ⟨m, h1, h2⟩ := q1.mpr ⟨x, hx, rfl⟩
          rw [show x = m by omega]
          exact h1
    subst e
    rw [← iv_int]
    exact s_kTupL upd_same fun r hr => q r _ ((sm.upT ht).upT hr) (same_none (sm.upT ht) hr) upd_same
theorem c_numbers_after (T : TX K mg) : Cal (L2.CX P w) P w K mg base 1 "numbers_after" (sp_numbers_after K) [] :=
  cal_mk T.f_numbers_after T.g_numbers_after ⟨rfl, rfl⟩ (fun _ _ _ _ _ _ us hl => match us, hl with | [_, _], _ => rfl) sc_numbers_after (fun vs H Q E h => by obtain ⟨g, S, lv, nv, rfl, _⟩ := h; rfl) (k_numbers_after T)
end

end K53
namespace K53
open PySem PySem.Spec PyProof.Rows L2
/-! ### lots_in_turn, lot_behind, has_story -/
/-- the pair of the lots and of the place where they come round -/
def LotsO (H : Hp) (r : Addr) (g : Hou) (S : List Nat) (T m : Nat) : Prop := ∃ L xs, H r = some (.tup [.ref L, .int (m : Int)]) ∧ H L = some (.lst xs) ∧ xs.length = T ∧ ∀ i, i < T → ∃ p, xs[i]? = some (.ref p) ∧ H p = some (.tup (ivs (g.lot S i)))
theorem LotsO.to {H H' : Hp} {r : Addr} {g : Hou} {S : List Nat} {T m : Nat} (h : LotsO H r g S T m) (s : Same H H') : LotsO H' r g S T m := by
  obtain ⟨L, xs, h1, h2, h3, h4⟩ := h
  exact ⟨L, xs, s _ _ h1, s _ _ h2, h3, fun i hi => let ⟨p, a, b⟩ := h4 i hi; ⟨p, a, s _ _ b⟩⟩
abbrev N_lots_in_turn : List Str := ["lists", "numbers", "lots", "places", "now"]
theorem sc_lots_in_turn : FnScope N_lots_in_turn ["lists", "numbers"] (defScope s_lots_in_turn) := C8.fnScope_by (by decide +kernel)
abbrev N_lot_behind : List Str := ["lists", "numbers", "days", "lots", "head"]
theorem sc_lot_behind : FnScope N_lot_behind ["lists", "numbers", "days"] (defScope s_lot_behind) := C8.fnScope_by (by decide +kernel)
abbrev N_has_story : List Str := ["house", "days", "hand", "blank", "reach", "number"]
theorem sc_has_story : FnScope N_has_story ["house", "days", "hand", "blank"] (defScope s_has_story) := C8.fnScope_by (by decide +kernel)
def sp_lots_in_turn : Sp := fun vs H Q _ => ∃ (g : Hou) (S : List Nat) (lv : V) (a : Addr), vs = [lv, .ref a] ∧ g.Ok ∧ Hd H lv (aheadD g) ∧ H a = some (.lst (ivs S)) ∧ (∀ x ∈ S, x < g.n) ∧
  ∀ r H' T m, Same H H' → H r = none → Orb (g.lot S) T m → LotsO H' r g S T m → Q (.ref r) H'
def sp_lot_behind : Sp := fun vs H Q _ => ∃ (g : Hou) (S : List Nat) (lv : V) (a : Addr) (d : Nat), vs = [lv, .ref a, .int (d : Int)] ∧ g.Ok ∧ Hd H lv (aheadD g) ∧ H a = some (.lst (ivs S)) ∧ (∀ x ∈ S, x < g.n) ∧
  ∀ r H', Same H H' → H' r = some (.tup (ivs (g.lot S d))) → Q (.ref r) H'
section
variable {P : Program} {w : World} {K : PySem.W.Frag} {mg : Str → Option Value} {base : Heap}
theorem k_lots_in_turn (T : TX K mg) : Keeps (L2.CX P w) P w K mg base d_lots_in_turn N_lots_in_turn 1 sp_lots_in_turn := by
  intro cdv A outer s H vs Q E hr hsp
  obtain ⟨g, S, lv, a, rfl, o, hL, ha, hlt, q⟩ := hsp
  have nd := sc_lots_in_turn.nd
  have hu := hu_of hr
  have hu64 := hr.units
  refine ⟨_, (pss_cons (ps_set (i := 2) nd rfl (Or.inl rfl) (pe_lst pa_nil))
  (pss_cons (ps_set (i := 3) nd rfl (Or.inl rfl) pe_dnewT)
  (pss_cons (ps_set (i := 4) nd rfl (Or.inl rfl) (pe_tupleOfK (K := K) rfl (by rfl) T.b_tuple (pv 1)))
  (pss_cons (ps_while (passes_of rfl) (pt_cmp (pc_dnotin hu (pv 4) (pv 3))) (pss_cons (ps_dput hu (pv 3) (pv 4) (pe_callB (call_lenK (K := K) rfl) (by rfl) T.b_len PySem.boot_len (pa_cons (pv 2) pa_nil)) rfl)
  (pss_cons (ps_expr (pe_bmK (K := K) rfl PySem.F.plainAttrs_list PySem.F.slot_list_append PySem.F.type_list_append mt_append (pv 2) (pa_cons (pv 4) pa_nil)))
  (pss_one (ps_set (i := 4) nd rfl (Or.inl rfl) (pe_cl (c_numbers_after T) hr (by decide) (pa_cons (pv 0) (pa_cons (pv 4) pa_nil)) passL))))))
  (pss_one (ps_ret (pe_tup (pa_cons (pv 2) (pa_cons (pe_dget hu (pv 3) (pv 4) (fun _ _ => rfl)) pa_nil))))))))), ?_⟩
  refine st_eq (σ := [some (lv), some (.ref a), none, none, none]) rfl ?_
  walk_at "s"
  refine s_tl (Nat.zero_le _) fun L hLn => ?_
  walk_at "s"
  refine s_dnewT fun D hDn => ?_
  have s1 : Same H (upd (upd H L (.lst [])) D (.dT [])) := (L2.Same.up hLn).upT hDn
  have hDL : D ≠ L := fun e => by rw [e, upd_same] at hDn; cases hDn
  have hDn' : H D = none := same_none (L2.Same.up hLn) hDn
  walk_at "s"
  refine s_kTupL (s1 _ _ ha) fun t ht => ?_
  walk_at "s"
  have htn : H t = none := same_none s1 ht
  have htD : t ≠ D := fun e => by rw [e, upd_same] at ht; cases ht
  have htL : t ≠ L := fun e => by rw [e, upd_ne (Ne.symm hDL), upd_same] at ht; cases ht
  refine s_wh (fun m σ H3 => ∃ i now xs, m + i = 836 ∧ σ = [some lv, some (.ref a), some (.ref L), some (.ref D), some (.ref now)] ∧ Same H H3 ∧ (∀ j k, j < k → k < i → g.lot S j ≠ g.lot S k) ∧
      H3 now = some (.tup (ivs (g.lot S i))) ∧ H3 D = some (.dT (plcs (g.lot S) i)) ∧ H3 L = some (.lst xs) ∧ xs.length = i ∧ ∀ j, j < i → ∃ p, xs[j]? = some (.ref p) ∧ H3 p = some (.tup (ivs (g.lot S j))))
    836 ⟨0, t, [], rfl, rfl, s1.upT ht, fun j k h1 h2 => absurd h2 (Nat.not_lt_zero _), upd_same, by rw [upd_ne (Ne.symm htD), upd_same]; rfl, by rw [upd_ne (Ne.symm htL), upd_ne (Ne.symm hDL), upd_same], rfl, fun j hj => absurd hj (Nat.not_lt_zero _)⟩ (fun m σ H3 hW => ?_)
  obtain ⟨i, now, xs, hm, rfl, sm, hdis, hnow, hD, hL3, hxl, hxs⟩ := hW
  have hkey : H3 now = some (.tup ((keyN (g.lot S i)).map kV)) := by rw [keyN_iv]; exact hnow
  walk_at "s"
  refine ⟨D, _, rfl, DGet.t hD hkey, ?_⟩
  walk_at "s"
  by_cases hin : ∃ j, j < i ∧ g.lot S j = g.lot S i
  · obtain ⟨j, hj, ej⟩ := hin
    have hv : valV (plcs (g.lot S) i) (keyN (g.lot S i)) = some (.int (j : Int)) := by rw [← ej]; exact plcs_some hj fun x y h1 h2 => hdis x y h1 h2
    rw [hv]
    walk_at "s"
    refine s_noN rfl ?_
    walk_at "s"
    refine ⟨D, _, rfl, by rw [← hv]; exact DGet.t hD hkey, ?_⟩
    walk_at "s"
    refine s_tl (Nat.le_of_ble_eq_true rfl) fun r hrn => ?_
    have s3 : Same H3 (upd H3 r (.tup [.ref L, .int (j : Int)])) := L2.Same.up hrn
    exact q r _ i j (sm.trans s3) (same_none sm hrn) ⟨hj, ej.symm, hdis⟩ ⟨L, xs, upd_same, s3 _ _ hL3, hxl, fun j' hj' => let ⟨p, x1, x2⟩ := hxs j' hj'; ⟨p, x1, s3 _ _ x2⟩⟩
  · have hnot : ∀ j, j < i → g.lot S j ≠ g.lot S i := fun j hj e => hin ⟨j, hj, e⟩
    rw [plcs_none hnot]
    have hdis2 : ∀ j k, j < k → k < i + 1 → g.lot S j ≠ g.lot S k := fun j k h1 h2 => by
      by_cases e : k = i
      · subst e
        exact hnot j h1
      · exact hdis j k h1 (by omega)
    have hb := Hou.dif_le o hlt hdis2
    walk_at "s"
    refine s_yesN rfl ⟨fun σ' H' => ∃ now xs, σ' = [some lv, some (.ref a), some (.ref L), some (.ref D), some (.ref now)] ∧ Same H H' ∧
      H' now = some (.tup (ivs (g.lot S (i + 1)))) ∧ H' D = some (.dT (plcs (g.lot S) (i + 1))) ∧ H' L = some (.lst xs) ∧ xs.length = i + 1 ∧ ∀ j, j < i + 1 → ∃ p, xs[j]? = some (.ref p) ∧ H' p = some (.tup (ivs (g.lot S j))), fun σ' H' hN => ?_, ?_⟩
    · obtain ⟨now', xs', e, n1, n2, n3, n4, n5, n6⟩ := hN
      exact ⟨m - 1, by omega, i + 1, now', xs', by omega, e, n1, hdis2, n2, n3, n4, n5, n6⟩
    walk_at "s"
    refine s_lenL hL3 ?_
    walk_at "s"
    rw [hxl]
    have hpl : (plcs (g.lot S) i).length < sizeLine := sz16l (by unfold plcs; rw [List.length_map, List.length_range]; omega)
    refine ⟨D, _, rfl, DPut.t hD hkey hpl, ?_⟩
    rw [plcs_put hnot]
    have hLD : L ≠ D := Ne.symm hDL
    have nD : now ≠ D := fun e => by rw [e, hD] at hnow; cases hnow
    have nL : now ≠ L := fun e => by rw [e, hL3] at hnow; cases hnow
    have s4 : Same H (upd H3 D (.dT (plcs (g.lot S) (i + 1)))) := sm.mut hDn'
    walk_at "s"
    refine ⟨.inl ⟨rfl, xs, SqL.of (by rw [upd_ne hLD]; exact hL3)⟩, ?_⟩
    walk_at "s"
    refine ⟨L, xs, .ref now, rfl, rfl, by rw [upd_ne hLD]; exact hL3, sz16l (by omega), ?_⟩
    have s5 : Same H (upd (upd H3 D (.dT (plcs (g.lot S) (i + 1)))) L (.lst (xs ++ [.ref now]))) := s4.mut hLn
    have keep : ∀ b u, b ≠ D → b ≠ L → H3 b = some u → upd (upd H3 D (.dT (plcs (g.lot S) (i + 1)))) L (.lst (xs ++ [.ref now])) b = some u := fun b u h1 h2 h => by rw [upd_ne h2, upd_ne h1]; exact h
    walk_at "s"
    refine ⟨g, g.lot S i, lv, .ref now, rfl, o.n16, hL.to s5, ⟨now, rfl, .inr (SqT.of (keep _ _ nD nL hnow))⟩, Hou.lot_lt hlt i, fun r H' s6 hrn hr' => ?_⟩
    walk_at "s"
    refine ⟨r, xs ++ [.ref now], rfl, s5.trans s6, hr', s6 _ _ (by rw [upd_ne hDL, upd_same]), s6 _ _ upd_same, by rw [List.length_append, hxl]; rfl, fun j hj => ?_⟩
    by_cases e : j = i
    · subst e
      exact ⟨now, by rw [List.getElem?_append_right (by omega), hxl, Nat.sub_self]; rfl, s6 _ _ (keep _ _ nD nL hnow)⟩
    · obtain ⟨p, x1, x2⟩ := hxs j (by omega)
      exact ⟨p, by rw [List.getElem?_append_left (by omega)]; exact x1, s6 _ _ (keep _ _ (fun e => by rw [e, hD] at x2; cases x2) (fun e => by rw [e, hL3] at x2; cases x2) x2)⟩
theorem c_lots_in_turn (T : TX K mg) : Cal (L2.CX P w) P w K mg base 2 "lots_in_turn" sp_lots_in_turn [] :=
  cal_mk T.f_lots_in_turn T.g_lots_in_turn ⟨rfl, rfl⟩ (fun _ _ _ _ _ _ us hl => match us, hl with | [_, _], _ => rfl) sc_lots_in_turn (fun vs H Q E h => by obtain ⟨g, S, lv, a, rfl, _⟩ := h; rfl) (k_lots_in_turn T)
theorem k_lot_behind (T : TX K mg) : Keeps (L2.CX P w) P w K mg base d_lot_behind N_lot_behind 2 sp_lot_behind := by
  intro cdv A outer s H vs Q E hr hsp
  obtain ⟨g, S, lv, a, d, rfl, o, hL, ha, hlt, q⟩ := hsp
  have nd := sc_lot_behind.nd
  have hu := hu_of hr
  have hu64 := hr.units
  refine ⟨_, (pss_cons (ps_asg (pe_cl (c_lots_in_turn T) hr (by decide) (pa_cons (pv 0) (pa_cons (pv 1) pa_nil)) passL) (pg_tupK (K := K) (n := 2) rfl rfl (pgs_cons (pg_name (i := 3) nd rfl (Or.inl rfl)) (pgs_cons (pg_name (i := 4) nd rfl (Or.inl rfl)) pgs_nil))))
  (pss_cons (ps_if (pt_cmpR op_lt (pv 2) (pe_callB (call_lenK (K := K) rfl) (by rfl) T.b_len PySem.boot_len (pa_cons (pv 3) pa_nil)) (nomark _)) (pss_one (ps_ret (pe_ix (ix_listK (K := K) rfl) (pv 3) (pv 2) (fun _ _ => rfl)))) pss_nil)
  (pss_one (ps_ret (pe_ix (ix_listK (K := K) rfl) (pv 3) (pe_op op_add (pv 4) (pe_op op_mod (pe_op op_sub (pv 2) (pv 4)) (pe_op op_sub (pe_callB (call_lenK (K := K) rfl) (by rfl) T.b_len PySem.boot_len (pa_cons (pv 3) pa_nil)) (pv 4)))) (fun _ _ => rfl)))))), ?_⟩
  refine st_eq (σ := [some (lv), some (.ref a), some (.int (d : Int)), none, none]) rfl ?_
  walk_at "s"
  refine ⟨g, S, lv, a, rfl, o, hL, ha, hlt, fun r H' Tt m sm hrn ob hlo => ?_⟩
  obtain ⟨L, xs, h1, h2, h3, h4⟩ := hlo
  walk_at "s"
  refine s_gt2 (SqT.of h1) ?_
  walk_at "s"
  refine s_lenL h2 ?_
  rw [h3]
  walk_at "s"
  have hTm := ob.lt
  refine s_iteD (fun e => ?_) (fun e => ?_)
  · obtain ⟨p, e1, e2⟩ := h4 d e
    walk_at "s"
    exact s_ixL (SqL.of h2) e1 (q p _ sm e2)
  · walk_at "s"
    rw [show ((d : Int) - (m : Int)) = ((d - m : Nat) : Int) by omega]
    refine s_lenL h2 ?_
    rw [h3]
    walk_at "s"
    rw [show ((Tt : Int) - (m : Int)) = ((Tt - m : Nat) : Int) by omega]
    refine s_modN (by omega) ?_
    walk_at "s"
    have hlt2 : m + (d - m) % (Tt - m) < Tt := by
      have := Nat.mod_lt (d - m) (show 0 < Tt - m by omega)
      omega
    obtain ⟨p, e1, e2⟩ := h4 _ hlt2
    rw [ob.rep (F := g.nxt) (fun _ => rfl) d (by omega)] at e2
    exact s_ixL (SqL.of h2) e1 (q p _ sm e2)
theorem c_lot_behind (T : TX K mg) : Cal (L2.CX P w) P w K mg base 3 "lot_behind" sp_lot_behind [] :=
  cal_mk T.f_lot_behind T.g_lot_behind ⟨rfl, rfl⟩ (fun _ _ _ _ _ _ us hl => match us, hl with | [_, _, _], _ => rfl) sc_lot_behind (fun vs H Q E h => by obtain ⟨g, S, lv, a, d, rfl, _⟩ := h; rfl) (k_lot_behind T)
end

end K53
namespace K53
open PySem PySem.Spec PyProof.Rows L2
/-! ### has_story -/
theorem isW_nat {d : PyData} {m : Int} (h : isW d (some 0) (some m) = true) : ∃ k : Nat, d = .int (k : Int) ∧ (k : Int) ≤ m := by
  cases d with
  | int i =>
    have h' : (decide ((0 : Int) ≤ i) && decide (i ≤ m)) = true := h
    rw [Bool.and_eq_true, decide_eq_true_iff, decide_eq_true_iff] at h'
    exact ⟨i.toNat, by rw [Int.toNat_of_nonneg h'.1], by omega⟩
  | _ => cases h
theorem isW_mk {k : Nat} {m : Int} (h : (k : Int) ≤ m) : isW (.int (k : Int)) (some 0) (some m) = true := by
  show (decide ((0 : Int) ≤ (k : Int)) && decide ((k : Int) ≤ m)) = true
  rw [decide_eq_true (by omega), decide_eq_true h]
  rfl
/-- the way out by an own error -/
def ErO (K : PySem.W.Frag) (C f : Str) (v : V) (H : Hp) (E : XK) : Prop := ∀ dx H', Same H H' → H dx = none → H' dx = some (.xd [(f, v)]) → E (.ref (gA K C)) (some dx) H'
theorem any_swap (as bs : List Nat) : (as.any fun x => decide (x ∈ bs)) = bs.any fun x => decide (x ∈ as) := by
  rw [Bool.eq_iff_iff, List.any_eq_true, List.any_eq_true]
  constructor
  · rintro ⟨x, h1, h2⟩
    exact ⟨x, of_decide_eq_true h2, decide_eq_true h1⟩
  · rintro ⟨x, h1, h2⟩
    exact ⟨x, of_decide_eq_true h2, decide_eq_true h1⟩
def sp_has_story (K : PySem.W.Frag) : Sp := fun vs H Q E => ∃ p g vd vh vb dd dh db, vs = [.ref p, vd, vh, vb] ∧ HouO K H p g ∧ Hd H vd dd ∧ Hd H vh dh ∧ Hd H vb db ∧
  (isW dd (some 0) (some 1000000000000000000000000000000) = false → ErO K "BadDays" "days" vd H E) ∧
  (isW dd (some 0) (some 1000000000000000000000000000000) = true → isW dh (some 0) (some ((g.hs : Int) - 1)) = false → ErO K "BadHand" "hand" vh H E) ∧
  (isW dd (some 0) (some 1000000000000000000000000000000) = true → isW dh (some 0) (some ((g.hs : Int) - 1)) = true → isW db (some 0) (some ((g.ls : Int) - 1)) = false → ErO K "BadLetter" "letter" vb H E) ∧
  ∀ k h b : Nat, dd = .int (k : Int) → dh = .int (h : Int) → db = .int (b : Int) → (k : Int) ≤ 1000000000000000000000000000000 → h < g.hs → b < g.ls → ∀ H', Same H H' → Q (.bl (g.tr h b k)) H'
section
variable {P : Program} {w : World} {K : PySem.W.Frag} {mg : Str → Option Value} {base : Heap}
theorem k_has_story (T : TX K mg) : Keeps (L2.CX P w) P w K mg base d_has_story N_has_story 3 (sp_has_story K) := by
  intro cdv A outer s H vs Q E hr hsp
  obtain ⟨p, g, vd, vh, vb, dd, dh, db, rfl, hh, hd, hhd, hb, e1, e2, e3, q⟩ := hsp
  have o := hh.ok
  have nd := sc_has_story.nd
  have hu := hu_of hr
  have hu64 := hr.units
  refine ⟨_, (pss_cons (ps_expr (pe_clE (c_check_days T) hr (by decide) (pa_cons (pv 1) (pa_cons (pe_gi T.i_FAR_DAYS) pa_nil)) (passes_call (takes_of rfl rfl rfl rfl) fun _ _ _ _ h => h)))
  (pss_cons (ps_expr (pe_clE (c_check_hand T) hr (by decide) (pa_cons (pv 0) (pa_cons (pv 2) pa_nil)) (passes_call (takes_of rfl rfl rfl rfl) fun _ _ _ _ h => h)))
  (pss_cons (ps_expr (pe_clE (c_check_letter T) hr (by decide) (pa_cons (pv 0) (pa_cons (pv 3) pa_nil)) (passes_call (takes_of rfl rfl rfl rfl) fun _ _ _ _ h => h)))
  (pss_cons (ps_set (i := 4) nd rfl (Or.inr rfl) (pe_cl (c_lot_behind T) hr (by decide) (pa_cons (pe_cl (c_lists_ahead T) hr (by decide) (pa_cons (pv 0) pa_nil) passL) (pa_cons (pe_cl (c_numbers_with_hand T) hr (by decide) (pa_cons (pv 0) (pa_cons (pv 2) pa_nil)) passL) (pa_cons (pv 1) pa_nil))) passL))
  (pss_one (ps_ret (pe_callB (cr_anyK (K := K) rfl rfl) (by rfl) T.b_any (by decide +kernel) (pa_cons (pe_lc (own := [("number", 5)]) (tt := tYes) rfl nd (pi_listK (K := K) rfl (pe_cl (c_numbers_with_letter T) hr (by decide) (pa_cons (pv 0) (pa_cons (pv 3) pa_nil)) passL)) (blkOk_by (N := N_has_story) (sc := (defScope s_has_story)) (by decide +kernel)) (fun _ _ _ _ _ => (pg_name (i := 5) nd rfl (Or.inl rfl))) (fun _ _ _ _ _ => pts_nil) (fun _ _ _ _ _ => (pe_cmpR (op_inK (K := K) rfl) (pv 5) (pv 4) (by rfl)))) pa_nil)))))))), ?_⟩
  refine st_eq (σ := [some (.ref p), some (vd), some (vh), some (vb), none, none]) rfl ?_
  walk_at "s"
  refine ⟨vd, dd, _, rfl, hd, fun y1 => ?_, fun n1 => e1 n1⟩
  walk_at "s"
  refine ⟨p, g, vh, dh, rfl, hh, hhd, fun y2 => ?_, fun n2 => e2 y1 n2⟩
  walk_at "s"
  refine ⟨p, g, vb, db, rfl, hh, hb, fun y3 => ?_, fun n3 => e3 y1 y2 n3⟩
  obtain ⟨k, rfl, hk⟩ := isW_nat y1
  obtain ⟨h, rfl, hh2⟩ := isW_nat y2
  obtain ⟨b, rfl, hb2⟩ := isW_nat y3
  have hlt : h < g.hs := by omega
  have blt : b < g.ls := by omega
  cases hd
  cases hhd
  cases hb
  have q := q k h b rfl rfl rfl hk hlt blt
  walk_at "s"
  refine ⟨p, g, rfl, hh, fun H1 L1 s1 hL1 hL => ?_⟩
  walk_at "s"
  refine ⟨p, g, h, rfl, hh.to s1, hlt, fun H2 D2 s2 hD2 hD => ?_⟩
  walk_at "s"
  refine ⟨g, g.wh h, _, D2, k, rfl, o, hL.to s2, hD, Hou.wh_lt o hlt, fun r H3 s3 hr3 => ?_⟩
  walk_at "s"
  have s13 := (s1.trans s2).trans s3
  refine ⟨p, g, b, rfl, hh.to s13, blt, fun H4 D4 s4 hD4 hD4' => ?_⟩
  refine s_iLc (SqL.of hD4') ?_
  refine lc_f (g.wl b) (fun n => some (.bl (decide (n ∈ g.lot (g.wh h) k)))) walk_list (iv_len _) (by unfold Hou.wl; rw [List.length_map, List.length_range]; have := o.h4; omega) (fun H' s' => SqL.of (s' _ _ hD4')) (fun D i n H5 c => ?_) (fun D H5 hD5 s5 e5 => ?_)
  · walk_at "s"
    refine ⟨rfl, ?_⟩
    walk_at "s"
    refine s_inN (.inr (c.sm _ _ (s4 _ _ hr3))) ?_
    exact lc_yes c (L2.Same.refl _) rfl
  · rw [fm_map] at e5
    walk_at "s"
    refine ⟨D, (g.wl b).map fun n => decide (n ∈ g.lot (g.wh h) k), rfl, SqL.of (by rw [e5, List.map_map]; rfl), ?_⟩
    have z : ((g.wl b).map fun n => decide (n ∈ g.lot (g.wh h) k)).any id = g.tr h b k := by
      rw [List.any_map]
      exact any_swap _ _
    rw [z]
    exact q H5 ((s13.trans s4).trans s5)
theorem c_has_story (T : TX K mg) : Cal (L2.CX P w) P w K mg base 4 "has_story" (sp_has_story K) [] :=
  cal_mk T.f_has_story T.g_has_story ⟨rfl, rfl⟩ (fun _ _ _ _ _ _ us hl => match us, hl with | [_, _, _, _], _ => rfl) sc_has_story (fun vs H Q E h => by obtain ⟨p, g, vd, vh, vb, dd, dh, db, rfl, _⟩ := h; rfl) (k_has_story T)
end

end K53
namespace K53
open PySem PySem.Spec PyProof.Rows L2
/-! ### comes_back, common_turn -/
def cbB (ns : List Nat) (h t q : Nat) : Bool := (ns.filter fun n => decide (h ≤ n)).all fun n => decide (h + (n - h + q) % t ∈ ns)
abbrev N_comes_back : List Str := ["have", "head", "turn", "part", "number"]
theorem sc_comes_back : FnScope N_comes_back ["have", "head", "turn", "part"] (defScope s_comes_back) := C8.fnScope_by (by decide +kernel)
abbrev N_common_turn : List Str := ["first", "second", "big", "small"]
theorem sc_common_turn : FnScope N_common_turn ["first", "second"] (defScope s_common_turn) := C8.fnScope_by (by decide +kernel)
def sp_comes_back : Sp := fun vs H Q _ => ∃ (D : Addr) (ns : List Nat) (h t q : Nat), vs = [.ref D, .int (h : Int), .int (t : Int), .int (q : Int)] ∧ H D = some (.dK (haveK ns)) ∧ ns.length ≤ 100000 ∧ 0 < t ∧ ∀ H', Same H H' → Q (.bl (cbB ns h t q)) H'
def sp_common_turn : Sp := fun vs H Q _ => ∃ a b : Nat, vs = [.int (a : Int), .int (b : Int)] ∧ 0 < a ∧ 0 < b ∧ a < 100000000 ∧ b < 100000000 ∧ Q (.int ((Nat.lcm a b : Nat) : Int)) H
section
variable {P : Program} {w : World} {K : PySem.W.Frag} {mg : Str → Option Value} {base : Heap}
theorem k_comes_back (T : TX K mg) : Keeps (L2.CX P w) P w K mg base d_comes_back N_comes_back 0 sp_comes_back := by
  intro cdv A outer s H vs Q E hr hsp
  obtain ⟨D, ns, h, t, q, rfl, hD, hz, ht, qq⟩ := hsp
  have nd := sc_comes_back.nd
  have hu := hu_of hr
  have hu64 := hr.units
  refine ⟨_, (pss_one (ps_ret (pe_callB (cr_allK (K := K) rfl rfl) (by rfl) T.b_all (by decide +kernel) (pa_cons (pe_lock (pe_lc (own := [("number", 4)]) rfl nd (pi_keys (pv 0)) (blkOk_by (N := N_comes_back) (sc := (defScope s_comes_back)) (by decide +kernel)) (fun _ _ _ _ _ => (pg_name (i := 4) nd rfl (Or.inl rfl))) (fun _ _ _ _ _ => (pts_one (pt_cmpR op_ge (pv 4) (pv 1) (nomark _)))) (fun _ _ _ _ _ => (pe_cmp (pc_din hu (pe_op op_add (pv 1) (pe_op op_mod (pe_op op_add (pe_op op_sub (pv 4) (pv 1)) (pv 3)) (pv 2))) (pv 0)))))) pa_nil)))), ?_⟩
  refine st_eq (σ := [some (.ref D), some (.int (h : Int)), some (.int (t : Int)), some (.int (q : Int)), none]) rfl ?_
  walk_at "s"
  refine ⟨D, _, hD, trivial, fun od => ?_⟩
  have hF : (upd H D (.frz od (.dK (haveK ns)))) D = some (.frz od (.dK (haveK ns))) := upd_same
  walk_at "s"
  refine ⟨D, od, rfl, .inl ⟨_, hF, ?_⟩⟩
  refine lc_f ns (fun n => if decide (h ≤ n) = true then some (.bl (decide (h + (n - h + q) % t ∈ ns))) else none) walk_have rfl hz (fun H' s' => s' _ _ hF) (fun L i n H1 c => ?_) (fun L H1 hL s1 e1 => ?_)
  · walk_at "s"
    refine ⟨rfl, ?_⟩
    walk_at "s"
    refine s_iteD (fun e => ?_) (fun e => ?_)
    · walk_at "s"
      rw [show ((n : Int) - (h : Int)) = ((n - h : Nat) : Int) by omega]
      walk_at "s"
      refine s_modN ht ?_
      walk_at "s"
      refine ⟨D, _, rfl, have_get (.inr ⟨od, c.sm _ _ hF⟩), ?_⟩
      rw [haveK_val]
      exact lc_yes c (L2.Same.refl _) (by rw [decide_eq_true e]; rfl)
    · exact lc_no c (L2.Same.refl _) (by rw [decide_eq_false e]; rfl)
  · rw [fm_if] at e1
    refine ⟨s1 _ _ hF, ?_⟩
    have hLD : L ≠ D := fun e => by rw [e, hF] at hL; cases hL
    have sm : Same H (upd H1 D (.dK (haveK ns))) := fun b u hb => by
      by_cases e : b = D
      · subst e
        rw [hD] at hb
        rw [upd_same]
        exact hb
      · rw [upd_ne e]
        exact s1 _ _ (by rw [upd_ne e]; exact hb)
    walk_at "s"
    refine ⟨L, (ns.filter fun n => decide (h ≤ n)).map fun n => decide (h + (n - h + q) % t ∈ ns), rfl, SqL.of (by rw [upd_ne hLD, e1, List.map_map]; rfl), ?_⟩
    rw [List.all_map]
    exact qq _ sm
theorem c_comes_back (T : TX K mg) : Cal (L2.CX P w) P w K mg base 1 "comes_back" sp_comes_back [] :=
  cal_mk T.f_comes_back T.g_comes_back ⟨rfl, rfl⟩ (fun _ _ _ _ _ _ us hl => match us, hl with | [_, _, _, _], _ => rfl) sc_comes_back (fun vs H Q E h => by obtain ⟨D, ns, h, t, q, rfl, _⟩ := h; rfl) (k_comes_back T)
theorem k_common_turn (T : TX K mg) : Keeps (L2.CX P w) P w K mg base d_common_turn N_common_turn 0 sp_common_turn := by
  intro cdv A outer s H vs Q E hr hsp
  obtain ⟨a, b, rfl, ha, hb, ha2, hb2, q⟩ := hsp
  have nd := sc_common_turn.nd
  have hu := hu_of hr
  have hu64 := hr.units
  refine ⟨_, (pss_cons (ps_par (i := 2) (j := 3) rfl nd rfl rfl (by decide) rfl rfl (pa_cons (pv 0) (pa_cons (pv 1) pa_nil)) (by rfl))
  (pss_cons (ps_while (passes_of rfl) (pt_cmpR op_gt (pv 3) pe_int (nomark _)) (pss_one (ps_par (i := 2) (j := 3) rfl nd rfl rfl (by decide) rfl rfl (pa_cons (pv 3) (pa_cons (pe_op op_mod (pv 2) (pv 3)) pa_nil)) (by rfl))))
  (pss_one (ps_ret (pe_op op_fdivW (pe_op op_mul (pv 0) (pv 1)) (pv 2)))))), ?_⟩
  refine st_eq (σ := [some (.int (a : Int)), some (.int (b : Int)), none, none]) rfl ?_
  walk_at "s"
  refine s_wh (fun m σ H3 => ∃ x : Nat, σ = [some (.int (a : Int)), some (.int (b : Int)), some (.int (x : Int)), some (.int (m : Int))] ∧ H3 = H ∧ Nat.gcd x m = Nat.gcd a b ∧ x < 100000000 ∧ m < 100000000 ∧ (0 < x ∨ 0 < m)) b ⟨a, rfl, rfl, rfl, ha2, hb2, .inl ha⟩ (fun m σ H3 hW => ?_)
  obtain ⟨x, rfl, rfl, hg, hx, hm, hpos⟩ := hW
  walk_at "s"
  refine s_iteD (fun e => ?_) (fun e => ?_)
  · have em : 0 < m := by omega
    have hmm := Nat.mod_lt x em
    refine ⟨fun σ' H' => σ' = [some (.int (a : Int)), some (.int (b : Int)), some (.int (m : Int)), some (.int ((x % m : Nat) : Int))] ∧ H' = H3, fun σ' H' h => ⟨x % m, hmm, m, h.1, h.2, ?_, hm, by omega, .inl em⟩, ?_⟩
    · rw [← hg, Nat.gcd_comm x m, Nat.gcd_rec m x, Nat.gcd_comm]
    · walk_at "s"
      refine s_modN em ?_
      walk_at "s"
      exact ⟨rfl, rfl⟩
  · have e0 : m = 0 := by omega
    subst e0
    rw [Nat.gcd_zero_right] at hg
    subst hg
    walk_at "s"
    refine s_mulN (by omega) ?_
    walk_at "s"
    exact s_divN (Nat.gcd_pos_of_pos_left _ ha) (by omega) q
theorem c_common_turn (T : TX K mg) : Cal (L2.CX P w) P w K mg base 1 "common_turn" sp_common_turn [] :=
  cal_mk T.f_common_turn T.g_common_turn ⟨rfl, rfl⟩ (fun _ _ _ _ _ _ us hl => match us, hl with | [_, _], _ => rfl) sc_common_turn (fun vs H Q E h => by obtain ⟨a, b, rfl, _⟩ := h; rfl) (k_common_turn T)
end

end K53
namespace K53
open PySem PySem.Spec PyProof.Rows L2
/-! ### least_telling -/
abbrev N_least_telling : List Str := ["head", "turn", "lot", "have", "number", "least", "part"]
theorem sc_least_telling : FnScope N_least_telling ["head", "turn", "lot"] (defScope s_least_telling) := C8.fnScope_by (by decide +kernel)
def sp_least_telling (K : PySem.W.Frag) : Sp := fun vs H Q _ => ∃ (f : Nat → Bool) (h t : Nat) (v : V), vs = [.int (h : Int), .int (t : Int), v] ∧ Seq K H v (ivs (rlot f h t)) ∧ 1 ≤ t ∧ h ≤ 20000 ∧ t ≤ 20000 ∧ (∀ k, h ≤ k → f (k + t) = f k) ∧
  ∀ r H' h' t' L, Same H H' → IsRnd f h' t' → h' ≤ h → t' ≤ t → H' r = some (.tup [.int (h' : Int), .int (t' : Int), .ref L]) → H' L = some (.tup (ivs (rlot f h' t'))) → Q (.ref r) H'
section
variable {P : Program} {w : World} {K : PySem.W.Frag} {mg : Str → Option Value} {base : Heap}
theorem k_least_telling (T : TX K mg) : Keeps (L2.CX P w) P w K mg base d_least_telling N_least_telling 1 (sp_least_telling K) := by
  intro cdv A outer s H vs Q E hr hsp
  obtain ⟨f, h, t, v, rfl, hS, ht1, hh, ht, hper, q⟩ := hsp
  have hlen := rlot_len f h t
  have nd := sc_least_telling.nd
  have hu := hu_of hr
  have hu64 := hr.units
  refine ⟨_, (pss_cons (ps_setDc (i := 3) (own := [("number", 4)]) rfl nd rfl rfl (sw_trueD rfl rfl rfl (by decide +kernel)) (pi_seqK (K := K) rfl (pv 2)) (blkOk_by (N := N_least_telling) (sc := (defScope s_least_telling)) (by decide +kernel)) (fun _ _ _ _ _ => (pg_name (i := 4) nd rfl (Or.inl rfl))) (fun _ _ _ _ _ => pts_nil) (fun _ _ _ _ _ => (pv 4)) (fun _ _ _ _ _ => pe_bl))
  (pss_cons (ps_set (i := 5) nd rfl (Or.inr rfl) (pv 1))
  (C8.pss_cut (ps_for (passes_of rfl) rfl (pi_range2 (by rfl) T.b_range (pa_cons pe_int (pa_cons (pv 1) pa_nil))) (pg_name (i := 6) nd rfl (Or.inl rfl)) (pss_one (ps_if (PW.pt (pw_and (pt_cmpR op_eq (pe_op op_mod (pv 1) (pv 6)) pe_int (nomark _)) (pw_and1 (pt_val (pe_cl (c_comes_back T) hr (by decide) (pa_cons (pv 3) (pa_cons (pv 0) (pa_cons (pv 1) (pa_cons (pv 6) pa_nil)))) passL))))) (pss_cons (ps_set (i := 5) nd rfl (Or.inr rfl) (pv 6))
  (pss_one ps_break)) pss_nil)))
  (C8.pss_cut (ps_while (passes_of rfl) (PW.pt (pw_and (pt_cmpR op_gt (pv 0) pe_int (nomark _)) (pw_and1 (pt_cmpR op_eq (pe_cmp (pc_din hu (pe_op op_sub (pv 0) pe_int) (pv 3))) (pe_cmp (pc_din hu (pe_op op_add (pe_op op_sub (pv 0) pe_int) (pv 5)) (pv 3))) (nomark _))))) (pss_one (ps_set (i := 0) nd rfl (Or.inr rfl) (pe_op op_sub (pv 0) pe_int))))
  (pss_one (ps_ret (pe_tup (pa_cons (pv 0) (pa_cons (pv 5) (pa_cons (pe_tupleOfK (K := K) rfl (by rfl) T.b_tuple (pe_lc (own := [("number", 4)]) rfl nd (pi_seqK (K := K) rfl (pv 2)) (blkOk_by (N := N_least_telling) (sc := (defScope s_least_telling)) (by decide +kernel)) (fun _ _ _ _ _ => (pg_name (i := 4) nd rfl (Or.inl rfl))) (fun _ _ _ _ _ => (pts_one (pt_cmpR op_lt (pv 4) (pe_op op_add (pv 0) (pv 5)) (nomark _)))) (fun _ _ _ _ _ => (pv 4)))) pa_nil)))))))))), ?_⟩
  refine st_eq (σ := [some (.int (h : Int)), some (.int (t : Int)), some (v), none, none, none, none]) rfl ?_
  walk_at "s"
  refine s_iSd hS fun J G W hG => ?_
  refine dc_have W (rlot_nd f h t) (by omega) hG (fun D i n H1 c => ?_) (fun D H1 hD s1 e1 => ?_)
  · walk_at "s"
    refine ⟨rfl, ?_⟩
    walk_at "s"
    exact dc_yes c
  walk_at "s"
  refine s_cut (fun σ H3 => ∃ (l : Nat) (x : Option V), σ = [some (.int (h : Int)), some (.int (t : Int)), some v, some (.ref D), none, some (.int (l : Int)), x] ∧ Same H1 H3 ∧ 1 ≤ l ∧ l ≤ t ∧ (∀ k, h ≤ k → f (k + l) = f k) ∧ ∀ r, 1 ≤ r → r < l → t % r = 0 → ¬ ∀ k, h ≤ k → f (k + r) = f k) ?_ (fun σ H3 hM => ?_)
  · walk_at "s"
    refine s_i2f (i := 1) (n := t) (by omega) (by omega) ?_
    refine for_f (List.range (t - 1)) walk_r1 List.length_range.symm (fun i σ H3 => ∃ x, σ = [some (.int (h : Int)), some (.int (t : Int)), some v, some (.ref D), none, some (.int (t : Int)), x] ∧ Same H1 H3 ∧ ∀ r, 1 ≤ r → r ≤ i → t % r = 0 → ¬ ∀ k, h ≤ k → f (k + r) = f k)
      ⟨_, rfl, L2.Same.refl _, fun r h1 h2 => by omega⟩ (fun _ _ _ _ => trivial) (fun i k σ H3 hi hP => ?_) (fun σ H3 hP => ?_)
    · obtain ⟨x, rfl, sm, hno⟩ := hP
      have hi2 : i < t - 1 := by
        have := (List.getElem?_eq_some_iff.mp hi).1
        rwa [List.length_range] at this
      rw [List.getElem?_range hi2] at hi
      cases hi
      walk_at "s"
      refine s_modN (by omega) ?_
      walk_at "s"
      refine s_iteD (fun e => ?_) (fun e => ?_)
      · walk_at "s"
        refine ⟨D, rlot f h t, h, t, 1 + i, rfl, sm _ _ e1, by omega, by omega, fun H4 s4 => ?_⟩
        walk_at "s"
        cases hc : cbB (rlot f h t) h t (1 + i) with
        | true =>
          refine s_yes rfl ?_
          walk_at "s"
          have hp := (part_iff ht1 hper).mp ((cb_iff ht1 _).mp hc)
          exact ⟨1 + i, _, rfl, sm.trans s4, by omega, by omega, hp, fun r h1 h2 => hno r h1 (by omega)⟩
        | false =>
          refine s_no rfl ?_
          walk_at "s"
          refine ⟨_, rfl, sm.trans s4, fun r h1 h2 h3 h4 => ?_⟩
          by_cases er : r = i + 1
          · subst er
            have := (cb_iff ht1 _).mpr ((part_iff ht1 hper).mpr h4)
            rw [show i + 1 = 1 + i by omega] at this
            have hc' : _ = false := hc
            unfold cbB at hc'
            rw [this] at hc'
            cases hc'
          · exact hno r h1 (by omega) h3 h4
      · walk_at "s"
        refine ⟨_, rfl, sm, fun r h1 h2 h3 h4 => ?_⟩
        by_cases er : r = i + 1
        · subst er
          exact e (by rw [show 1 + i = i + 1 by omega]; exact h3)
        · exact hno r h1 (by omega) h3 h4
    · obtain ⟨x, rfl, sm, hno⟩ := hP
      rw [List.length_range] at hno
      exact ⟨t, x, rfl, sm, ht1, Nat.le_refl _, hper, fun r h1 h2 => hno r h1 (by omega)⟩
  · obtain ⟨l, x, rfl, sm, hl1, hl2, hp, hfirst⟩ := hM
    refine s_cut (fun σ H4 => ∃ (m : Nat) (x : Option V), σ = [some (.int (m : Int)), some (.int (t : Int)), some v, some (.ref D), none, some (.int (l : Int)), x] ∧ H4 = H3 ∧ m ≤ h ∧ IsRnd f m l) ?_ (fun σ H4 hM => ?_)
    · refine s_wh (fun m σ H4 => ∃ x, σ = [some (.int (m : Int)), some (.int (t : Int)), some v, some (.ref D), none, some (.int (l : Int)), x] ∧ H4 = H3 ∧ m ≤ h ∧ ∀ i, m ≤ i → i < h → f i = f (i + l)) h ⟨_, rfl, rfl, Nat.le_refl _, fun i h1 h2 => by omega⟩ (fun m σ H4 hW => ?_)
      obtain ⟨x', rfl, rfl, hm, hback⟩ := hW
      have memb : ∀ k, k < h + t → decide (k ∈ rlot f h t) = f k := fun k hk => by
        rw [bl_iff (p := k ∈ rlot f h t) (q := f k = true) (by rw [mem_rlot]; exact ⟨fun z => z.2, fun z => ⟨hk, z⟩⟩)]
        cases f k <;> rfl
      have hDk := sm _ _ e1
      walk_at "s"
      refine s_iteD (fun e => ?_) (fun e => ?_)
      · walk_at "s"
        rw [show ((m : Int) - 1) = ((m - 1 : Nat) : Int) by omega]
        refine ⟨D, _, rfl, have_get (.inl hDk), ?_⟩
        rw [haveK_val, memb _ (by omega)]
        walk_at "s"
        rw [show ((m : Int) - 1) = ((m - 1 : Nat) : Int) by omega]
        walk_at "s"
        refine ⟨D, _, rfl, have_get (.inl hDk), ?_⟩
        rw [haveK_val, memb _ (by omega)]
        refine s_eq rfl ?_
        walk_at "s"
        refine s_iteD (fun e2 => ?_) (fun e2 => ?_)
        · refine ⟨fun σ' H' => ∃ x, σ' = [some (.int ((m - 1 : Nat) : Int)), some (.int (t : Int)), some v, some (.ref D), none, some (.int (l : Int)), x] ∧ H' = H4, fun σ' H' ⟨x, h1, h2⟩ => ⟨m - 1, by omega, x, h1, h2, by omega, fun i hi1 hi2 => ?_⟩, ?_⟩
          · by_cases ei : i = m - 1
            · rw [ei]
              injection e2
            · exact hback i (by omega) hi2
          · walk_at "s"
            rw [show ((m : Int) - 1) = ((m - 1 : Nat) : Int) by omega]
            exact ⟨_, rfl, rfl⟩
        · exact ⟨m, x', rfl, rfl, hm, isRnd_of ht1 hper hl1 hp hfirst hm hback (.inr fun z => e2 (by rw [z]))⟩
      · exact ⟨m, x', rfl, rfl, hm, isRnd_of ht1 hper hl1 hp hfirst hm hback (.inl (by omega))⟩
    · obtain ⟨m, x', rfl, rfl, hm, hR⟩ := hM
      walk_at "s"
      refine s_iSc (hS.to (s1.trans sm)) fun J2 G2 W2 hG2 => ?_
      refine lc_f (rlot f h t) (fun n => if decide (n < m + l) = true then some (.int (n : Int)) else none) W2 (iv_len _) (by omega) hG2 (fun D2 i n H5 c => ?_) (fun D2 H5 hD2 s5 e5 => ?_)
      · walk_at "s"
        refine ⟨rfl, ?_⟩
        walk_at "s"
        refine s_iteD (fun e => ?_) (fun e => ?_)
        · walk_at "s"
          exact lc_yes c (L2.Same.refl _) (by rw [decide_eq_true e]; rfl)
        · exact lc_no c (L2.Same.refl _) (by rw [decide_eq_false e]; rfl)
      · rw [fm_if] at e5
        have e6 : (rlot f h t).filter (fun n => decide (n < m + l)) = rlot f m l := filter_range_le f (by omega)
        rw [e6] at e5
        refine s_kTupL e5 fun L hL => ?_
        walk_at "s"
        refine s_tl (Nat.le_of_ble_eq_true rfl) fun r hr => ?_
        exact q r _ m l L ((((s1.trans sm).trans s5).upT hL).upT hr) hR hm hl2 upd_same (get_up upd_same hr)
theorem c_least_telling (T : TX K mg) : Cal (L2.CX P w) P w K mg base 2 "least_telling" (sp_least_telling K) [] :=
  cal_mk T.f_least_telling T.g_least_telling ⟨rfl, rfl⟩ (fun _ _ _ _ _ _ us hl => match us, hl with | [_, _, _], _ => rfl) sc_least_telling (fun vs H Q E h => by obtain ⟨f, h, t, v, rfl, _⟩ := h; rfl) (k_least_telling T)
end

end K53
namespace K53
open PySem PySem.Spec PyProof.Rows L2
/-! ### numbers_below, shared_telling -/
structure RouO (K : PySem.W.Frag) (H : Hp) (p : Addr) (h t : Nat) (lot : List Nat) : Prop where
  at_ : ∃ dx fs L, H p = some (.ins (gA K "Round") dx fs) ∧ fget fs "head" (.int (h : Int)) ∧ fget fs "turn" (.int (t : Int)) ∧ fget fs "lot" (.ref L) ∧ H L = some (.tup (ivs lot))
theorem RouO.toS {K : PySem.W.Frag} {H H' : Hp} {p : Addr} {h t : Nat} {lot : List Nat} (x : RouO K H p h t lot) (s : SameS H H') : RouO K H' p h t lot :=
  ⟨let ⟨dx, fs, L, a, b, c, d, e⟩ := x.at_; ⟨dx, fs, L, s _ _ rfl a, b, c, d, s _ _ rfl e⟩⟩
theorem RouO.to {K : PySem.W.Frag} {H H' : Hp} {p : Addr} {h t : Nat} {lot : List Nat} (x : RouO K H p h t lot) (s : Same H H') : RouO K H' p h t lot := x.toS s.toS
/-- the round of f at p -/
def RndO (K : PySem.W.Frag) (H : Hp) (p : Addr) (f : Nat → Bool) : Prop := ∃ h t, IsRnd f h t ∧ h ≤ 2000 ∧ t ≤ 2000 ∧ RouO K H p h t (rlot f h t)
section
variable {K : PySem.W.Frag} {mg : Str → Option Value} {H : Hp} {p : Addr} {h t : Nat} {lot : List Nat} {Z : V → Prop}
theorem s_head (T : TX K mg) (x : RouO K H p h t lot) (q : Z (.int (h : Int))) : ∃ a C dx fs v, V.ref p = .ref a ∧ H a = some (.ins C dx fs) ∧ Cls K C ∧ NoAttr K C "head" ∧ fget fs "head" v ∧ Z v := by
  obtain ⟨dx, fs, L, h1, h2, h3, h4, h5⟩ := x.at_
  exact s_fld h1 T.cl_Round T.na_Round_head h2 q
theorem s_turn (T : TX K mg) (x : RouO K H p h t lot) (q : Z (.int (t : Int))) : ∃ a C dx fs v, V.ref p = .ref a ∧ H a = some (.ins C dx fs) ∧ Cls K C ∧ NoAttr K C "turn" ∧ fget fs "turn" v ∧ Z v := by
  obtain ⟨dx, fs, L, h1, h2, h3, h4, h5⟩ := x.at_
  exact s_fld h1 T.cl_Round T.na_Round_turn h3 q
theorem s_lot (T : TX K mg) (x : RouO K H p h t lot) (q : ∀ L, H L = some (.tup (ivs lot)) → Z (.ref L)) : ∃ a C dx fs v, V.ref p = .ref a ∧ H a = some (.ins C dx fs) ∧ Cls K C ∧ NoAttr K C "lot" ∧ fget fs "lot" v ∧ Z v := by
  obtain ⟨dx, fs, L, h1, h2, h3, h4, h5⟩ := x.at_
  exact s_fld h1 T.cl_Round T.na_Round_lot h4 (q L h5)
end
theorem rgC_pos {len c : Nat} (hc : 1 ≤ c) (h1 : len ≤ 1000000) (h2 : c ≤ 1000000) : RgC ((0 : Nat) : Int) (len : Int) (c : Int) ((len + c - 1) / c) := by
  have e : Builtin.Range.rangeSize 0 (len : Int) (c : Int) = (((len + c - 1) / c : Nat) : Int) := by
    rw [PyProof.Rows.rangeSize_pos (by omega) (by omega), show ((len : Int) + (c : Int) - 1) = ((len + c - 1 : Nat) : Int) by omega]
    rfl
  have hd : (len + c - 1) / c ≤ len + c := Nat.le_trans (Nat.div_le_self _ _) (by omega)
  refine ⟨by omega, by rw [Int.natAbs_natCast]; omega, ?_, e⟩
  show Builtin.Range.small 0 _ _ = true
  unfold Builtin.Range.small
  rw [e]
  simp only [Builtin.Range.rangeFitsLong, Bool.and_eq_true, Bool.or_eq_true, decide_eq_true_eq, beq_iff_eq]
  have hmul : (len + c - 1) / c * c ≤ len + c - 1 := Nat.div_mul_le_self _ _
  generalize (len + c - 1) / c = z at *
  refine ⟨⟨⟨⟨by omega, by omega⟩, by omega, by omega⟩, by omega, by omega⟩, .inr ?_⟩
  rw [if_pos (by omega), decide_eq_true (by omega), decide_eq_true (by omega)]
  rfl
theorem s_i3f {σ : L2.St} {H : Hp} {D : L2.Ends} {g : TG} {tb : TS} {len c : Nat} (hc : 1 ≤ c) (h1 : len ≤ 1000000) (h2 : c ≤ 1000000) (q : ForGoal (Itc ((0 : Nat) : Int) (c : Int) ((len + c - 1) / c)) g tb D σ H) :
    ∃ (i j c' : Int) (n : Nat), [V.int 0, V.int (len : Int), V.int (c : Int)] = [.int i, .int j, .int c'] ∧ RgC i j c' n ∧ ForGoal (Itc i c' n) g tb D σ H := ⟨_, _, _, _, rfl, rgC_pos hc h1 h2, q⟩
theorem walk_rC {c n : Nat} : Walk (Itc ((0 : Nat) : Int) (c : Int) n) n (fun _ => True) (YAt ((List.range n).map fun (i : Nat) => V.int ((i * c : Nat) : Int))) :=
  walk_rangeC.mono (fun _ _ => trivial) fun i H x H' hi _ y => ⟨y.1, by
    rw [List.getElem?_map, List.getElem?_range hi, y.2]
    show some (V.int ((i * c : Nat) : Int)) = some (V.int (((0 : Nat) : Int) + (i : Int) * (c : Int)))
    rw [show (((0 : Nat) : Int) + (i : Int) * (c : Int)) = ((i * c : Nat) : Int) by rw [Int.natCast_mul]; omega]⟩
abbrev N_numbers_below : List Str := ["told", "limit", "found", "number", "again", "start"]
theorem sc_numbers_below : FnScope N_numbers_below ["told", "limit"] (defScope s_numbers_below) := C8.fnScope_by (by decide +kernel)
abbrev N_shared_telling : List Str := ["first", "second", "turn"]
theorem sc_shared_telling : FnScope N_shared_telling ["first", "second"] (defScope s_shared_telling) := C8.fnScope_by (by decide +kernel)
def sp_numbers_below (K : PySem.W.Frag) : Sp := fun vs H Q _ => ∃ (f : Nat → Bool) (h t lim : Nat) (p : Addr), vs = [.ref p, .int (lim : Int)] ∧ RouO K H p h t (rlot f h t) ∧ 1 ≤ t ∧ h ≤ 2000 ∧ t ≤ 20000 ∧ lim ≤ 40000 ∧ h ≤ lim ∧ (∀ k, h ≤ k → f (k + t) = f k) ∧
  ∀ D H' ns, Same H H' → H D = none → H' D = some (.lst (ivs ns)) → ns.Nodup → (∀ k, k ∈ ns ↔ k < lim ∧ f k = true) → Q (.ref D) H'
def sp_shared_telling (K : PySem.W.Frag) : Sp := fun vs H Q _ => ∃ (h t h2 t2 : Nat) (l l2 : List Nat) (p p2 : Addr), vs = [.ref p, .ref p2] ∧ RouO K H p h t l ∧ RouO K H p2 h2 t2 l2 ∧ 1 ≤ t ∧ 1 ≤ t2 ∧ t ≤ 20000 ∧ t2 ≤ 20000 ∧ Nat.lcm t t2 ≤ 10000 ∧
  ∀ r H', Same H H' → H' r = some (.tup [.int ((max h h2 : Nat) : Int), .int ((Nat.lcm t t2 : Nat) : Int)]) → Q (.ref r) H'
section
variable {P : Program} {w : World} {K : PySem.W.Frag} {mg : Str → Option Value} {base : Heap}
theorem k_shared_telling (T : TX K mg) : Keeps (L2.CX P w) P w K mg base d_shared_telling N_shared_telling 1 (sp_shared_telling K) := by
  intro cdv A outer s H vs Q E hr hsp
  obtain ⟨h, t, h2, t2, l, l2, p, p2, rfl, r1, r2, ht, ht2, hb, hb2, hl, q⟩ := hsp
  have nd := sc_shared_telling.nd
  have hu := hu_of hr
  have hu64 := hr.units
  refine ⟨_, (pss_cons (ps_set (i := 2) nd rfl (Or.inl rfl) (pe_cl (c_common_turn T) hr (by decide) (pa_cons (pe_fldK (K := K) rfl (pv 0) (by rfl)) (pa_cons (pe_fldK (K := K) rfl (pv 1) (by rfl)) pa_nil)) passL))
  (pss_cons (ps_if (pt_cmpR op_gt (pv 2) (pe_gi T.i_MOST_TURN) (nomark _)) (pss_one ps_never) pss_nil)
  (pss_one (ps_ret (pe_tup (pa_cons (pe_callB (call_max2K rfl) (by rfl) T.b_max (by decide +kernel) (pa_cons (pe_fldK (K := K) rfl (pv 0) (by rfl)) (pa_cons (pe_fldK (K := K) rfl (pv 1) (by rfl)) pa_nil))) (pa_cons (pv 2) pa_nil))))))), ?_⟩
  refine st_eq (σ := [some (.ref p), some (.ref p2), none]) rfl ?_
  walk_at "s"
  refine s_turn T r1 ?_
  walk_at "s"
  refine s_turn T r2 ?_
  walk_at "s"
  refine ⟨t, t2, rfl, by omega, by omega, by omega, by omega, ?_⟩
  walk_at "s"
  refine s_noD (by omega) ?_
  walk_at "s"
  refine s_head T r1 ?_
  walk_at "s"
  refine s_head T r2 ?_
  walk_at "s"
  refine s_tl (Nat.le_of_ble_eq_true rfl) fun r hr => ?_
  exact q r _ (L2.Same.up hr) upd_same
theorem c_shared_telling (T : TX K mg) : Cal (L2.CX P w) P w K mg base 2 "shared_telling" (sp_shared_telling K) [] :=
  cal_mk T.f_shared_telling T.g_shared_telling ⟨rfl, rfl⟩ (fun _ _ _ _ _ _ us hl => match us, hl with | [_, _], _ => rfl) sc_shared_telling (fun vs H Q E h => by obtain ⟨h, t, h2, t2, l, l2, p, p2, rfl, _⟩ := h; rfl) (k_shared_telling T)
theorem k_numbers_below (T : TX K mg) : Keeps (L2.CX P w) P w K mg base d_numbers_below N_numbers_below 0 (sp_numbers_below K) := by
  intro cdv A outer s H vs Q E hr hsp
  obtain ⟨f, h, t, lim, p, rfl, ro, ht1, hh, ht, hlim, hle, hper, q⟩ := hsp
  have hlen := rlot_len f h t
  have nd := sc_numbers_below.nd
  have hu := hu_of hr
  have hu64 := hr.units
  refine ⟨_, (pss_cons (ps_setLc (i := 2) (own := [("number", 3)]) rfl nd rfl rfl (sw_true rfl rfl rfl (by decide +kernel)) (pi_tupK (K := K) rfl (pe_fldK (K := K) rfl (pv 0) (by rfl))) (blkOk_by (N := N_numbers_below) (sc := (defScope s_numbers_below)) (by decide +kernel)) (fun _ _ _ _ _ => (pg_name (i := 3) nd rfl (Or.inl rfl))) (fun _ _ _ _ _ => (pts_one (PW.pt (pw_and (pt_cmpR op_lt (pv 3) (pe_fldK (K := K) rfl (pv 0) (by rfl)) (nomark _)) (pw_and1 (pt_cmpR op_lt (pv 3) (pv 1) (nomark _))))))) (fun _ _ _ _ _ => (pv 3)))
  (pss_cons (ps_setLc (i := 4) (own := [("number", 3)]) rfl nd rfl rfl (sw_true rfl rfl rfl (by decide +kernel)) (pi_tupK (K := K) rfl (pe_fldK (K := K) rfl (pv 0) (by rfl))) (blkOk_by (N := N_numbers_below) (sc := (defScope s_numbers_below)) (by decide +kernel)) (fun _ _ _ _ _ => (pg_name (i := 3) nd rfl (Or.inl rfl))) (fun _ _ _ _ _ => (pts_one (pt_cmpR op_ge (pv 3) (pe_fldK (K := K) rfl (pv 0) (by rfl)) (nomark _)))) (fun _ _ _ _ _ => (pv 3)))
  (pss_cons (ps_if (pt_cmpR (op_eqDK (K := K) rfl hu64) (pv 4) (pe_lst pa_nil) (nomark _)) (pss_one (ps_ret (pv 2))) pss_nil)
  (pss_cons (ps_for (passes_of rfl) rfl (pi_range3 (by rfl) T.b_range (pa_cons pe_int (pa_cons (pe_callB (call_max2K rfl) (by rfl) T.b_max (by decide +kernel) (pa_cons pe_int (pa_cons (pe_op op_sub (pv 1) (pe_fldK (K := K) rfl (pv 0) (by rfl))) pa_nil))) (pa_cons (pe_fldK (K := K) rfl (pv 0) (by rfl)) pa_nil)))) (pg_name (i := 5) nd rfl (Or.inl rfl)) (pss_one (ps_for (passes_of rfl) rfl (pi_listK (K := K) rfl (pv 4)) (pg_name (i := 3) nd rfl (Or.inl rfl)) (pss_one (ps_if (pt_cmpR op_lt (pe_op op_add (pv 3) (pv 5)) (pv 1) (nomark _)) (pss_one (ps_expr (pe_bmK (K := K) rfl PySem.F.plainAttrs_list PySem.F.slot_list_append PySem.F.type_list_append mt_append (pv 2) (pa_cons (pe_op op_add (pv 3) (pv 5)) pa_nil)))) pss_nil)))))
  (pss_one (ps_ret (pv 2))))))), ?_⟩
  refine st_eq (σ := [some (.ref p), some (.int (lim : Int)), none, none, none, none]) rfl ?_
  walk_at "s"
  refine s_lot T ro fun L0 hL0 => ?_
  refine s_iTc (SqT.of hL0) ?_
  refine lc_f (rlot f h t) (fun n => if (decide (n < h) && decide (n < lim)) = true then some (.int (n : Int)) else none) walk_tup (iv_len _) (by omega) (fun H' s' => SqT.of (s' _ _ hL0)) (fun D i n H1 c => ?_) (fun F H1 hF s1 e1 => ?_)
  · walk_at "s"
    refine ⟨rfl, ?_⟩
    walk_at "s"
    refine s_head T (ro.to c.sm) ?_
    walk_at "s"
    refine s_iteD (fun e => ?_) (fun e => ?_)
    · walk_at "s"
      refine s_iteD (fun e2 => ?_) (fun e2 => ?_)
      · walk_at "s"
        exact lc_yes c (L2.Same.refl _) (by rw [decide_eq_true e, decide_eq_true e2]; rfl)
      · exact lc_no c (L2.Same.refl _) (by rw [decide_eq_true e, decide_eq_false e2]; rfl)
    · exact lc_no c (L2.Same.refl _) (by rw [decide_eq_false e]; rfl)
  rw [fm_if] at e1
  walk_at "s"
  refine s_lot T (ro.to s1) fun L1 hL1 => ?_
  refine s_iTc (SqT.of hL1) ?_
  refine lc_f (rlot f h t) (fun n => if decide (h ≤ n) = true then some (.int (n : Int)) else none) walk_tup (iv_len _) (by omega) (fun H' s' => SqT.of (s' _ _ hL1)) (fun D i n H2 c => ?_) (fun G H2 hG s2 e2 => ?_)
  · walk_at "s"
    refine ⟨rfl, ?_⟩
    walk_at "s"
    refine s_head T (ro.to (s1.trans c.sm)) ?_
    walk_at "s"
    refine s_iteD (fun e => ?_) (fun e => ?_)
    · walk_at "s"
      exact lc_yes c (L2.Same.refl _) (by rw [decide_eq_true e]; rfl)
    · exact lc_no c (L2.Same.refl _) (by rw [decide_eq_false e]; rfl)
  rw [fm_if] at e2
  have e2 : H2 G = some (.lst (ivs (agn f h t))) := e2
  have e1' := s2 _ _ e1
  have hFG : F ≠ G := fun e => by rw [← e] at hG; rw [hG] at e1; cases e1
  -- the first list
  have hb0 : ∀ k, k ∈ (rlot f h t).filter (fun n => decide (n < h) && decide (n < lim)) ↔ nbP f h t lim 0 0 k := fun k => by
    rw [nb_start, List.mem_filter, mem_rlot, Bool.and_eq_true, decide_eq_true_iff, decide_eq_true_iff]
    exact ⟨fun z => ⟨z.2.2, z.1.2, z.2.1⟩, fun z => ⟨⟨by omega, z.2.1⟩, z.2.2, z.1⟩⟩
  have nd0 : ((rlot f h t).filter (fun n => decide (n < h) && decide (n < lim))).Nodup := (rlot_nd f h t).sublist List.filter_sublist
  generalize (rlot f h t).filter (fun n => decide (n < h) && decide (n < lim)) = ns0 at e1 e1' hb0 nd0
  walk_at "s"
  refine s_tl (Nat.zero_le _) fun Z hZ => ?_
  have s3 : Same H2 (upd H2 Z (.lst [])) := L2.Same.up hZ
  have fin : agn f h t = [] → ∀ H', Same H2 H' → Q (.ref F) H' := fun e H' s' => q F H' ns0 ((s1.trans s2).trans s') hF (s' _ _ e1') nd0 fun k => by rw [hb0, nb_none ht1 hper e]
  refine s_eqPl 1 (by decide) (Hd.iv (s3 _ _ e2)) (.lst upd_same rfl .nil) (by simp [pl]; exact plA_all fun d hd => by obtain ⟨n, _, rfl⟩ := List.mem_map.mp hd; rfl) (by simp [pl, plA]) (fun e => ?_) (fun e => ?_)
  · walk_at "s"
    refine fin ?_ _ s3
    injection e with e
    exact List.map_eq_nil_iff.mp e
  · walk_at "s"
    refine s_head T (ro.to ((s1.trans s2).trans s3)) ?_
    refine s_subN hle ?_
    walk_at "s"
    refine s_max2 (i := 0) ?_
    walk_at "s"
    refine s_turn T (ro.to ((s1.trans s2).trans s3)) ?_
    rw [Nat.zero_max]
    walk_at "s"
    refine s_i3f ht1 (by omega) (by omega) ?_
    refine for_f (List.range ((lim - h + t - 1) / t)) walk_rC List.length_range.symm (fun i σ H3 => ∃ ns x y, σ = [some (.ref p), some (.int (lim : Int)), some (.ref F), x, some (.ref G), y] ∧ Same H H3 ∧ H3 G = some (.lst (ivs (agn f h t))) ∧ H3 F = some (.lst (ivs ns)) ∧ ns.Nodup ∧ ∀ k, k ∈ ns ↔ nbP f h t lim i 0 k)
      ⟨ns0, _, _, rfl, (s1.trans s2).trans s3, s3 _ _ e2, s3 _ _ e1', nd0, hb0⟩ (fun _ _ _ _ => trivial) (fun i a σ H3 hi hP => ?_) (fun σ H3 hP => ?_)
    · obtain ⟨ns, x, y, rfl, sm, hG3, hF3, hnd, hmem⟩ := hP
      have hi2 : i < (lim - h + t - 1) / t := by
        have := (List.getElem?_eq_some_iff.mp hi).1
        rwa [List.length_range] at this
      rw [List.getElem?_range hi2] at hi
      cases hi
      walk_at "s"
      refine s_iLf (SqL.of hG3) ?_
      refine for_f (agn f h t) walk_list (iv_len _) (fun j σ H4 => ∃ ns x, σ = [some (.ref p), some (.int (lim : Int)), some (.ref F), x, some (.ref G), some (.int ((i * t : Nat) : Int))] ∧ Same H H4 ∧ H4 G = some (.lst (ivs (agn f h t))) ∧ H4 F = some (.lst (ivs ns)) ∧ ns.Nodup ∧ ∀ k, k ∈ ns ↔ nbP f h t lim i j k)
        ⟨ns, _, rfl, sm, hG3, hF3, hnd, hmem⟩ (fun j σ H4 h => by obtain ⟨_, _, _, _, h1, _⟩ := h; exact SqL.of h1) (fun j n σ H4 hj hP => ?_) (fun σ H4 hP => ?_)
      · obtain ⟨ns2, x2, rfl, sm4, hG4, hF4, hnd2, hmem2⟩ := hP
        walk_at "s"
        refine s_iteD (fun e3 => ?_) (fun e3 => ?_)
        · walk_at "s"
          refine ⟨.inl ⟨rfl, _, SqL.of hF4⟩, ?_⟩
          walk_at "s"
          have hle2 : ns2.length ≤ lim := nd_lt hnd2 fun k hk => ((hmem2 k).mp hk).1
          refine ⟨F, _, _, rfl, rfl, hF4, sz16l (by rw [iv_len]; omega), ?_⟩
          refine ⟨ns2 ++ [n + i * t], _, rfl, sm4.mut hF, by rw [upd_ne (Ne.symm hFG)]; exact hG4, by rw [upd_same]; unfold ivs; rw [List.map_append]; rfl, ?_, fun k => ?_⟩
          · rw [List.nodup_append]
            refine ⟨hnd2, List.pairwise_singleton .., fun a ha b hb e => ?_⟩
            rw [List.mem_singleton] at hb
            rw [e, hb] at ha
            exact nb_fresh ht1 hj ((hmem2 _).mp ha)
          · rw [List.mem_append, List.mem_singleton, hmem2, nb_step ht1 hper hj]
            exact ⟨fun z => z.elim .inl fun z => .inr ⟨z, by rw [z]; exact e3⟩, fun z => z.elim .inl fun z => .inr z.1⟩
        · walk_at "s"
          refine ⟨ns2, _, rfl, sm4, hG4, hF4, hnd2, fun k => ?_⟩
          rw [hmem2, nb_step ht1 hper hj]
          exact ⟨.inl, fun z => z.elim id fun z => absurd (z.1 ▸ z.2) e3⟩
      · obtain ⟨ns2, x2, rfl, sm4, hG4, hF4, hnd2, hmem2⟩ := hP
        exact ⟨ns2, _, _, rfl, sm4, hG4, hF4, hnd2, fun k => by rw [hmem2, nb_next ht1 hper]⟩
    · obtain ⟨ns, x, y, rfl, sm, hG3, hF3, hnd, hmem⟩ := hP
      walk_at "s"
      exact q F H3 ns sm hF hF3 hnd fun k => by rw [hmem, List.length_range, nb_end ht1 hle]
theorem c_numbers_below (T : TX K mg) : Cal (L2.CX P w) P w K mg base 1 "numbers_below" (sp_numbers_below K) [] :=
  cal_mk T.f_numbers_below T.g_numbers_below ⟨rfl, rfl⟩ (fun _ _ _ _ _ _ us hl => match us, hl with | [_, _], _ => rfl) sc_numbers_below (fun vs H Q E h => by obtain ⟨f, h, t, lim, p, rfl, _⟩ := h; rfl) (k_numbers_below T)
end

end K53
namespace K53
open PySem PySem.Spec PyProof.Rows L2
/-! ### a field of an instance as a target of an unpacking -/
def gFld (K : PySem.W.Frag) (to : TE) (f : Str) : TG := fun v σ H Q => to σ H fun x H1 => ∃ a C dx fs, x = .ref a ∧ H1 a = some (.ins C dx fs) ∧ Cls K C ∧ NoAttr K C f ∧ fs.length < 1000 ∧ Q σ (upd H1 a (.ins C dx (putF f v fs)))
theorem pg_fldK {X : Cx} {K : PySem.W.Frag} {o : Expr} {f : Str} {to : TE} {pos : Pos} (hK : X.K = K) (ho : PE X o to) : PG X (.Attribute o f pos) (gFld K to f) := by
  subst hK
  refine ⟨fun pins s σ H v u Q I r h => ?_⟩
  rw [arm_assign_Attribute]
  refine wpAny_bind (wpAny_holding (thn (ho.run pins s σ H _ I h) fun ov s1 ⟨x, H1, I1, rx, a, C, dx, fs, ex, ea, c, n, l, q⟩ => ?_))
  subst ex
  obtain rfl : ov = Value.ref a := rx
  refine wpAny_bind (wpAny_standAt (wpAny_bind (wpAny_holding (setattr_ok I1 ea c n l r fun s2 I2 => ?_))))
  exact wpAny_release ⟨σ, _, I2, q⟩
theorem lenB {f : Str} {v : V} {fs : List (Str × V)} {n : Nat} (h : fs.length ≤ n) : (putF f v fs).length ≤ n + 1 := Nat.le_trans (length_putF f v fs) (by omega)
theorem lenL {fs : List (Str × V)} {n : Nat} (h : fs.length ≤ n) (hn : n < 1000 := by decide) : fs.length < 1000 := by omega
/-! ### isinstance of own classes -/
section
variable {K : PySem.W.Frag} {mg : Str → Option Value} {H : Hp} {Q : VK} {p : Addr} {dx : Addr} {fs : List (Str × V)} {x y : Str} {v : V} {d : PyData} {t : String}
theorem ins_ty (T : TX K mg) (hx : x ∈ clsN) (c : Cls K (gA K x)) (h : H p = some (.ins (gA K x) dx fs)) : TyX K H (.ref p) (.ref (gA K x)) := (.base (.ins h c (T.m2 hx).ha (T.m2 hx).hn (T.m2 hx).htk (T.m2 hx).hm))
/-- an instance of x, asked for y -/
theorem s_isiO (T : TX K mg) (hx : x ∈ clsN) (hy : y ∈ clsN) (c : Cls K (gA K x)) (h : H p = some (.ins (gA K x) dx fs)) (q : Q (.bl (decide (x = y))) H) : rIsi K [.ref p, .ref (gA K y)] H Q :=
  ⟨.ref p, .ref (gA K y), _, _, _, rfl, .own _, ins_ty T hx c h, T.m3 hx hy, q⟩
/-- data, asked for y -/
theorem s_isiN (T : TX K mg) (hy : y ∈ clsN) (h : TyX K H v (.type t)) (ht : t ∈ tyN) (q : Q (.bl false) H) : rIsi K [v, .ref (gA K y)] H Q :=
  ⟨v, .ref (gA K y), _, _, _, rfl, .own _, h, T.m4 ht hy, q⟩
/-- an instance of x, asked for a built-in type -/
theorem s_isiB (T : TX K mg) (hx : x ∈ clsN) (c : Cls K (gA K x)) (h : H p = some (.ins (gA K x) dx fs)) (ht : t ∈ tyN) (q : Q (.bl false) H) : rIsi K [.ref p, .ty t] H Q :=
  ⟨.ref p, .ty t, _, _, _, rfl, .ty t, ins_ty T hx c h, T.m5 hx ht, q⟩
end
abbrev N_Round__init__ : List Str := ["self", "head", "turn", "lot", "last", "number"]
theorem sc_Round__init__ : FnScope N_Round__init__ ["self", "head", "turn", "lot"] (defScope s_Round__init__) := C8.fnScope_by (by decide +kernel)
def sp_Round__init__ (K : PySem.W.Frag) : Sp := fun vs H Q _ => ∃ (f : Nat → Bool) (h t : Nat) (p dx : Addr) (v : V) (d : PyData), vs = [.ref p, .int (h : Int), .int (t : Int), v] ∧ H p = some (.ins (gA K "Round") dx []) ∧ Hd H v d ∧ isSeqD d = true ∧ seqD d = ivD (rlot f h t) ∧
  1 ≤ t ∧ h ≤ 10000 ∧ t ≤ 10000 ∧ (∀ k, h ≤ k → f (k + t) = f k) ∧
  ∀ H' h' t', SameX p H H' → IsRnd f h' t' → h' ≤ h → t' ≤ t → RouO K H' p h' t' (rlot f h' t') → Q .non H'
section
variable {P : Program} {w : World} {K : PySem.W.Frag} {mg : Str → Option Value} {base : Heap}
theorem k_Round__init__ (T : TX K mg) : Keeps (L2.CX P w) P w K mg base d_Round__init__ N_Round__init__ 2 (sp_Round__init__ K) := by
  intro cdv A outer s H vs Q E hr hsp
  obtain ⟨f, h, t, p, dx, v, d, rfl, hp, hv, hsq, hds, ht1, hh, ht, hper, q⟩ := hsp
  have hlen := rlot_len f h t
  have nd := sc_Round__init__.nd
  have hu := hu_of hr
  have hu64 := hr.units
  refine ⟨_, (pss_cons (ps_if (pt_not (pt_val (pe_cl (c_is_whole T) hr (by decide) (pa_cons (pv 1) (pa_cons pe_int (pa_cons (pe_gi T.i_MOST_TURN) pa_nil))) passL))) (pss_one ps_never) pss_nil)
  (pss_cons (ps_if (pt_not (pt_val (pe_cl (c_is_whole T) hr (by decide) (pa_cons (pv 2) (pa_cons pe_int (pa_cons (pe_gi T.i_MOST_TURN) pa_nil))) passL))) (pss_one ps_never) pss_nil)
  (pss_cons (ps_if (pt_not (pt_val (pe_callB (call_isiTK (K := K) rfl) (by rfl) T.b_isinstance (by decide +kernel) (pa_cons (pv 3) (pa_cons (pe_tup (pa_cons (pe_bltn (v := .ty "list") (by rfl) T.b_list (by decide +kernel) rfl) (pa_cons (pe_bltn (v := .ty "tuple") (by rfl) T.b_tuple (by decide +kernel) rfl) pa_nil))) pa_nil))))) (pss_one ps_never) pss_nil)
  (pss_cons (ps_set (i := 4) nd rfl (Or.inl rfl) (pe_un un_neg pe_int))
  (pss_cons (ps_for (passes_of rfl) rfl (pi_seqK (K := K) rfl (pv 3)) (pg_name (i := 5) nd rfl (Or.inl rfl)) (pss_cons (ps_if (pt_not (pt_val (pe_cl (c_is_whole T) hr (by decide) (pa_cons (pv 5) (pa_cons (pe_op op_add (pv 4) pe_int) (pa_cons (pe_op op_sub (pe_op op_add (pv 1) (pv 2)) pe_int) pa_nil))) passL))) (pss_one ps_never) pss_nil)
  (pss_one (ps_set (i := 4) nd rfl (Or.inl rfl) (pv 5)))))
  (pss_one (ps_asg (pe_cl (c_least_telling T) hr (by decide) (pa_cons (pv 1) (pa_cons (pv 2) (pa_cons (pv 3) pa_nil))) passL) (pg_tupK (K := K) (n := 3) rfl rfl (pgs_cons (pg_fldK (K := K) rfl (pv 0)) (pgs_cons (pg_fldK (K := K) rfl (pv 0)) (pgs_cons (pg_fldK (K := K) rfl (pv 0)) pgs_nil))))))))))), ?_⟩
  refine st_eq (σ := [some (.ref p), some (.int (h : Int)), some (.int (t : Int)), some (v), none, none]) rfl ?_
  walk_at "s"
  refine ⟨_, .int (h : Int), some 0, some _, rfl, .int _, ?_⟩
  rw [isW_mk (by omega)]
  walk_at "s"
  refine ⟨_, .int (t : Int), some 1, some _, rfl, .int _, ?_⟩
  rw [show isW (.int (t : Int)) (some 1) (some 10000) = true by
    show (decide ((1 : Int) ≤ (t : Int)) && decide ((t : Int) ≤ 10000)) = true
    rw [decide_eq_true (by omega), decide_eq_true (by omega)]; rfl]
  walk_at "s"
  refine s_tl (by decide) fun tp htp => ?_
  have sm := L2.Same.up (o := HO.tup [V.ty "list", V.ty "tuple"]) htp
  have hv1 := hv.to sm
  walk_at "s"
  refine s_isiLT hv1 upd_same ?_
  rw [hsq]
  walk_at "s"
  obtain ⟨xs, hS, hL⟩ := hv1.seq (K := K) hsq
  rw [hds] at hL
  have e := hL.iv_eq
  subst e
  refine s_iSf hS fun J G W hG => ?_
  refine for_f (rlot f h t) W (iv_len _) (fun i σ H3 => ∃ (l : Int) (x : Option V), σ = [some (.ref p), some (.int (h : Int)), some (.int (t : Int)), some v, some (.int l), x] ∧ H3 = upd H tp (HO.tup [V.ty "list", V.ty "tuple"]) ∧ -1 ≤ l ∧ ∀ n, n ∈ (rlot f h t).drop i → l < (n : Int))
    ⟨-1, _, rfl, rfl, by omega, fun n _ => by omega⟩ (fun i σ H3 hP => by obtain ⟨_, _, _, rfl, _⟩ := hP; exact hG _ (L2.Same.refl _)) (fun i n σ H3 hi hP => ?_) (fun σ H3 hP => ?_)
  · obtain ⟨l, x, rfl, rfl, hl1, hl⟩ := hP
    have hn := mem_rlot.mp (List.mem_of_getElem? hi)
    have hdr : (rlot f h t).drop i = n :: (rlot f h t).drop (i + 1) := by
      have hlt := (List.getElem?_eq_some_iff.mp hi)
      rw [List.drop_eq_getElem_cons hlt.1, hlt.2]
    have hln := hl n (by rw [hdr]; exact List.mem_cons_self ..)
    walk_at "s"
    refine ⟨_, .int (n : Int), some _, some _, rfl, .int _, ?_⟩
    rw [show isW (.int (n : Int)) (some (l + 1)) (some (((h + t : Nat) : Int) - 1)) = true by
      show (decide (l + 1 ≤ (n : Int)) && decide ((n : Int) ≤ ((h + t : Nat) : Int) - 1)) = true
      rw [decide_eq_true (by omega), decide_eq_true (by omega)]; rfl]
    walk_at "s"
    refine ⟨(n : Int), _, rfl, rfl, by omega, fun m hm => ?_⟩
    have hpw : ((rlot f h t).drop i).Pairwise (· < ·) := (filter_lt (n := h + t) (p := f)).drop
    rw [hdr, List.pairwise_cons] at hpw
    have := hpw.1 m hm
    omega
  · obtain ⟨l, x, rfl, rfl, _, _⟩ := hP
    walk_at "s"
    refine ⟨f, h, t, v, rfl, hS, ht1, by omega, by omega, hper, fun r H4 h' t' L s4 hR hh' ht' hr4 hL4 => ?_⟩
    have hp4 : H4 p = some (.ins (gA K "Round") dx []) := s4 _ _ (sm _ _ hp)
    have hrp : r ≠ p := fun e => by rw [e, hp4] at hr4; cases hr4
    have hLp : L ≠ p := fun e => by rw [e, hp4] at hL4; cases hL4
    refine s_gt3 (SqT.of hr4) ?_
    walk_at "s"
    show tVar 0 _ _ _
    walk_at "s"
    refine ⟨p, _, dx, [], rfl, hp4, T.cl_Round, T.na_Round_head, by decide, ?_⟩
    walk_at "s"
    show tVar 0 _ _ _
    walk_at "s"
    refine ⟨p, _, dx, _, rfl, upd_same, T.cl_Round, T.na_Round_turn, lenL (lenB (n := 0) (Nat.le_refl _)), ?_⟩
    walk_at "s"
    show tVar 0 _ _ _
    walk_at "s"
    refine ⟨p, _, dx, _, rfl, upd_same, T.cl_Round, T.na_Round_lot, lenL (lenB (lenB (n := 0) (Nat.le_refl _))), ?_⟩
    walk_at "s"
    refine q _ h' t' (fun b u hb e => ?_) hR hh' ht' ⟨dx, _, L, upd_same, rfl, rfl, rfl, ?_⟩
    · rw [upd_ne hb, upd_ne hb, upd_ne hb]
      exact s4 _ _ (sm _ _ e)
    · rw [upd_ne hLp, upd_ne hLp, upd_ne hLp]
      exact hL4
end
/-! ### instances made; comprehensions over enumerate -/
structure MkC (CX : CXT) (P : Program) (w : World) (K : PySem.W.Frag) (mg : Str → Option Value) (base : Heap) (k : Nat) (x : Str) (C : Addr) (sp : Sp) (dvs : List V) : Prop where
  ex : ∃ (f : Addr) (fd : FuncData) (ps : List Str) (ds : List Value), Mk K C f ∧ FnOk P w K mg base CX k f fd ps sp ∧ mg x = some (.ref C) ∧ Binds K fd ps ds ∧ Vals dvs ds
theorem pe_mkc {X : Cx} {k j : Nat} {x : Str} {C : Addr} {sp : Sp} {dvs : List V} {p pos : Pos} {e : Expr} {es : List Expr} {t : TA} (c : MkC (L2.CX X.prog X.w) X.prog X.w X.K X.mg X.base k x C sp dvs) (hr : Room j X.A) (hk : k + 1 ≤ j) (ha : PA X (e :: es) t) (hg : Gl X x := by rfl)
    (hdb : (x == ("__debug__" : Str)) = false := by decide) (he : starEach (e :: es) X.env = (false, eval e X.env) :: starEach es X.env := by rfl) (hpl : (backTo pos (starEach es X.env)).any (·.1) = false := by rfl) :
    PE X (.Call (.Name x p) (e :: es) [] pos) (tMake C sp dvs E0 t) := by
  obtain ⟨f, fd, ps, ds, M, F, hm, b, d⟩ := c.ex
  exact pe_make M F (hr.mono hk) hg hm b d passL ha hdb he hpl
theorem s_make {σ : L2.St} {H : Hp} {Q : VK} {C : Addr} {sp : Sp} {dvs : List V} {E : XK} {t : TA} (h : t σ H fun vs H1 => ∀ x dx, H1 x = none → H1 dx = none → dx ≠ x → sp (.ref x :: (vs ++ dvs)) (upd (upd H1 dx (.own x)) x (.ins C dx [])) (fun v H2 => v = .non ∧ Q (.ref x) H2) E) : tMake C sp dvs E t σ H Q := h
theorem make_same {H H' : Hp} {x dx : Addr} {o u : HO} (hx : H x = none) (hd : H dx = none) (s : SameX x (upd (upd H dx o) x u) H') : Same H H' := fun b v e => by
  have h1 : b ≠ x := ne_of_none e hx
  have h2 : b ≠ dx := ne_of_none e hd
  exact s b v h1 (by rw [upd_ne h1, upd_ne h2]; exact e)
section
variable {K : PySem.W.Frag} {g : TG} {tt : TT} {te : TE} {vs : List Nat} {σ : L2.St} {H1 : Hp} {Q : VK} {a : Addr} {xs : List V}
theorem lc_enum (f : Nat → Option V) (hz : xs.length ≤ 100000) (hG : ∀ H, Same H1 H → SqL K H a xs)
    (hs : ∀ D i x T H, LcCx (List.range xs.length) f H1 D i i H → xs[i]? = some x → H T = none → g (.ref T) (wipe σ vs) (upd H T (.tup [.int (i : Nat), x])) fun σ2 H2 => wipe σ2 vs = wipe σ vs ∧ tt σ2 H2 fun b H3 =>
      if b = true then te σ2 H3 fun y H4 => ∃ acc, H4 D = some (.lst acc) ∧ acc.length < sizeLine ∧ LcP D (FAcc (List.range xs.length) f H1) (i + 1) (upd H4 D (.lst (acc ++ [y]))) else LcP D (FAcc (List.range xs.length) f H1) (i + 1) H3)
    (hd : ∀ D H, H1 D = none → Same H1 H → H D = some (.lst ((List.range xs.length).filterMap f)) → Q (.ref D) H) : LcGoal (Ite K a) g tt te vs σ H1 Q := by
  refine lc_g (walk_enum (xs := xs)) (fun _ => FAcc (List.range xs.length) f H1) (fun D hD => ⟨rfl, L2.Same.up hD⟩) (fun D i acc H h => hG H h.2) (fun D i x acc H H' hD hi e hl h y => ?_) (fun D acc H hD e hl h => ?_)
  · obtain ⟨T, x', y', rfl, h2, rfl, h4, h5⟩ := y
    have h4 := Option.some.inj h4
    subst h4
    have e' := e
    rw [h.1] at e'
    exact hs D i y' T H ⟨hD, List.getElem?_range hi, h.2, e', by rw [List.length_range]; exact hz⟩ h5 h2
  · have e' := e
    rw [h.1, show (List.range xs.length).take xs.length = List.range xs.length from List.take_of_length_le (by rw [List.length_range]; exact Nat.le_refl _)] at e'
    exact hd D H hD h.2 e'
end
section
variable {P : Program} {w : World} {K : PySem.W.Frag} {mg : Str → Option Value} {base : Heap}
theorem m_Round (T : TX K mg) : MkC (L2.CX P w) P w K mg base 3 "Round" (gA K "Round") (sp_Round__init__ K) [] := by
  obtain ⟨fd, F, G⟩ := fn_mk T.f_Round__init__ sc_Round__init__ (fun vs H Q E h => by obtain ⟨f, h, t, p, dx, v, d, rfl, _⟩ := h; rfl) (k_Round__init__ (P := P) (w := w) (base := base) T)
  exact ⟨_, fd, _, [], T.mk_Round, G, T.g_Round, F.bindsN fun _ _ _ _ _ _ us hl => match us, hl with | [_, _, _, _], _ => rfl, .nil⟩
end

end K53
namespace K53
open PySem PySem.Spec PyProof.Rows L2
/-! ### days_with_story -/
abbrev N_days_with_story : List Str := ["house", "hand", "blank", "ends", "lots", "head", "days", "place", "reach", "number"]
theorem sc_days_with_story : FnScope N_days_with_story ["house", "hand", "blank"] (defScope s_days_with_story) := C8.fnScope_by (by decide +kernel)
def sp_days_with_story (K : PySem.W.Frag) : Sp := fun vs H Q E => ∃ p g vh vb dh db, vs = [.ref p, vh, vb] ∧ HouO K H p g ∧ Hd H vh dh ∧ Hd H vb db ∧
  (isW dh (some 0) (some ((g.hs : Int) - 1)) = false → ErO K "BadHand" "hand" vh H E) ∧
  (isW dh (some 0) (some ((g.hs : Int) - 1)) = true → isW db (some 0) (some ((g.ls : Int) - 1)) = false → ErO K "BadLetter" "letter" vb H E) ∧
  ∀ h b : Nat, dh = .int (h : Int) → db = .int (b : Int) → h < g.hs → b < g.ls → ∀ r H', Same H H' → RndO K H' r (g.tr h b) → Q (.ref r) H'
section
variable {P : Program} {w : World} {K : PySem.W.Frag} {mg : Str → Option Value} {base : Heap}
theorem k_days_with_story (T : TX K mg) : Keeps (L2.CX P w) P w K mg base d_days_with_story N_days_with_story 4 (sp_days_with_story K) := by
  intro cdv A outer s H vs Q E hr hsp
  obtain ⟨p, g, vh, vb, dh, db, rfl, hh, hhd, hb, e2, e3, q⟩ := hsp
  have o := hh.ok
  have nd := sc_days_with_story.nd
  have hu := hu_of hr
  have hu64 := hr.units
  refine ⟨_, (pss_cons (ps_expr (pe_clE (c_check_hand T) hr (by decide) (pa_cons (pv 0) (pa_cons (pv 1) pa_nil)) (passes_call (takes_of rfl rfl rfl rfl) fun _ _ _ _ h => h)))
  (pss_cons (ps_expr (pe_clE (c_check_letter T) hr (by decide) (pa_cons (pv 0) (pa_cons (pv 2) pa_nil)) (passes_call (takes_of rfl rfl rfl rfl) fun _ _ _ _ h => h)))
  (pss_cons (ps_set (i := 3) nd rfl (Or.inr rfl) (pe_cl (c_numbers_with_letter T) hr (by decide) (pa_cons (pv 0) (pa_cons (pv 2) pa_nil)) passL))
  (pss_cons (ps_asg (pe_cl (c_lots_in_turn T) hr (by decide) (pa_cons (pe_cl (c_lists_ahead T) hr (by decide) (pa_cons (pv 0) pa_nil) passL) (pa_cons (pe_cl (c_numbers_with_hand T) hr (by decide) (pa_cons (pv 0) (pa_cons (pv 1) pa_nil)) passL) pa_nil)) passL) (pg_tupK (K := K) (n := 2) rfl rfl (pgs_cons (pg_name (i := 4) nd rfl (Or.inl rfl)) (pgs_cons (pg_name (i := 5) nd rfl (Or.inl rfl)) pgs_nil))))
  (pss_cons (ps_setLc (i := 6) (own := [("place", 7), ("reach", 8)]) rfl nd rfl rfl (sw_true rfl rfl rfl (by decide +kernel)) (pi_enumK (K := K) rfl (by rfl) T.b_enumerate (pa_cons (pv 4) pa_nil)) (blkOk_by (N := N_days_with_story) (sc := (defScope s_days_with_story)) (by decide +kernel)) (fun _ _ _ _ _ => (pg_tupK (K := K) (n := 2) rfl rfl (pgs_cons (pg_name (i := 7) nd rfl (Or.inl rfl)) (pgs_cons (pg_name (i := 8) nd rfl (Or.inr rfl)) pgs_nil)))) (fun _ _ _ _ _ => (pts_one (pt_val (pe_callB (cr_anyK (K := K) rfl rfl) (by rfl) T.b_any (by decide +kernel) (pa_cons (pe_lc (own := [("number", 9)]) (tt := tYes) rfl nd (pi_listK (K := K) rfl (pv 3)) (blkOk_by (N := N_days_with_story) (sc := (relS _ (defScope s_days_with_story))) (by decide +kernel)) (fun _ _ _ _ _ => (pg_name (i := 9) nd rfl (Or.inl rfl))) (fun _ _ _ _ _ => pts_nil) (fun _ _ _ _ _ => (pe_cmpR (op_inK (K := K) rfl) (pv 9) (pv 8) (by rfl)))) pa_nil))))) (fun _ _ _ _ _ => (pv 7)))
  (pss_one (ps_ret (pe_mkc (m_Round T) hr (by decide) (pa_cons (pv 5) (pa_cons (pe_op op_sub (pe_callB (call_lenK (K := K) rfl) (by rfl) T.b_len PySem.boot_len (pa_cons (pv 4) pa_nil)) (pv 5)) (pa_cons (pv 6) pa_nil))))))))))), ?_⟩
  refine st_eq (σ := [some (.ref p), some (vh), some (vb), none, none, none, none, none, none, none]) rfl ?_
  walk_at "s"
  refine ⟨p, g, vh, dh, rfl, hh, hhd, fun y2 => ?_, fun n2 => e2 n2⟩
  walk_at "s"
  refine ⟨p, g, vb, db, rfl, hh, hb, fun y3 => ?_, fun n3 => e3 y2 n3⟩
  obtain ⟨h, rfl, hh2⟩ := isW_nat y2
  obtain ⟨b, rfl, hb2⟩ := isW_nat y3
  have hlt : h < g.hs := by omega
  have blt : b < g.ls := by omega
  cases hhd
  cases hb
  have q := q h b rfl rfl hlt blt
  walk_at "s"
  refine ⟨p, g, b, rfl, hh, blt, fun H1 D1 s1 hD1 hE => ?_⟩
  walk_at "s"
  refine ⟨p, g, rfl, hh.to s1, fun H2 La s2 hL2 hL => ?_⟩
  walk_at "s"
  refine ⟨p, g, h, rfl, hh.to (s1.trans s2), hlt, fun H3 D3 s3 hD3 hD => ?_⟩
  walk_at "s"
  refine ⟨g, g.wh h, _, D3, rfl, o, hL.to s3, hD, Hou.wh_lt o hlt, fun r H4 Tt m s4 hr4 ob hlo => ?_⟩
  obtain ⟨L, xs, h1, h2, h3, h4⟩ := hlo
  have hTm := ob.lt
  have hT := Hou.orb_le o (Hou.wh_lt o hlt) ob
  have hE4 : H4 D1 = some (.lst (ivs (g.wl b))) := s4 _ _ (s3 _ _ (s2 _ _ hE))
  walk_at "s"
  refine s_gt2 (SqT.of h1) ?_
  walk_at "s"
  refine s_iEc (SqL.of h2) ?_
  refine lc_enum (fun i => if g.tr h b i = true then some (.int (i : Int)) else none) (by omega) (fun H' s' => SqL.of (s' _ _ h2)) (fun D i x Tp H5 c hx hT5 => ?_) (fun D H5 hD5 s5 e5 => ?_)
  · have hi : i < Tt := by
      have := (List.getElem?_eq_some_iff.mp hx).1
      omega
    obtain ⟨rp, e1, e2⟩ := h4 i hi
    rw [e1] at hx
    cases hx
    have s6 : Same H5 (upd H5 Tp (.tup [.int (i : Nat), .ref rp])) := L2.Same.up hT5
    refine s_gt2 (SqT.of upd_same) ?_
    walk_at "s"
    refine ⟨rfl, ?_⟩
    walk_at "s"
    have hE6 := s6 _ _ (c.sm _ _ hE4)
    refine s_iLc (SqL.of hE6) ?_
    refine lc_f (g.wl b) (fun n => some (.bl (decide (n ∈ g.lot (g.wh h) i)))) walk_list (iv_len _) (by unfold Hou.wl; rw [List.length_map, List.length_range]; have := o.h4; omega) (fun H' s' => SqL.of (s' _ _ hE6)) (fun D2 j n H7 c2 => ?_) (fun D2 H7 hD7 s7 e7 => ?_)
    · walk_at "s"
      refine ⟨rfl, ?_⟩
      walk_at "s"
      refine s_inN (.inr (c2.sm _ _ (s6 _ _ (c.sm _ _ e2)))) ?_
      exact lc_yes c2 (L2.Same.refl _) rfl
    · rw [fm_map] at e7
      walk_at "s"
      refine ⟨D2, (g.wl b).map fun n => decide (n ∈ g.lot (g.wh h) i), rfl, SqL.of (by rw [e7, List.map_map]; rfl), ?_⟩
      have z : ((g.wl b).map fun n => decide (n ∈ g.lot (g.wh h) i)).any id = g.tr h b i := by
        rw [List.any_map]
        exact any_swap _ _
      rw [z]
      walk_at "s"
      refine s_ite (fun e => ?_) (fun e => ?_)
      · walk_at "s"
        exact lc_yes c (s6.trans s7) (by rw [if_pos e])
      · exact lc_no c (s6.trans s7) (by rw [if_neg (by rw [e]; decide)])
  · rw [h3, fm_if] at e5
    have e6 : (List.range Tt).filter (g.tr h b) = rlot (g.tr h b) m (Tt - m) := by
      unfold rlot
      rw [show m + (Tt - m) = Tt by omega]
    have e5 : H5 D = some (.lst (ivs (rlot (g.tr h b) m (Tt - m)))) := by rw [← e6]; exact e5
    walk_at "s"
    refine s_make ?_
    walk_at "s"
    refine s_lenL (s5 _ _ h2) ?_
    rw [h3]
    walk_at "s"
    rw [show ((Tt : Int) - (m : Int)) = ((Tt - m : Nat) : Int) by omega]
    intro x dx hx hdx hne
    have sx : Same H5 (upd (upd H5 dx (.own x)) x (.ins (gA K "Round") dx [])) := (L2.Same.up hdx).upT (by rw [upd_ne (Ne.symm hne)]; exact hx)
    refine ⟨g.tr h b, m, Tt - m, x, dx, .ref D, .list (ivD (rlot (g.tr h b) m (Tt - m))), rfl, upd_same, Hd.iv (sx _ _ e5), rfl, rfl, by omega, by omega, by omega, Hou.tr_per ob, fun H' h' t' sX hR hh' ht' ho => ⟨rfl, ?_⟩⟩
    exact q x H' (((((s1.trans s2).trans s3).trans s4).trans s5).trans (make_same hx hdx sX)) ⟨h', t', hR, by omega, by omega, ho⟩
theorem c_days_with_story (T : TX K mg) : Cal (L2.CX P w) P w K mg base 5 "days_with_story" (sp_days_with_story K) [] :=
  cal_mk T.f_days_with_story T.g_days_with_story ⟨rfl, rfl⟩ (fun _ _ _ _ _ _ us hl => match us, hl with | [_, _, _], _ => rfl) sc_days_with_story (fun vs H Q E h => by obtain ⟨p, g, vh, vb, dh, db, rfl, _⟩ := h; rfl) (k_days_with_story T)
end

end K53
namespace K53
open PySem PySem.Spec PyProof.Rows L2
/-! ### operators by own methods -/
theorem kit_sub {K : PySem.W.Frag} {t : Value} {C : Addr} (h : PySem.W.kitOne K t (.ref C) = some false) : PySem.W.notFirst K C t = true := by
  unfold PySem.W.kitOne at h
  split at h
  · cases h
  · unfold PySem.W.kitCls at h
    simp only at h
    split at h
    · unfold PySem.W.notFirst
      rw [h]
      simp
    · cases h
section
variable {M : Model} {prog : Program} {w : World} {A : Around} {E : Value → Shared → Prop} {s : Shared} {K : PySem.W.Frag} {x C f L : Addr} {ox : Obj} {od : Option Obj} {b tb : Value} {h₀ : Heap} {m : Str → Option Value}
theorem ifBound_ne {args : List Value} {Q : Option Value → Shared → Prop} (X : K.In s.heap) (I : PySem.W.InstAt s.heap x ox C od) (hs : PySem.W.findIn K (.ref C) "__ne__" = some (some (.builtin "object.__ne__")))
    (h : wpAny M A (call (.builtin "object.__ne__") (.ref x :: args)) (fun v => Q (some v)) E s) : wpAny M A (callSpecialIfBound? (.ref x) "__ne__" args) Q E s := by
  simp only [callSpecialIfBound?, bindSpecialIfBound?]
  refine wpAny_holding (wpAny_bind (wpAny_bind (wpAny_bind (I.type.here ((PySem.W.looks_findIn X hs).here ?_)))))
  refine wpAny_bind (wpAny_askSetting (wpAny_ite ?_))
  have fin : wpAny M A (call (.builtin "object.__ne__") ([.ref x] ++ args) >>= fun v => pure (some v)) Q E s := wpAny_bind (wpAny_mono h (fun v s' h' => wpAny_pure h') fun _ _ h' => h')
  split
  · exact wpAny_bind (wpAny_of_eq (F.cmp_object.ne.bind _) (wpAny_pure (by exact fin)))
  · exact wpAny_tryCatch (wpAny_bind (wpAny_of_eq (F.cmp_object.ne.bind _) (wpAny_pure (by exact fin))))
theorem ne_entry {Q : Fin → Shared → Prop} (X : K.In s.heap) (I : PySem.W.InstAt s.heap x ox C od) (hs : PySem.W.findIn K (.ref C) "__eq__" = some (some (.ref f))) (hf : PySem.W.isFn K (.ref f) = true) (hu : A.units < cLine)
    (hcall : wpAny (model prog w) A (call (.ref f) [.ref x, b]) (fun v s' => ∃ k, v = .bool k ∧ Q (.done (.ret (.bool (!k)))) s') E s) : wpAny (model prog w) A (Builtin.«object.__ne__» ⟨[.ref x, b], []⟩) Q E s := by
  unfold Builtin.«object.__ne__»
  repeat (first
    | with_reducible refine wpAny_cRoomFor hu ?_
    | (refine wpAny_bind (m := callSpecialIfBound? (.ref x) (Str.ofString "__eq__") [b])
        (PySem.W.ifBound_K X I hs hf (wpAny_mono hcall (fun r s' hr => by
          obtain ⟨k, rfl, hq⟩ := hr
          repeat (first | exact hq | exact wpAny_pure hq | exact wpAny_truthy_bool hq | (refine wpAny_bind (m := truthy (.bool _)) (wpAny_truthy_bool ?_)) | wp_step)) fun _ _ e => e)))
    | wp_step)
theorem ne_K {Q : Value → Shared → Prop} (hu : A.units + 1 < cLine) (F₀ : Fr h₀ L s.heap m) (X₀ : K.In h₀) (I : PySem.W.InstAt s.heap x ox C od) (hb : PySem.W.Looks (model prog w) s.heap (typeOf b) tb) (hn : PySem.W.notFirst K C tb = true) (hm : PySem.W.mroIn K C (.type "object") = some true)
    (hne : PySem.W.findIn K (.ref C) "__ne__" = some (some (.builtin "object.__ne__"))) (hs : PySem.W.findIn K (.ref C) "__eq__" = some (some (.ref f))) (hf : PySem.W.isFn K (.ref f) = true)
    (hcall : wpAny (model prog w) A.in1 (call (.ref f) [.ref x, b]) (fun v s' => ∃ k, v = .bool k ∧ Q (.bool (!k)) s') E s) : wpAny (model prog w) A (richCompare .NotEq (.ref x) b) Q E s := by
  have X := X₀.keeps F₀.keep
  have one : wpAny (model prog w) A (tryCompare (.ref x) "__ne__" b) (fun r s' => ∃ v, r = some v ∧ Q v s') E s := by
    unfold tryCompare
    refine wpAny_bind (ifBound_ne X I hne ?_)
    refine wpAny_call (codeAny_call_builtin F.cmp_object.ne.plain F.cmpEntry_ne (PySem.W.check_slot F.cmpKind_ne F.cmpSplit_ne (I.type.andThen (PySem.W.looks_mroIn X hm)) (F.cmpArgs_ne _ _) (ne_entry (A := A.in1) X I hs hf (by first | exact Nat.lt_of_succ_lt hu | exact hu) (wpAny_mono hcall (fun v s' hv => ?_) fun _ _ e => e))))
    obtain ⟨k, rfl, hq⟩ := hv
    exact ⟨k, rfl, wpAny_pure ⟨_, rfl, hq⟩⟩
  unfold richCompare
  simp only [oneThing_ref]
  refine wpAny_holding (wpAny_bind (wpAny_cRoomFor (Nat.lt_of_succ_lt hu) ?_))
  refine wpAny_bind (I.type.here (wpAny_bind (hb.here ?_)))
  split
  · rename_i q
    have e : PySem.W.subIn K tb (.ref C) = some false := by
      rcases Bool.or_eq_true_iff.mp hn with e | e
      · rw [beq_iff_eq.mp e] at q; simp at q
      · exact beq_iff_eq.mp e
    refine wpAny_bind ((PySem.W.looks_subIn X e).here ?_)
    simp only [Bool.false_eq_true, if_false]
    refine wpAny_bind (wpAny_mono one (fun r s' z => ?_) fun _ _ e => e)
    obtain ⟨v, rfl, hq⟩ := z
    exact wpAny_pure hq
  · refine wpAny_bind (wpAny_pure ?_)
    simp only [Bool.false_eq_true, if_false]
    refine wpAny_bind (wpAny_mono one (fun r s' z => ?_) fun _ _ e => e)
    obtain ⟨v, rfl, hq⟩ := z
    exact wpAny_pure hq
end
/-! ### .. as rules -/
/-- what the other side may be: an instance, or a whole number -/
def Oth (K : PySem.W.Frag) (C : Addr) (H : Hp) (y : V) : Prop := (∃ b C' dy gs, y = .ref b ∧ H b = some (.ins C' dy gs) ∧ PySem.W.notFirst K C (.ref C') = true) ∨ (∃ i, y = .int i ∧ PySem.W.notFirst K C (.type "int") = true)
def rOEq (K : PySem.W.Frag) (C : Addr) (sp : Sp) : R2 := fun x y H Q => ∃ a dx fs, x = .ref a ∧ H a = some (.ins C dx fs) ∧ Oth K C H y ∧ sp [x, y] H Q E0
def rONe (K : PySem.W.Frag) (C : Addr) (sp : Sp) : R2 := fun x y H Q => ∃ a dx fs, x = .ref a ∧ H a = some (.ins C dx fs) ∧ Oth K C H y ∧ sp [x, y] H (fun v H' => ∃ k, v = .bl k ∧ Q (.bl (!k)) H') E0
def rOIn (C : Addr) (sp : Sp) : R2 := fun x y H Q => ∃ a dx fs, y = .ref a ∧ H a = some (.ins C dx fs) ∧ sp [y, x] H (fun v H' => ∃ k, v = .bl k ∧ Q (.bl k) H') E0
def rOOr (C : Addr) (sp : Sp) : R2 := fun x y H Q => ∃ a dx fs b dy gs, x = .ref a ∧ H a = some (.ins C dx fs) ∧ y = .ref b ∧ H b = some (.ins C dy gs) ∧ sp [x, y] H Q E0
section
variable {X : Cx} {K : PySem.W.Frag} {C g : Addr} {n : Nat} {sp : Sp}
theorem oth_looks {pins : List (Addr × Obj)} {σ : L2.St} {H : Hp} {s : Shared} {y : V} {u : Value} (I : Inv X pins σ H s) (r : RelV y u) (h : Oth K C H y) : ∃ tb, PySem.W.Looks (model X.prog X.w) s.heap (typeOf u) tb ∧ PySem.W.notFirst K C tb = true := by
  rcases h with ⟨b, C', dy, gs, rfl, hb, hn⟩ | ⟨i, rfl, hn⟩
  · obtain rfl : u = Value.ref b := r
    obtain ⟨mA, J, _⟩ := ins_get I.hok hb
    obtain ⟨od, J, _⟩ := J.look
    exact ⟨_, J.type, hn⟩
  · obtain ⟨t, rfl⟩ : ∃ t, u = Value.int i t := r
    exact ⟨.type "int", PySem.W.Looks.of_pure rfl, hn⟩
theorem op_eqO (hK : X.K = K) (F : FnR X.prog X.w K X.mg X.base (L2.CX X.prog X.w) n g sp) (hs : PySem.W.findIn K (.ref C) "__eq__" = some (some (.ref g))) (hf : PySem.W.isFn K (.ref g) = true) (hr : Room n X.A) : OpR X (compareOp .Eq) (rOEq K C sp) := by
  subst hK
  intro pins s σ H x y v u Q I rx ry h
  obtain ⟨a, dx, fs, rfl, ha, ho, q⟩ := h
  obtain rfl : v = Value.ref a := rx
  obtain ⟨mA, J, _⟩ := ins_get I.hok ha
  obtain ⟨od, J, _⟩ := J.look
  obtain ⟨tb, hb, hn⟩ := oth_looks I ry ho
  obtain ⟨m, hF⟩ := I.fr
  show wpAny _ _ (richCompare .Eq _ _) _ _ _
  refine PySem.W.cmp_K (op := .Eq) hr.units0 hF I.ok.mod.kin J hb hn hs hf ?_
  refine wpAny_mono (wpAny_call (run_fnR (us := [.ref a, u]) (vs := [.ref a, y]) F hr passL I (.cons rfl (.cons ry .nil)) q)) (fun w s' z => ?_) fun _ _ x => x
  obtain ⟨z', H', I', rz, qz⟩ := z
  exact SlX.cmpback rz ⟨z', H', I', rz, qz⟩
theorem op_neO (hK : X.K = K) (F : FnR X.prog X.w K X.mg X.base (L2.CX X.prog X.w) n g sp) (hs : PySem.W.findIn K (.ref C) "__eq__" = some (some (.ref g))) (hf : PySem.W.isFn K (.ref g) = true) (hm : PySem.W.mroIn K C (.type "object") = some true)
    (hne : PySem.W.findIn K (.ref C) "__ne__" = some (some (.builtin "object.__ne__"))) (hr : Room (n + 1) X.A) : OpR X (compareOp .NotEq) (rONe K C sp) := by
  subst hK
  intro pins s σ H x y v u Q I rx ry h
  obtain ⟨a, dx, fs, rfl, ha, ho, q⟩ := h
  obtain rfl : v = Value.ref a := rx
  obtain ⟨mA, J, _⟩ := ins_get I.hok ha
  obtain ⟨od, J, _⟩ := J.look
  obtain ⟨tb, hb, hn⟩ := oth_looks I ry ho
  obtain ⟨m, hF⟩ := I.fr
  show wpAny _ _ (richCompare .NotEq _ _) _ _ _
  refine ne_K (by have := hr.units; omega) hF I.ok.mod.kin J hb hn hm hne hs hf ?_
  refine wpAny_mono (wpAny_call (SlX.run_at (us := [.ref a, u]) (ws := [.ref a, y]) F hr.in1 I.env0.in1 passL I (.cons rfl (.cons ry .nil)) q)) (fun w s' z => ?_) fun _ _ x => x
  obtain ⟨z', H', I', rz, k, rfl, qz⟩ := z
  obtain rfl : w = Value.bool k := rz
  exact ⟨k, rfl, .bl (!k), H', I', rfl, qz⟩
theorem op_inO (hK : X.K = K) (F : FnR X.prog X.w K X.mg X.base (L2.CX X.prog X.w) n g sp) (hs : PySem.W.findIn K (.ref C) "__contains__" = some (some (.ref g))) (hf : PySem.W.isFn K (.ref g) = true) (hr : Room n X.A) : OpR X (compareOp .In) (rOIn C sp) := by
  subst hK
  intro pins s σ H x y v u Q I rx ry h
  obtain ⟨a, dx, fs, rfl, ha, q⟩ := h
  obtain rfl : u = Value.ref a := ry
  obtain ⟨mA, J, _⟩ := ins_get I.hok ha
  obtain ⟨od, J, _⟩ := J.look
  obtain ⟨m, hF⟩ := I.fr
  refine PySem.W.in_K hF I.ok.mod.kin J hs hf ?_
  refine wpAny_mono (wpAny_call (run_fnR (us := [.ref a, v]) (vs := [.ref a, x]) F hr passL I (.cons rfl (.cons rx .nil)) q)) (fun w s' z => ?_) fun _ _ x => x
  obtain ⟨z', H', I', rz, k, rfl, qz⟩ := z
  obtain rfl : w = Value.bool k := rz
  exact wpAny_truthy_bool ⟨.bl k, H', I', rfl, qz⟩
theorem op_orO (hK : X.K = K) (F : FnR X.prog X.w K X.mg X.base (L2.CX X.prog X.w) n g sp) (hc : PySem.W.selfFirst K C = true) (hs : PySem.W.findIn K (.ref C) "__or__" = some (some (.ref g))) (hf : PySem.W.isFn K (.ref g) = true) (hr : Room n X.A) : OpR X (binaryOp .BitOr) (rOOr C sp) := by
  subst hK
  intro pins s σ H x y v u Q I rx ry h
  obtain ⟨a, dx, fs, b, dy, gs, rfl, ha, rfl, hb, q⟩ := h
  obtain rfl : v = Value.ref a := rx
  obtain rfl : u = Value.ref b := ry
  obtain ⟨mA, J, _⟩ := ins_get I.hok ha
  obtain ⟨od, J, _⟩ := J.look
  obtain ⟨mB, J', _⟩ := ins_get I.hok hb
  obtain ⟨od', J', _⟩ := J'.look
  obtain ⟨m, hF⟩ := I.fr
  refine PySem.W.binop_K (op := .BitOr) hF I.ok.mod.kin J J'.type hc hs hf ?_
  refine wpAny_mono (wpAny_call (run_fnR (us := [.ref a, .ref b]) (vs := [.ref a, .ref b]) F hr passL I (.cons rfl (.cons rfl .nil)) q)) (fun w s' z => ?_) fun _ _ x => x
  obtain ⟨z', H', I', rz, qz⟩ := z
  exact SlX.cmpback rz ⟨z', H', I', rz, qz⟩
end

end K53
namespace K53
open PySem PySem.Spec PyProof.Rows L2
/-! ### Round: ==, in, | -/
def rouD (h t : Nat) (l : List Nat) : PyData := .tuple [.int (h : Int), .int (t : Int), .tuple (ivD l)]
theorem pl_ivD (n : Nat) (l : List Nat) : plA n (ivD l) = true := plA_all fun d hd => by
  obtain ⟨k, _, rfl⟩ := List.mem_map.mp hd
  unfold pl
  rfl
theorem ivD_inj {a b : List Nat} (h : ivD a = ivD b) : a = b := List.map_inj_right (fun x y e => by injection e with e; omega) |>.mp h
theorem pl_rou (h t : Nat) (l : List Nat) : pl 2 (rouD h t l) = true := by
  unfold rouD
  simp only [pl, plA, Bool.and_true, Bool.true_and, Bool.and_self]
  exact pl_ivD 0 l
theorem rouD_inj {h t h2 t2 : Nat} {l l2 : List Nat} (e : rouD h t l = rouD h2 t2 l2) : h = h2 ∧ t = t2 ∧ l = l2 := by
  unfold rouD at e
  injection e with e
  injection e with e1 e
  injection e with e2 e
  injection e with e3 _
  injection e1 with e1
  injection e2 with e2
  injection e3 with e3
  exact ⟨by omega, by omega, ivD_inj e3⟩
abbrev N_Round__eq__ : List Str := ["self", "other"]
theorem sc_Round__eq__ : FnScope N_Round__eq__ ["self", "other"] (defScope s_Round__eq__) := C8.fnScope_by (by decide +kernel)
abbrev N_Round__contains__ : List Str := ["self", "number"]
theorem sc_Round__contains__ : FnScope N_Round__contains__ ["self", "number"] (defScope s_Round__contains__) := C8.fnScope_by (by decide +kernel)
abbrev N_Round__or__ : List Str := ["self", "other", "head", "turn", "first", "number", "second", "both"]
theorem sc_Round__or__ : FnScope N_Round__or__ ["self", "other"] (defScope s_Round__or__) := C8.fnScope_by (by decide +kernel)
def sp_Round__eq__ (K : PySem.W.Frag) : Sp := fun vs H Q _ => ∃ (h t h2 t2 : Nat) (l l2 : List Nat) (p p2 : Addr), vs = [.ref p, .ref p2] ∧ RouO K H p h t l ∧ RouO K H p2 h2 t2 l2 ∧ ∀ H', Same H H' → Q (.bl (decide (h = h2 ∧ t = t2 ∧ l = l2))) H'
def sp_Round__contains__ (K : PySem.W.Frag) : Sp := fun vs H Q _ => ∃ (f : Nat → Bool) (k : Nat) (p : Addr), vs = [.ref p, .int (k : Int)] ∧ RndO K H p f ∧ Q (.bl (f k)) H
def sp_Round__or__ (K : PySem.W.Frag) : Sp := fun vs H Q _ => ∃ (f f2 : Nat → Bool) (D m : Nat) (p p2 : Addr), vs = [.ref p, .ref p2] ∧ RndO K H p f ∧ RndO K H p2 f2 ∧ 1 ≤ D ∧ D ≤ 2000 ∧ (∀ k, m ≤ k → f (k + D) = f k) ∧ (∀ k, m ≤ k → f2 (k + D) = f2 k) ∧
  ∀ r H', Same H H' → RndO K H' r (fun k => f k || f2 k) → Q (.ref r) H'
section
variable {P : Program} {w : World} {K : PySem.W.Frag} {mg : Str → Option Value} {base : Heap}
theorem k_Round__eq__ (T : TX K mg) : Keeps (L2.CX P w) P w K mg base d_Round__eq__ N_Round__eq__ 0 (sp_Round__eq__ K) := by
  intro cdv A outer s H vs Q E hr hsp
  obtain ⟨h, t, h2, t2, l, l2, p, p2, rfl, r1, r2, q⟩ := hsp
  obtain ⟨dx2, fs2, L2', b1, b2, b3, b4, b5⟩ := r2.at_
  have b1' := b1
  have nd := sc_Round__eq__.nd
  have hu := hu_of hr
  have hu64 := hr.units
  refine ⟨_, (pss_cons (ps_if (pt_not (pt_val (pe_callB (call_isiK1 (K := K) rfl) (by rfl) T.b_isinstance (by decide +kernel) (pa_cons (pv 1) (pa_cons (pe_glob (v := .ref (gA K "Round")) (by rfl) T.g_Round rfl) pa_nil))))) (pss_one (ps_ret pe_bl)) pss_nil)
  (pss_one (ps_ret (pe_cmpR (op_eqDK (K := K) rfl hu64) (pe_tup (pa_cons (pe_fldK (K := K) rfl (pv 0) (by rfl)) (pa_cons (pe_fldK (K := K) rfl (pv 0) (by rfl)) (pa_cons (pe_fldK (K := K) rfl (pv 0) (by rfl)) pa_nil)))) (pe_tup (pa_cons (pe_fldK (K := K) rfl (pv 1) (by rfl)) (pa_cons (pe_fldK (K := K) rfl (pv 1) (by rfl)) (pa_cons (pe_fldK (K := K) rfl (pv 1) (by rfl)) pa_nil)))) (nomark _))))), ?_⟩
  refine st_eq (σ := [some (.ref p), some (.ref p2)]) rfl ?_
  walk_at "s"
  refine s_isiO T (x := "Round") (by decide) (by decide) T.cl_Round b1 ?_
  walk_at "s"
  refine s_noND rfl ?_
  walk_at "s"
  refine s_head T r1 ?_
  walk_at "s"
  refine s_turn T r1 ?_
  walk_at "s"
  refine s_lot T r1 fun L hL => ?_
  walk_at "s"
  refine s_tl (Nat.le_of_ble_eq_true rfl) fun a1 ha1 => ?_
  have s1 := L2.Same.up (o := HO.tup [V.int (h : Int), V.int (t : Int), V.ref L]) ha1
  walk_at "s"
  refine s_head T (r2.to s1) ?_
  walk_at "s"
  refine s_turn T (r2.to s1) ?_
  walk_at "s"
  refine s_lot T (r2.to s1) fun Lb hL2 => ?_
  walk_at "s"
  refine s_tl (Nat.le_of_ble_eq_true rfl) fun a2 ha2 => ?_
  have s2 := L2.Same.up (o := HO.tup [V.int (h2 : Int), V.int (t2 : Int), V.ref Lb]) ha2
  refine s_eqPl 2 (by decide) (d := rouD h t l) (e := rouD h2 t2 l2) (.tup (s2 _ _ upd_same) (.cons (.int _) (.cons (.int _) (.cons (Hd.ivT (s2 _ _ (s1 _ _ hL))) .nil)))) (.tup upd_same (.cons (.int _) (.cons (.int _) (.cons (Hd.ivT (s2 _ _ hL2)) .nil)))) (pl_rou _ _ _) (pl_rou _ _ _) (fun e => ?_) (fun e => ?_)
  · have q := q _ (s1.trans s2)
    rw [decide_eq_true (rouD_inj e)] at q
    exact q
  · have q := q _ (s1.trans s2)
    rw [decide_eq_false (fun z => e (by rw [z.1, z.2.1, z.2.2]))] at q
    exact q
theorem f_eqR (T : TX K mg) : FnR P w K mg base (L2.CX P w) 1 (He.ma K (gA K "Round") "__eq__") (sp_Round__eq__ K) := by
  obtain ⟨fd, F, G⟩ := fn_mk T.f_Round__eq__ sc_Round__eq__ (fun vs H Q E h => by obtain ⟨h, t, h2, t2, l, l2, p, p2, rfl, _⟩ := h; rfl) (k_Round__eq__ (P := P) (w := w) (base := base) T)
  exact (G.raw (F.bindsN fun _ _ _ _ _ _ us hl => match us, hl with | [_, _], _ => rfl) .nil).imp fun vs H Q E h => by rw [List.append_nil]; exact h
theorem k_Round__contains__ (T : TX K mg) : Keeps (L2.CX P w) P w K mg base d_Round__contains__ N_Round__contains__ 1 (sp_Round__contains__ K) := by
  intro cdv A outer s H vs Q E hr hsp
  obtain ⟨f, k, p, rfl, ⟨h, t, hR, _, _, ro⟩, q⟩ := hsp
  have hp := hR.pos
  have nd := sc_Round__contains__.nd
  have hu := hu_of hr
  have hu64 := hr.units
  refine ⟨_, (pss_cons (ps_if (pt_not (pt_val (pe_cl (c_is_whole2 T) hr (by decide) (pa_cons (pv 1) (pa_cons pe_int pa_nil)) passL))) (pss_one (ps_ret pe_bl)) pss_nil)
  (pss_cons (ps_if (pt_cmpR op_lt (pv 1) (pe_fldK (K := K) rfl (pv 0) (by rfl)) (nomark _)) (pss_one (ps_ret (pe_cmpR (op_inK (K := K) rfl) (pv 1) (pe_fldK (K := K) rfl (pv 0) (by rfl)) (by rfl)))) pss_nil)
  (pss_one (ps_ret (pe_cmpR (op_inK (K := K) rfl) (pe_op op_add (pe_fldK (K := K) rfl (pv 0) (by rfl)) (pe_op op_mod (pe_op op_sub (pv 1) (pe_fldK (K := K) rfl (pv 0) (by rfl))) (pe_fldK (K := K) rfl (pv 0) (by rfl)))) (pe_fldK (K := K) rfl (pv 0) (by rfl)) (by rfl)))))), ?_⟩
  refine st_eq (σ := [some (.ref p), some (.int (k : Int))]) rfl ?_
  walk_at "s"
  refine ⟨_, .int (k : Int), some 0, none, rfl, .int _, ?_⟩
  rw [show isW (.int (k : Int)) (some 0) none = true by
    show (decide ((0 : Int) ≤ (k : Int)) && true) = true
    rw [decide_eq_true (by omega)]; rfl]
  walk_at "s"
  refine s_head T ro ?_
  walk_at "s"
  have hm := hR.mem k
  refine s_iteD (fun e => ?_) (fun e => ?_)
  · rw [if_pos e] at hm
    rw [hm] at q
    walk_at "s"
    refine s_lot T ro fun L hL => ?_
    exact s_inN (.inr hL) q
  · rw [if_neg e] at hm
    rw [hm] at q
    walk_at "s"
    refine s_head T ro ?_
    walk_at "s"
    refine s_head T ro ?_
    refine s_subN (by omega) ?_
    walk_at "s"
    refine s_turn T ro ?_
    refine s_modN (by omega) ?_
    walk_at "s"
    refine s_lot T ro fun L hL => ?_
    exact s_inN (.inr hL) q
theorem f_inR (T : TX K mg) : FnR P w K mg base (L2.CX P w) 2 (He.ma K (gA K "Round") "__contains__") (sp_Round__contains__ K) := by
  obtain ⟨fd, F, G⟩ := fn_mk T.f_Round__contains__ sc_Round__contains__ (fun vs H Q E h => by obtain ⟨f, k, p, rfl, _⟩ := h; rfl) (k_Round__contains__ (P := P) (w := w) (base := base) T)
  exact (G.raw (F.bindsN fun _ _ _ _ _ _ us hl => match us, hl with | [_, _], _ => rfl) .nil).imp fun vs H Q E h => by rw [List.append_nil]; exact h
theorem k_Round__or__ (T : TX K mg) : Keeps (L2.CX P w) P w K mg base d_Round__or__ N_Round__or__ 4 (sp_Round__or__ K) := by
  intro cdv A outer s H vs Q E hr hsp
  obtain ⟨f, f2, D, m, p, p2, rfl, ⟨h, t, hR, hh, ht, ro⟩, ⟨h2, t2, hR2, hh2, ht2, ro2⟩, hD1, hD2, hp1, hp2, q⟩ := hsp
  obtain ⟨dx2, fs2, L2', b1, _⟩ := ro2.at_
  have ht1 := hR.pos
  have ht12 := hR2.pos
  have hdv : Nat.lcm t t2 ∣ D := Nat.lcm_dvd (Nat.dvd_of_mod_eq_zero (hR.dvd hp1)) (Nat.dvd_of_mod_eq_zero (hR2.dvd hp2))
  have hle : Nat.lcm t t2 ≤ D := Nat.le_of_dvd (by omega) hdv
  have hpos : 0 < Nat.lcm t t2 := Nat.lcm_pos ht1 ht12
  obtain ⟨c1, hc1⟩ := Nat.dvd_lcm_left t t2
  obtain ⟨c2, hc2⟩ := Nat.dvd_lcm_right t t2
  have pr1 : ∀ k, h ≤ k → f (k + Nat.lcm t t2) = f k := fun k hk => by rw [hc1, Nat.mul_comm t c1]; exact per_mul hR.per c1 k hk
  have pr2 : ∀ k, h2 ≤ k → f2 (k + Nat.lcm t t2) = f2 k := fun k hk => by rw [hc2, Nat.mul_comm t2 c2]; exact per_mul hR2.per c2 k hk
  have nd := sc_Round__or__.nd
  have hu := hu_of hr
  have hu64 := hr.units
  refine ⟨_, (pss_cons (ps_if (pt_not (pt_val (pe_callB (call_isiK1 (K := K) rfl) (by rfl) T.b_isinstance (by decide +kernel) (pa_cons (pv 1) (pa_cons (pe_glob (v := .ref (gA K "Round")) (by rfl) T.g_Round rfl) pa_nil))))) (pss_one ps_never) pss_nil)
  (pss_cons (ps_asg (pe_cl (c_shared_telling T) hr (by decide) (pa_cons (pv 0) (pa_cons (pv 1) pa_nil)) passL) (pg_tupK (K := K) (n := 2) rfl rfl (pgs_cons (pg_name (i := 2) nd rfl (Or.inl rfl)) (pgs_cons (pg_name (i := 3) nd rfl (Or.inl rfl)) pgs_nil))))
  (pss_cons (ps_set (i := 4) nd rfl (Or.inr rfl) (pe_dc (own := [("number", 5)]) rfl nd (pi_listK (K := K) rfl (pe_cl (c_numbers_below T) hr (by decide) (pa_cons (pv 0) (pa_cons (pe_op op_add (pv 2) (pv 3)) pa_nil)) passL)) (blkOk_by (N := N_Round__or__) (sc := (defScope s_Round__or__)) (by decide +kernel)) (fun _ _ _ _ _ => (pg_name (i := 5) nd rfl (Or.inl rfl))) (fun _ _ _ _ _ => pts_nil) (fun _ _ _ _ _ => (pv 5)) (fun _ _ _ _ _ => pe_bl)))
  (pss_cons (ps_set (i := 6) nd rfl (Or.inr rfl) (pe_dc (own := [("number", 5)]) rfl nd (pi_listK (K := K) rfl (pe_cl (c_numbers_below T) hr (by decide) (pa_cons (pv 1) (pa_cons (pe_op op_add (pv 2) (pv 3)) pa_nil)) passL)) (blkOk_by (N := N_Round__or__) (sc := (defScope s_Round__or__)) (by decide +kernel)) (fun _ _ _ _ _ => (pg_name (i := 5) nd rfl (Or.inl rfl))) (fun _ _ _ _ _ => pts_nil) (fun _ _ _ _ _ => (pv 5)) (fun _ _ _ _ _ => pe_bl)))
  (pss_cons (ps_setLc (i := 7) (own := [("number", 5)]) rfl nd rfl rfl (sw_true rfl rfl rfl (by decide +kernel)) (pi_range1 (by rfl) T.b_range (pa_cons (pe_op op_add (pv 2) (pv 3)) pa_nil)) (blkOk_by (N := N_Round__or__) (sc := (defScope s_Round__or__)) (by decide +kernel)) (fun _ _ _ _ _ => (pg_name (i := 5) nd rfl (Or.inl rfl))) (fun _ _ _ _ _ => (pts_one (PW.pt (pw_or (pt_cmp (pc_din hu (pv 5) (pv 4))) (pw_or1 (pt_cmp (pc_din hu (pv 5) (pv 6)))))))) (fun _ _ _ _ _ => (pv 5)))
  (pss_one (ps_ret (pe_mkc (m_Round T) hr (by decide) (pa_cons (pv 2) (pa_cons (pv 3) (pa_cons (pv 7) pa_nil))))))))))), ?_⟩
  refine st_eq (σ := [some (.ref p), some (.ref p2), none, none, none, none, none, none]) rfl ?_
  generalize hlc : Nat.lcm t t2 = lc at *
  walk_at "s"
  refine s_isiO T (x := "Round") (by decide) (by decide) T.cl_Round b1 ?_
  walk_at "s"
  refine s_noND rfl ?_
  walk_at "s"
  refine ⟨h, t, h2, t2, _, _, p, p2, rfl, ro, ro2, ht1, ht12, by omega, by omega, by rw [hlc]; omega, fun r H1 s1 hr1 => ?_⟩
  rw [hlc] at hr1
  refine s_gt2 (SqT.of hr1) ?_
  walk_at "s"
  refine ⟨f, h, t, max h h2 + lc, p, rfl, ro.to s1, ht1, by omega, by omega, by omega, by omega, hR.per, fun D1 H2 ns s2 hD1n hD1 hnd1 hm1 => ?_⟩
  have hl1 : ns.length ≤ max h h2 + lc := nd_lt hnd1 fun k hk => ((hm1 k).mp hk).1
  refine s_iLd (SqL.of hD1) ?_
  refine dc_have walk_list hnd1 (by omega) (fun H' s' => SqL.of (s' _ _ hD1)) (fun D i n H3 c => ?_) (fun A1 H3 hA1 s3 e3 => ?_)
  · walk_at "s"
    refine ⟨rfl, ?_⟩
    walk_at "s"
    exact dc_yes c
  walk_at "s"
  refine ⟨f2, h2, t2, max h h2 + lc, p2, rfl, ro2.to ((s1.trans s2).trans s3), ht12, by omega, by omega, by omega, by omega, hR2.per, fun D2 H4 ns2 s4 hD2n hD2 hnd2 hm2 => ?_⟩
  have hl2 : ns2.length ≤ max h h2 + lc := nd_lt hnd2 fun k hk => ((hm2 k).mp hk).1
  refine s_iLd (SqL.of hD2) ?_
  refine dc_have walk_list hnd2 (by omega) (fun H' s' => SqL.of (s' _ _ hD2)) (fun D i n H3 c => ?_) (fun A2 H5 hA2 s5 e5 => ?_)
  · walk_at "s"
    refine ⟨rfl, ?_⟩
    walk_at "s"
    exact dc_yes c
  have e3' := s5 _ _ (s4 _ _ e3)
  walk_at "s"
  refine s_i1c (n := max h h2 + lc) (by omega) ?_
  refine lc_f (List.range (max h h2 + lc)) (fun k => if (f k || f2 k) = true then some (.int (k : Int)) else none) walk_r List.length_range.symm (by rw [List.length_range]; omega) (fun _ _ => trivial) (fun D i k H6 c => ?_) (fun B H6 hB s6 e6 => ?_)
  · have hk := List.mem_range.mp (List.mem_of_getElem? c.ai)
    have m1 : decide (k ∈ ns) = f k := by
      rw [bl_iff (p := k ∈ ns) (q := f k = true) (by rw [hm1]; exact ⟨fun z => z.2, fun z => ⟨hk, z⟩⟩)]
      cases f k <;> rfl
    have m2 : decide (k ∈ ns2) = f2 k := by
      rw [bl_iff (p := k ∈ ns2) (q := f2 k = true) (by rw [hm2]; exact ⟨fun z => z.2, fun z => ⟨hk, z⟩⟩)]
      cases f2 k <;> rfl
    walk_at "s"
    refine ⟨rfl, ?_⟩
    walk_at "s"
    refine ⟨A1, _, rfl, have_get (.inl (c.sm _ _ e3')), ?_⟩
    rw [haveK_val, m1]
    walk_at "s"
    refine s_ite (fun z => ?_) (fun z => ?_)
    · walk_at "s"
      exact lc_yes c (L2.Same.refl _) (by rw [z]; rfl)
    · walk_at "s"
      refine ⟨A2, _, rfl, have_get (.inl (c.sm _ _ e5)), ?_⟩
      rw [haveK_val, m2]
      walk_at "s"
      refine s_ite (fun z2 => ?_) (fun z2 => ?_)
      · walk_at "s"
        exact lc_yes c (L2.Same.refl _) (by rw [z, z2]; rfl)
      · exact lc_no c (L2.Same.refl _) (by rw [z, z2]; rfl)
  · rw [fm_if] at e6
    have e6 : H6 B = some (.lst (ivs (rlot (fun k => f k || f2 k) (max h h2) lc))) := e6
    walk_at "s"
    refine s_make ?_
    walk_at "s"
    intro x dx hx hdx hne
    have sx : Same H6 (upd (upd H6 dx (.own x)) x (.ins (gA K "Round") dx [])) := (L2.Same.up hdx).upT (by rw [upd_ne (Ne.symm hne)]; exact hx)
    refine ⟨fun k => f k || f2 k, max h h2, lc, x, dx, .ref B, .list (ivD (rlot (fun k => f k || f2 k) (max h h2) lc)), rfl, upd_same, Hd.iv (sx _ _ e6), rfl, rfl, by omega, by omega, by omega, fun k hk => ?_, fun H' h' t' sX hR' hh' ht' ho => ⟨rfl, ?_⟩⟩
    · show (f (k + lc) || f2 (k + lc)) = (f k || f2 k)
      rw [pr1 k (by omega), pr2 k (by omega)]
    · exact q x H' ((((((s1.trans s2).trans s3).trans s4).trans s5).trans s6).trans (make_same hx hdx sX)) ⟨h', t', hR', by omega, by omega, ho⟩
theorem f_orR (T : TX K mg) : FnR P w K mg base (L2.CX P w) 5 (He.ma K (gA K "Round") "__or__") (sp_Round__or__ K) := by
  obtain ⟨fd, F, G⟩ := fn_mk T.f_Round__or__ sc_Round__or__ (fun vs H Q E h => by obtain ⟨f, f2, D, m, p, p2, rfl, _⟩ := h; rfl) (k_Round__or__ (P := P) (w := w) (base := base) T)
  exact (G.raw (F.bindsN fun _ _ _ _ _ _ us hl => match us, hl with | [_, _], _ => rfl) .nil).imp fun vs H Q E h => by rw [List.append_nil]; exact h
end

end K53
namespace K53
open PySem PySem.Spec PyProof.Rows L2
theorem s_fldS {K : PySem.W.Frag} {ta tv : TE} {f : Str} {D : L2.Ends} {σ : L2.St} {H : Hp} (h : tv σ H fun y H1 => ta σ H1 fun x H2 => ∃ a C dx fs, x = .ref a ∧ H2 a = some (.ins C dx fs) ∧ Cls K C ∧ NoAttr K C f ∧ fs.length < 1000 ∧ D.nx σ (upd H2 a (.ins C dx (putF f y fs)))) : sFld K ta tv f D σ H := h
/-! ### Endless, Ends -/
structure EndlO (K : PySem.W.Frag) (H : Hp) (p : Addr) (d e : PyData) : Prop where
  at_ : ∃ dx fs v u, H p = some (.ins (gA K "Endless") dx fs) ∧ fget fs "before" v ∧ fget fs "again" u ∧ Hd H v d ∧ Hd H u e
structure EndsO (K : PySem.W.Frag) (H : Hp) (p : Addr) (d : PyData) : Prop where
  at_ : ∃ dx fs v, H p = some (.ins (gA K "Ends") dx fs) ∧ fget fs "days" v ∧ Hd H v d
theorem EndlO.toS {K : PySem.W.Frag} {H H' : Hp} {p : Addr} {d e : PyData} (x : EndlO K H p d e) (s : SameS H H') : EndlO K H' p d e :=
  ⟨let ⟨dx, fs, v, u, a, b, c, h1, h2⟩ := x.at_; ⟨dx, fs, v, u, s _ _ rfl a, b, c, h1.toS s, h2.toS s⟩⟩
theorem EndsO.toS {K : PySem.W.Frag} {H H' : Hp} {p : Addr} {d : PyData} (x : EndsO K H p d) (s : SameS H H') : EndsO K H' p d :=
  ⟨let ⟨dx, fs, v, a, b, h1⟩ := x.at_; ⟨dx, fs, v, s _ _ rfl a, b, h1.toS s⟩⟩
theorem EndlO.to {K : PySem.W.Frag} {H H' : Hp} {p : Addr} {d e : PyData} (x : EndlO K H p d e) (s : Same H H') : EndlO K H' p d e := x.toS s.toS
theorem EndsO.to {K : PySem.W.Frag} {H H' : Hp} {p : Addr} {d : PyData} (x : EndsO K H p d) (s : Same H H') : EndsO K H' p d := x.toS s.toS
section
variable {K : PySem.W.Frag} {mg : Str → Option Value} {H : Hp} {p : Addr} {d e : PyData} {Z : V → Prop}
theorem s_before (T : TX K mg) (x : EndlO K H p d e) (q : ∀ v, Hd H v d → Z v) : ∃ a C dx fs v, V.ref p = .ref a ∧ H a = some (.ins C dx fs) ∧ Cls K C ∧ NoAttr K C "before" ∧ fget fs "before" v ∧ Z v := by
  obtain ⟨dx, fs, v, u, h1, h2, h3, h4, h5⟩ := x.at_
  exact s_fld h1 T.cl_Endless T.na_Endless_before h2 (q v h4)
theorem s_again (T : TX K mg) (x : EndlO K H p d e) (q : ∀ v, Hd H v e → Z v) : ∃ a C dx fs v, V.ref p = .ref a ∧ H a = some (.ins C dx fs) ∧ Cls K C ∧ NoAttr K C "again" ∧ fget fs "again" v ∧ Z v := by
  obtain ⟨dx, fs, v, u, h1, h2, h3, h4, h5⟩ := x.at_
  exact s_fld h1 T.cl_Endless T.na_Endless_again h3 (q u h5)
theorem s_days (T : TX K mg) (x : EndsO K H p d) (q : ∀ v, Hd H v d → Z v) : ∃ a C dx fs v, V.ref p = .ref a ∧ H a = some (.ins C dx fs) ∧ Cls K C ∧ NoAttr K C "days" ∧ fget fs "days" v ∧ Z v := by
  obtain ⟨dx, fs, v, h1, h2, h3⟩ := x.at_
  exact s_fld h1 T.cl_Ends T.na_Ends_days h2 (q v h3)
end
abbrev N_Endless__init__ : List Str := ["self", "before", "again"]
theorem sc_Endless__init__ : FnScope N_Endless__init__ ["self", "before", "again"] (defScope s_Endless__init__) := C8.fnScope_by (by decide +kernel)
abbrev N_Ends__init__ : List Str := ["self", "days"]
theorem sc_Ends__init__ : FnScope N_Ends__init__ ["self", "days"] (defScope s_Ends__init__) := C8.fnScope_by (by decide +kernel)
abbrev N_Endless__eq__ : List Str := ["self", "other"]
theorem sc_Endless__eq__ : FnScope N_Endless__eq__ ["self", "other"] (defScope s_Endless__eq__) := C8.fnScope_by (by decide +kernel)
abbrev N_Ends__eq__ : List Str := ["self", "other"]
theorem sc_Ends__eq__ : FnScope N_Ends__eq__ ["self", "other"] (defScope s_Ends__eq__) := C8.fnScope_by (by decide +kernel)
def sp_Endless__init__ (K : PySem.W.Frag) : Sp := fun vs H Q _ => ∃ p dx v u, vs = [.ref p, v, u] ∧ H p = some (.ins (gA K "Endless") dx []) ∧ ∀ H' fs, SameX p H H' → H' p = some (.ins (gA K "Endless") dx fs) → fget fs "before" v → fget fs "again" u → Q .non H'
def sp_Ends__init__ (K : PySem.W.Frag) : Sp := fun vs H Q _ => ∃ p dx v, vs = [.ref p, v] ∧ H p = some (.ins (gA K "Ends") dx []) ∧ ∀ H' fs, SameX p H H' → H' p = some (.ins (gA K "Ends") dx fs) → fget fs "days" v → Q .non H'
/-- what is compared with an Endless -/
def sp_Endless__eq__ (K : PySem.W.Frag) : Sp := fun vs H Q _ => ∃ p y d e, vs = [.ref p, y] ∧ EndlO K H p d e ∧ pl 8 d = true ∧ pl 8 e = true ∧
  ((∃ p2 d2 e2, y = .ref p2 ∧ EndlO K H p2 d2 e2 ∧ pl 8 d2 = true ∧ pl 8 e2 = true ∧ (d = d2 → e = e2 → Q (.bl true) H) ∧ (¬ (d = d2 ∧ e = e2) → Q (.bl false) H)) ∨
   (((∃ p2 dx fs, y = .ref p2 ∧ H p2 = some (.ins (gA K "Ends") dx fs)) ∨ ∃ i, y = .int i) ∧ Q (.bl false) H))
def sp_Ends__eq__ (K : PySem.W.Frag) : Sp := fun vs H Q _ => ∃ p y i, vs = [.ref p, y] ∧ EndsO K H p (.int i) ∧
  ((∃ p2 j, y = .ref p2 ∧ EndsO K H p2 (.int j) ∧ Q (.bl (decide (i = j))) H) ∨
   (((∃ p2 dx fs, y = .ref p2 ∧ H p2 = some (.ins (gA K "Endless") dx fs)) ∨ ∃ i, y = .int i) ∧ Q (.bl false) H))
section
variable {P : Program} {w : World} {K : PySem.W.Frag} {mg : Str → Option Value} {base : Heap}
theorem k_Endless__init__ (T : TX K mg) : Keeps (L2.CX P w) P w K mg base d_Endless__init__ N_Endless__init__ 0 (sp_Endless__init__ K) := by
  intro cdv A outer s H vs Q E hr hsp
  obtain ⟨p, dx, v, u, rfl, hp, q⟩ := hsp
  have nd := sc_Endless__init__.nd
  have hu := hu_of hr
  have hu64 := hr.units
  refine ⟨_, (pss_cons (ps_fld (pv 0) (pv 1) rfl)
  (pss_one (ps_fld (pv 0) (pv 2) rfl))), ?_⟩
  refine st_eq (σ := [some (.ref p), some (v), some (u)]) rfl ?_
  refine s_seq ?_
  refine s_fldS ?_
  walk_at "s"
  refine ⟨p, _, dx, [], rfl, hp, T.cl_Endless, T.na_Endless_before, by decide, ?_⟩
  dsimp only
  refine s_fldS ?_
  walk_at "s"
  refine ⟨p, _, dx, _, rfl, upd_same, T.cl_Endless, T.na_Endless_again, lenL (lenB (n := 0) (Nat.le_refl _)), ?_⟩
  exact q _ _ (fun b o hb e => by rw [upd_ne hb, upd_ne hb]; exact e) upd_same rfl rfl
theorem k_Ends__init__ (T : TX K mg) : Keeps (L2.CX P w) P w K mg base d_Ends__init__ N_Ends__init__ 0 (sp_Ends__init__ K) := by
  intro cdv A outer s H vs Q E hr hsp
  obtain ⟨p, dx, v, rfl, hp, q⟩ := hsp
  have nd := sc_Ends__init__.nd
  have hu := hu_of hr
  have hu64 := hr.units
  refine ⟨_, (pss_one (ps_fld (pv 0) (pv 1) rfl)), ?_⟩
  refine st_eq (σ := [some (.ref p), some (v)]) rfl ?_
  refine s_fldS ?_
  walk_at "s"
  refine ⟨p, _, dx, [], rfl, hp, T.cl_Ends, T.na_Ends_days, by decide, ?_⟩
  exact q _ _ (fun b o hb e => by rw [upd_ne hb]; exact e) upd_same rfl
theorem m_Endless (T : TX K mg) : MkC (L2.CX P w) P w K mg base 1 "Endless" (gA K "Endless") (sp_Endless__init__ K) [] := by
  obtain ⟨fd, F, G⟩ := fn_mk T.f_Endless__init__ sc_Endless__init__ (fun vs H Q E h => by obtain ⟨p, dx, v, u, rfl, _⟩ := h; rfl) (k_Endless__init__ (P := P) (w := w) (base := base) T)
  exact ⟨_, fd, _, [], T.mk_Endless, G, T.g_Endless, F.bindsN fun _ _ _ _ _ _ us hl => match us, hl with | [_, _, _], _ => rfl, .nil⟩
theorem m_Ends (T : TX K mg) : MkC (L2.CX P w) P w K mg base 1 "Ends" (gA K "Ends") (sp_Ends__init__ K) [] := by
  obtain ⟨fd, F, G⟩ := fn_mk T.f_Ends__init__ sc_Ends__init__ (fun vs H Q E h => by obtain ⟨p, dx, v, rfl, _⟩ := h; rfl) (k_Ends__init__ (P := P) (w := w) (base := base) T)
  exact ⟨_, fd, _, [], T.mk_Ends, G, T.g_Ends, F.bindsN fun _ _ _ _ _ _ us hl => match us, hl with | [_, _], _ => rfl, .nil⟩
theorem k_Endless__eq__ (T : TX K mg) : Keeps (L2.CX P w) P w K mg base d_Endless__eq__ N_Endless__eq__ 0 (sp_Endless__eq__ K) := by
  intro cdv A outer s H vs Q E hr hsp
  obtain ⟨p, y, d, e, rfl, ho, pd, pe, hy⟩ := hsp
  have nd := sc_Endless__eq__.nd
  have hu := hu_of hr
  have hu64 := hr.units
  refine ⟨_, (pss_one (ps_ret (pe_and (pe_callB (call_isiK1 (K := K) rfl) (by rfl) T.b_isinstance (by decide +kernel) (pa_cons (pv 1) (pa_cons (pe_glob (v := .ref (gA K "Endless")) (by rfl) T.g_Endless rfl) pa_nil))) (pe_and (pe_cmpR (op_eqDK (K := K) rfl hu64) (pe_fldK (K := K) rfl (pv 0) (by rfl)) (pe_fldK (K := K) rfl (pv 1) (by rfl)) (nomark _)) (pe_one (pe_cmpR (op_eqDK (K := K) rfl hu64) (pe_fldK (K := K) rfl (pv 0) (by rfl)) (pe_fldK (K := K) rfl (pv 1) (by rfl)) (nomark _))))))), ?_⟩
  refine st_eq (σ := [some (.ref p), some (y)]) rfl ?_
  walk_at "s"
  rcases hy with ⟨p2, d2, e2, rfl, ho2, pd2, pe2, q1, q2⟩ | ⟨⟨p2, dx, fs, rfl, h2⟩ | ⟨i, rfl⟩, q⟩
  · obtain ⟨dx, fs, _, _, h2, _⟩ := ho2.at_
    refine s_isiO T (x := "Endless") (by decide) (by decide) T.cl_Endless h2 ?_
    walk_at "s"
    refine s_yesD rfl ?_
    walk_at "s"
    refine s_before T ho fun v hv => ?_
    walk_at "s"
    refine s_before T ho2 fun v2 hv2 => ?_
    refine s_eqPl 8 (by decide) hv hv2 pd pd2 (fun z => ?_) (fun z => ?_)
    · walk_at "s"
      refine s_again T ho fun u hu => ?_
      walk_at "s"
      refine s_again T ho2 fun u2 hu2 => ?_
      exact s_eqPl 8 (by decide) hu hu2 pe pe2 (fun z2 => q1 z z2) (fun z2 => q2 fun w => z2 w.2)
    · walk_at "s"
      exact q2 fun w => z w.1
  · refine s_isiO T (x := "Ends") (by decide) (by decide) T.cl_Ends h2 ?_
    walk_at "s"
    exact s_noD (by decide) q
  · refine s_isiN T (by decide) (t := "int") (.base (.int i)) (by decide) ?_
    walk_at "s"
    exact q
theorem k_Ends__eq__ (T : TX K mg) : Keeps (L2.CX P w) P w K mg base d_Ends__eq__ N_Ends__eq__ 0 (sp_Ends__eq__ K) := by
  intro cdv A outer s H vs Q E hr hsp
  obtain ⟨p, y, i, rfl, ho, hy⟩ := hsp
  have nd := sc_Ends__eq__.nd
  have hu := hu_of hr
  have hu64 := hr.units
  refine ⟨_, (pss_one (ps_ret (pe_and (pe_callB (call_isiK1 (K := K) rfl) (by rfl) T.b_isinstance (by decide +kernel) (pa_cons (pv 1) (pa_cons (pe_glob (v := .ref (gA K "Ends")) (by rfl) T.g_Ends rfl) pa_nil))) (pe_one (pe_cmpR op_eq (pe_fldK (K := K) rfl (pv 0) (by rfl)) (pe_fldK (K := K) rfl (pv 1) (by rfl)) (nomark _)))))), ?_⟩
  refine st_eq (σ := [some (.ref p), some (y)]) rfl ?_
  walk_at "s"
  rcases hy with ⟨p2, j, rfl, ho2, q⟩ | ⟨⟨p2, dx, fs, rfl, h2⟩ | ⟨i, rfl⟩, q⟩
  · obtain ⟨dx, fs, _, h2, _⟩ := ho2.at_
    refine s_isiO T (x := "Ends") (by decide) (by decide) T.cl_Ends h2 ?_
    walk_at "s"
    refine s_yesD rfl ?_
    walk_at "s"
    refine s_days T ho fun v hv => ?_
    cases hv
    walk_at "s"
    refine s_days T ho2 fun v2 hv2 => ?_
    cases hv2
    exact s_eqi q
  · refine s_isiO T (x := "Endless") (by decide) (by decide) T.cl_Endless h2 ?_
    walk_at "s"
    exact s_noD (by decide) q
  · refine s_isiN T (by decide) (t := "int") (.base (.int i)) (by decide) ?_
    walk_at "s"
    exact q
theorem f_eqL (T : TX K mg) : FnR P w K mg base (L2.CX P w) 1 (He.ma K (gA K "Endless") "__eq__") (sp_Endless__eq__ K) := by
  obtain ⟨fd, F, G⟩ := fn_mk T.f_Endless__eq__ sc_Endless__eq__ (fun vs H Q E h => by obtain ⟨p, y, d, e, rfl, _⟩ := h; rfl) (k_Endless__eq__ (P := P) (w := w) (base := base) T)
  exact (G.raw (F.bindsN fun _ _ _ _ _ _ us hl => match us, hl with | [_, _], _ => rfl) .nil).imp fun vs H Q E h => by rw [List.append_nil]; exact h
theorem f_eqE (T : TX K mg) : FnR P w K mg base (L2.CX P w) 1 (He.ma K (gA K "Ends") "__eq__") (sp_Ends__eq__ K) := by
  obtain ⟨fd, F, G⟩ := fn_mk T.f_Ends__eq__ sc_Ends__eq__ (fun vs H Q E h => by obtain ⟨p, y, i, rfl, _⟩ := h; rfl) (k_Ends__eq__ (P := P) (w := w) (base := base) T)
  exact (G.raw (F.bindsN fun _ _ _ _ _ _ us hl => match us, hl with | [_, _], _ => rfl) .nil).imp fun vs H Q E h => by rw [List.append_nil]; exact h
end
theorem s_aug {i : Nat} {te : TE} {ti : TIp} {nx bk ct : L2.St → Hp → Prop} {rt : VK} {σ : L2.St} {H : Hp} {x : V} (h : σ[i]? = some (some x)) (q : te σ H fun y H1 => ti x y H1 fun z H2 => nx (σ.set i (some z)) H2) : tAug i te ti ⟨nx, rt, bk, ct⟩ σ H := ⟨x, h, q⟩
theorem pl1_iv (l : List Nat) : pl 1 (.list (ivD l)) = true := by unfold pl; exact plA_all fun d hd => by obtain ⟨n, _, rfl⟩ := List.mem_map.mp hd; unfold pl; rfl
theorem pl1_ivT (l : List Nat) : pl 1 (.tuple (ivD l)) = true := by unfold pl; exact plA_all fun d hd => by obtain ⟨n, _, rfl⟩ := List.mem_map.mp hd; unfold pl; rfl

end K53
namespace K53
open PySem PySem.Spec PyProof.Rows L2
/-! ### endless_story -/
theorem cut_take (xs : List V) (k : Nat) (h : k ≤ xs.length) : cutV xs none (some (k : Int)) = xs.take k := by
  unfold cutV
  rw [HT.sIx_none, HT.sIx_nat, Nat.sub_zero, List.drop_zero, Nat.min_eq_left h]
theorem cut_drop (xs : List V) (k : Nat) (h : k ≤ xs.length) : cutV xs (some (k : Int)) none = xs.drop k := by
  unfold cutV
  rw [HT.sIx_none, HT.sIx_nat, Nat.min_eq_left h, List.take_of_length_le (by rw [List.length_drop]; exact Nat.le_refl _)]
theorem iv_take (ns : List Nat) (k : Nat) : (ivs ns).take k = ivs (ns.take k) := by unfold ivs; rw [List.map_take]
theorem iv_drop (ns : List Nat) (k : Nat) : (ivs ns).drop k = ivs (ns.drop k) := by unfold ivs; rw [List.map_drop]
theorem iv_app (a b : List Nat) : ivs a ++ ivs b = ivs (a ++ b) := by unfold ivs; rw [List.map_append]
theorem s_indexN {K : PySem.W.Frag} {H : Hp} {Q : VK} {p : Addr} {ns : List Nat} {j n : Nat} (h : H p = some (.lst (ivs ns))) (hj : ns[j]? = some n) (nd : ns.Nodup) (q : Q (.int (j : Int)) H) : rIndex K (.ref p) [.int (n : Int)] H Q := by
  refine ⟨p, ivs ns, .int (n : Int), j, .int (n : Int), rfl, rfl, SqL.of h, rfl, iv_flat ns, iv_get hj, ?_, fun m z' hm hz => ?_, q⟩
  · show decide ((n : Int) = (n : Int)) = true
    exact decide_eq_true rfl
  · have hjl := (List.getElem?_eq_some_iff.mp hj).1
    rw [iv_get (List.getElem?_eq_getElem (show m < ns.length by omega))] at hz
    cases hz
    show decide (((ns[m] : Nat) : Int) = (n : Int)) = false
    refine decide_eq_false fun e => ?_
    have := (List.getElem?_inj (show m < ns.length by omega) nd).mp (show ns[m]? = ns[j]? by rw [hj, List.getElem?_eq_getElem (by omega)]; congr 1; omega)
    omega
/-- a way that comes back to its k-th place -/
structure WkP (g : Hou) (h : Nat) (p : List Nat) (k : Nat) : Prop where
  lt : ∀ x ∈ p, x < g.n
  hd : ∃ x, p[0]? = some x ∧ x / g.ls = h
  st : ∀ j a b, p[j]? = some a → p[j + 1]? = some b → g.stp a b = true
  kl : k < p.length
  bk : ∀ a b, p[p.length - 1]? = some a → p[k]? = some b → g.stp a b = true
  sz : p.length ≤ 16
def cpN (g : Hou) (n : Nat) : PyData := cpD (n / g.ls, n % g.ls)
theorem s_lrg {σ : L2.St} {H : Hp} {Q : VK} {ta : TE} (h : ta σ H fun x H1 => ∃ n : Int, x = .int n ∧ RgOk 0 n ∧ ∀ q, H1 q = none → Q (.ref q) (upd H1 q (.lst (rgV 0 n)))) : tLstRg (tRg1 ta) σ H Q := h
theorem rgV_iv (n : Nat) : rgV 0 (n : Int) = ivs (List.range n) := by
  unfold rgV
  rw [show ((n : Int) - 0).toNat = n by omega]
  exact range_iv n
abbrev N_endless_story : List Str := ["house", "hand", "lists", "alive", "turn", "place", "goal", "starts", "reach", "days", "found", "after"]
theorem sc_endless_story : FnScope N_endless_story ["house", "hand"] (defScope s_endless_story) := C8.fnScope_by (by decide +kernel)
def sp_endless_story (K : PySem.W.Frag) : Sp := fun vs H Q E => ∃ p g vh dh, vs = [.ref p, vh] ∧ HouO K H p g ∧ Hd H vh dh ∧ (isW dh (some 0) (some ((g.hs : Int) - 1)) = false → ErO K "BadHand" "hand" vh H E) ∧
  ∀ h : Nat, dh = .int (h : Int) → h < g.hs →
    (∀ r H' (d : Nat), Same H H' → EndsO K H' r (.int (d : Int)) → g.lot (g.wh h) d ≠ [] → g.lot (g.wh h) (d + 1) = [] → Q (.ref r) H') ∧
    (∀ r H' pth k, Same H H' → EndlO K H' r (.tuple ((pth.take k).map (cpN g))) (.tuple ((pth.drop k).map (cpN g))) → WkP g h pth k → (∀ j, g.lot (g.wh h) j ≠ []) → Q (.ref r) H')
section
variable {P : Program} {w : World} {K : PySem.W.Frag} {mg : Str → Option Value} {base : Heap}
theorem k_endless_story (T : TX K mg) : Keeps (L2.CX P w) P w K mg base d_endless_story N_endless_story 3 (sp_endless_story K) := by
  intro cdv A outer s H vs Q E hr hsp
  obtain ⟨p, g, vh, dh, rfl, hh, hhd, e1, q⟩ := hsp
  have o := hh.ok
  have h16 := o.n16
  have hl4 := o.l4
  have nd := sc_endless_story.nd
  have hu := hu_of hr
  have hu64 := hr.units
  refine ⟨_, (pss_cons (ps_expr (pe_clE (c_check_hand T) hr (by decide) (pa_cons (pv 0) (pa_cons (pv 1) pa_nil)) (passes_call (takes_of rfl rfl rfl rfl) fun _ _ _ _ h => h)))
  (pss_cons (ps_set (i := 2) nd rfl (Or.inr rfl) (pe_cl (c_lists_ahead T) hr (by decide) (pa_cons (pv 0) pa_nil) passL))
  (pss_cons (ps_set (i := 3) nd rfl (Or.inr rfl) (pe_listRg rfl (by rfl) T.b_list (prg_1 (by rfl) T.b_range (pe_callB (call_lenK (K := K) rfl) (by rfl) T.b_len PySem.boot_len (pa_cons (pv 2) pa_nil)))))
  (pss_cons (ps_for (passes_of rfl) rfl (pi_range1 (by rfl) T.b_range (pa_cons (pe_callB (call_lenK (K := K) rfl) (by rfl) T.b_len PySem.boot_len (pa_cons (pv 2) pa_nil)) pa_nil)) (pg_name (i := 4) nd rfl (Or.inl rfl)) (pss_one (ps_set (i := 3) nd rfl (Or.inr rfl) (pe_lc (own := [("place", 5)]) rfl nd (pi_listK (K := K) rfl (pv 3)) (blkOk_by (N := N_endless_story) (sc := (defScope s_endless_story)) (by decide +kernel)) (fun _ _ _ _ _ => (pg_name (i := 5) nd rfl (Or.inl rfl))) (fun _ _ _ _ _ => (pts_one (pt_val (pe_callB (cr_anyK (K := K) rfl rfl) (by rfl) T.b_any (by decide +kernel) (pa_cons (pe_lc (own := [("goal", 6)]) (tt := tYes) rfl nd (pi_listK (K := K) rfl (pe_ix (ix_listK (K := K) rfl) (pv 2) (pv 5) (fun _ _ => rfl))) (blkOk_by (N := N_endless_story) (sc := (relS _ (defScope s_endless_story))) (by decide +kernel)) (fun _ _ _ _ _ => (pg_name (i := 6) nd rfl (Or.inl rfl))) (fun _ _ _ _ _ => pts_nil) (fun _ _ _ _ _ => (pe_cmpR (op_inK (K := K) rfl) (pv 6) (pv 3) (by rfl)))) pa_nil))))) (fun _ _ _ _ _ => (pv 5))))))
  (pss_cons (ps_setLc (i := 7) (own := [("place", 5)]) rfl nd rfl rfl (sw_true rfl rfl rfl (by decide +kernel)) (pi_listK (K := K) rfl (pe_cl (c_numbers_with_hand T) hr (by decide) (pa_cons (pv 0) (pa_cons (pv 1) pa_nil)) passL)) (blkOk_by (N := N_endless_story) (sc := (defScope s_endless_story)) (by decide +kernel)) (fun _ _ _ _ _ => (pg_name (i := 5) nd rfl (Or.inl rfl))) (fun _ _ _ _ _ => (pts_one (pt_cmpR (op_inK (K := K) rfl) (pv 5) (pv 3) (by rfl)))) (fun _ _ _ _ _ => (pv 5)))
  (pss_cons (ps_if (pt_cmpR (op_eqDK (K := K) rfl hu64) (pv 7) (pe_lst pa_nil) (nomark _)) (pss_cons (ps_set (i := 8) nd rfl (Or.inl rfl) (pe_tupleOfK (K := K) rfl (by rfl) T.b_tuple (pe_cl (c_numbers_with_hand T) hr (by decide) (pa_cons (pv 0) (pa_cons (pv 1) pa_nil)) passL)))
  (pss_cons (ps_set (i := 9) nd rfl (Or.inl rfl) (pe_un un_neg pe_int))
  (pss_cons (ps_while (passes_of rfl) (pt_cmpR (op_neDK (K := K) rfl hu64) (pv 8) (pe_tup pa_nil) (nomark _)) (pss_cons (ps_aug (i := 9) nd rfl (Or.inl rfl) pe_int ip_add)
  (pss_one (ps_set (i := 8) nd rfl (Or.inl rfl) (pe_cl (c_numbers_after T) hr (by decide) (pa_cons (pv 2) (pa_cons (pv 8) pa_nil)) passL)))))
  (pss_one (ps_ret (pe_mkc (m_Ends T) hr (by decide) (pa_cons (pv 9) pa_nil))))))) pss_nil)
  (pss_cons (ps_set (i := 10) nd rfl (Or.inl rfl) (pe_lst (pa_cons (pe_ix (ix_listK (K := K) rfl) (pv 7) pe_int (fun _ _ => rfl)) pa_nil)))
  (pss_one (ps_while (passes_of rfl) (pt_val pe_bl) (pss_cons (ps_set (i := 11) nd rfl (Or.inl rfl) (pe_ix (ix_listK (K := K) rfl) (pe_lc (own := [("goal", 6)]) rfl nd (pi_listK (K := K) rfl (pe_ix (ix_listK (K := K) rfl) (pv 2) (pe_ix (ix_listK (K := K) rfl) (pv 10) (pe_un un_neg pe_int) (fun _ _ => rfl)) (fun _ _ => rfl))) (blkOk_by (N := N_endless_story) (sc := (defScope s_endless_story)) (by decide +kernel)) (fun _ _ _ _ _ => (pg_name (i := 6) nd rfl (Or.inl rfl))) (fun _ _ _ _ _ => (pts_one (pt_cmpR (op_inK (K := K) rfl) (pv 6) (pv 3) (by rfl)))) (fun _ _ _ _ _ => (pv 6))) pe_int (fun _ _ => rfl)))
  (pss_cons (ps_if (pt_cmpR (op_inK (K := K) rfl) (pv 11) (pv 10) (by rfl)) (pss_cons (ps_set (i := 5) nd rfl (Or.inl rfl) (pe_bmK (K := K) rfl PySem.F.plainAttrs_list PySem.F.slot_list_index PySem.F.type_list_index (mt_indexK (K := K) rfl) (pv 10) (pa_cons (pv 11) pa_nil)))
  (pss_one (ps_ret (pe_mkc (m_Endless T) hr (by decide) (pa_cons (pe_cl (c_couples_of T) hr (by decide) (pa_cons (pv 0) (pa_cons (pe_slice (sl_listK (K := K) rfl) (pv 10) po_none (po_some (pv 5))) pa_nil)) passL) (pa_cons (pe_cl (c_couples_of T) hr (by decide) (pa_cons (pv 0) (pa_cons (pe_slice (sl_listK (K := K) rfl) (pv 10) (po_some (pv 5)) po_none) pa_nil)) passL) pa_nil)))))) pss_nil)
  (pss_one (ps_expr (pe_bmK (K := K) rfl PySem.F.plainAttrs_list PySem.F.slot_list_append PySem.F.type_list_append mt_append (pv 10) (pa_cons (pv 11) pa_nil))))))))))))))), ?_⟩
  refine st_eq (σ := [some (.ref p), some (vh), none, none, none, none, none, none, none, none, none, none]) rfl ?_
  walk_at "s"
  refine ⟨p, g, vh, dh, rfl, hh, hhd, fun y1 => ?_, fun n1 => e1 n1⟩
  obtain ⟨h, rfl, hh2⟩ := isW_nat y1
  have hlt : h < g.hs := by omega
  cases hhd
  obtain ⟨q1, q2⟩ := q h rfl hlt
  walk_at "s"
  refine ⟨p, g, rfl, hh, fun H1 La s1 hLa hL => ?_⟩
  obtain ⟨La', xs, e, hL1, hL2, hL3⟩ := ahead_at hL
  cases e
  walk_at "s"
  refine s_lrg ?_
  walk_at "s"
  refine s_lenL hL1 ?_
  rw [hL2]
  refine ⟨(g.n : Int), rfl, .of_le (by omega) (by omega) (by omega) (by omega), fun Al hAl => ?_⟩
  rw [rgV_iv]
  have s2 : Same H (upd H1 Al (.lst (ivs (List.range g.n)))) := s1.upT hAl
  walk_at "s"
  refine s_lenL (get_up hL1 hAl) ?_
  rw [hL2]
  walk_at "s"
  refine s_i1f (n := g.n) (by omega) ?_
  refine for_f (List.range g.n) walk_r List.length_range.symm (fun i σ H3 => ∃ A1 x, σ = [some (.ref p), some (.int (h : Int)), some (.ref La), some (.ref A1), x, none, none, none, none, none, none, none] ∧ Same H1 H3 ∧ H3 A1 = some (.lst (ivs (g.al i))))
    ⟨Al, _, rfl, L2.Same.up hAl, upd_same⟩ (fun _ _ _ _ => trivial) (fun i i' σ H3 hi hP => ?_) (fun σ H3 hP => ?_)
  · obtain ⟨A1, x, rfl, sm, hA⟩ := hP
    walk_at "s"
    refine s_iLc (SqL.of hA) ?_
    refine lc_f (g.al i) (fun y => if ((g.ahead y).any fun z => decide (z ∈ g.al i)) = true then some (.int (y : Int)) else none) walk_list (iv_len _) (Nat.le_trans (nd_lt (Hou.al_nd i) (Hou.al_lt i)) (by omega)) (fun H' s' => SqL.of (s' _ _ hA)) (fun D j y H4 c => ?_) (fun D H4 hD s4 e4 => ?_)
    · have hy := Hou.al_lt i y (List.mem_of_getElem? c.ai)
      obtain ⟨qa, x1, x2⟩ := hL3 y hy
      have z1 := c.sm _ _ (sm _ _ hL1)
      have z2 := c.sm _ _ (sm _ _ x2)
      walk_at "s"
      refine ⟨rfl, ?_⟩
      walk_at "s"
      refine s_ixL (SqL.of z1) x1 ?_
      refine s_iLc (SqL.of z2) ?_
      refine lc_f (g.ahead y) (fun z => some (.bl (decide (z ∈ g.al i)))) walk_list (iv_len _) (Nat.le_trans (nd_lt (filter_lt.imp fun h => Nat.ne_of_lt h) fun x hx => (Hou.mem_ahead.mp hx).1) (show g.n ≤ 100000 by omega)) (fun H' s' => SqL.of (s' _ _ z2)) (fun D2 j2 z H5 c2 => ?_) (fun D2 H5 hD2 s5 e5 => ?_)
      · walk_at "s"
        refine ⟨rfl, ?_⟩
        walk_at "s"
        refine s_inN (.inl (c2.sm _ _ (c.sm _ _ hA))) ?_
        exact lc_yes c2 (L2.Same.refl _) rfl
      · rw [fm_map] at e5
        walk_at "s"
        refine ⟨D2, (g.ahead y).map fun z => decide (z ∈ g.al i), rfl, SqL.of (by rw [e5, List.map_map]; rfl), ?_⟩
        rw [List.any_map]
        walk_at "s"
        refine s_ite (fun e => ?_) (fun e => ?_)
        · walk_at "s"
          exact lc_yes c s5 (by rw [if_pos (show ((g.ahead y).any fun z => decide (z ∈ g.al i)) = true from e)])
        · exact lc_no c s5 (by rw [if_neg (by rw [show ((g.ahead y).any fun z => decide (z ∈ g.al i)) = false from e]; decide)])
    · rw [fm_if] at e4
      exact ⟨D, _, rfl, sm.trans s4, e4⟩
  · obtain ⟨A1, x, rfl, sm, hA⟩ := hP
    rw [List.length_range] at hA
    walk_at "s"
    refine ⟨p, g, h, rfl, hh.to (s1.trans sm), hlt, fun H4 D4 s4 hD4 hD4' => ?_⟩
    have hwl : (g.wh h).length ≤ 100000 := by unfold Hou.wh; rw [List.length_map, List.length_range]; omega
    have hA4 := s4 _ _ hA
    refine s_iLc (SqL.of hD4') ?_
    refine lc_f (g.wh h) (fun y => if decide (y ∈ g.al g.n) = true then some (.int (y : Int)) else none) walk_list (iv_len _) hwl (fun H' s' => SqL.of (s' _ _ hD4')) (fun D j y H5 c => ?_) (fun St H5 hSt s5 e5 => ?_)
    · walk_at "s"
      refine ⟨rfl, ?_⟩
      walk_at "s"
      refine s_inN (.inl (c.sm _ _ hA4)) ?_
      walk_at "s"
      refine s_iteD (fun e => ?_) (fun e => ?_)
      · walk_at "s"
        exact lc_yes c (L2.Same.refl _) (by rw [decide_eq_true e]; rfl)
      · exact lc_no c (L2.Same.refl _) (by rw [decide_eq_false e]; rfl)
    rw [fm_if] at e5
    have e5 : H5 St = some (.lst (ivs ((g.wh h).filter fun y => decide (y ∈ g.al g.n)))) := e5
    have sB := ((s1.trans sm).trans s4).trans s5
    have hL5 := s5 _ _ (s4 _ _ (sm _ _ hL1))
    walk_at "s"
    refine s_tl (Nat.zero_le _) fun Z hZ => ?_
    have sZ : Same H5 (upd H5 Z (.lst [])) := L2.Same.up hZ
    refine s_eqPl 1 (by decide) (Hd.iv (sZ _ _ e5)) (.lst upd_same rfl .nil) (pl1_iv _) (by simp [pl, plA]) (fun e => ?_) (fun e => ?_)
    · -- the couples give out
      injection e with e
      have e0 : (g.wh h).filter (fun y => decide (y ∈ g.al g.n)) = [] := List.map_eq_nil_iff.mp e
      obtain ⟨k0, hk0⟩ := (Hou.ends_al (Hou.wh_lt o hlt)).mpr fun x hx hxa => by
        rw [List.filter_eq_nil_iff] at e0
        exact e0 x hx (decide_eq_true hxa)
      walk_at "s"
      refine ⟨p, g, h, rfl, hh.to (sB.trans sZ), hlt, fun H6 D6 s6 hD6 hD6' => ?_⟩
      refine s_kTupL hD6' fun t ht => ?_
      walk_at "s"
      have s7 := ((sB.trans sZ).trans s6).upT (o := .tup (ivs (g.wh h))) ht
      refine s_wh (fun m σ H7 => ∃ i rc, m + i = k0 ∧ σ = [some (.ref p), some (.int (h : Int)), some (.ref La), some (.ref A1), x, none, none, some (.ref St), some (.ref rc), some (.int ((i : Int) - 1)), none, none] ∧ Same H H7 ∧ Same H5 H7 ∧ H7 rc = some (.tup (ivs (g.lot (g.wh h) i))) ∧ ∀ j, j < i → g.lot (g.wh h) j ≠ [])
        k0 ⟨0, t, rfl, rfl, s7, (sZ.trans s6).upT ht, upd_same, fun j hj => absurd hj (Nat.not_lt_zero _)⟩ (fun m σ H7 hW => ?_)
      obtain ⟨i, rc, hm, rfl, sm7, s57, hrc, hno⟩ := hW
      walk_at "s"
      refine s_tl (Nat.zero_le _) fun u hu => ?_
      have sU : Same H7 (upd H7 u (.tup [])) := L2.Same.up hu
      refine s_nePl 1 (by decide) (Hd.ivT (sU _ _ hrc)) (.tup upd_same .nil) (pl1_ivT _) (by simp [pl, plA]) (fun e2 => ?_) (fun e2 => ?_)
      · injection e2 with e2
        have e3 : g.lot (g.wh h) i = [] := List.map_eq_nil_iff.mp e2
        have hi : 1 ≤ i := by
          rcases Nat.eq_zero_or_pos i with z | z
          · rw [z] at e3
            exact absurd e3 (Hou.wh_ne o h)
          · exact z
        walk_at "s"
        refine s_make ?_
        walk_at "s"
        intro y dx hy hdx hne
        have sx : Same (upd H7 u (.tup [])) (upd (upd (upd H7 u (.tup [])) dx (.own y)) y (.ins (gA K "Ends") dx [])) := (L2.Same.up hdx).upT (by rw [upd_ne (Ne.symm hne)]; exact hy)
        refine ⟨y, dx, _, rfl, upd_same, fun H' fs sX hf1 hf2 => ⟨rfl, ?_⟩⟩
        refine q1 y H' (i - 1) ((sm7.trans sU).trans (make_same hy hdx sX)) ⟨dx, fs, _, hf1, hf2, ?_⟩ (hno (i - 1) (by omega)) (by rw [show i - 1 + 1 = i by omega]; exact e3)
        rw [show ((i : Int) - 1) = ((i - 1 : Nat) : Int) by omega]
        exact .int _
      · have hne : g.lot (g.wh h) i ≠ [] := fun z => e2 (by rw [z]; rfl)
        have hik : i < k0 := by
          apply Nat.lt_of_not_le
          intro z
          obtain ⟨d, rfl⟩ : ∃ d, i = k0 + d := ⟨i - k0, by omega⟩
          exact hne (Hou.lot_nil hk0 d)
        walk_at "s"
        refine ⟨fun σ' H' => ∃ rc, σ' = [some (.ref p), some (.int (h : Int)), some (.ref La), some (.ref A1), x, none, none, some (.ref St), some (.ref rc), some (.int (((i + 1 : Nat) : Int) - 1)), none, none] ∧ Same H H' ∧ Same H5 H' ∧ H' rc = some (.tup (ivs (g.lot (g.wh h) (i + 1)))), fun σ' H' hN => ?_, ?_⟩
        · obtain ⟨rc', n1, n2, n3, n4⟩ := hN
          refine ⟨m - 1, by omega, i + 1, rc', by omega, n1, n2, n3, n4, fun j hj => ?_⟩
          by_cases ej : j = i
          · rw [ej]; exact hne
          · exact hno j (by omega)
        · walk_at "s"
          refine s_aug (x := .int ((i : Int) - 1)) rfl ?_
          walk_at "s"
          refine ⟨_, _, rfl, rfl, ?_⟩
          walk_at "s"
          refine ⟨g, g.lot (g.wh h) i, .ref La, .ref rc, rfl, h16, hL.to (((sm.trans s4).trans s5).trans (s57.trans sU)), ⟨rc, rfl, .inr (SqT.of (sU _ _ hrc))⟩, Hou.lot_lt (Hou.wh_lt o hlt) i, fun r H8 s8 hr8 hr8' => ?_⟩
          walk_at "s"
          refine ⟨r, ?_, (sm7.trans sU).trans s8, (s57.trans sU).trans s8, hr8'⟩
          rw [show (((i + 1 : Nat) : Int) - 1) = ((i : Int) - 1 + 1) by omega]
          rfl
    · -- a way for ever
      have hne0 : (g.wh h).filter (fun y => decide (y ∈ g.al g.n)) ≠ [] := fun z => e (by rw [z]; rfl)
      obtain ⟨x0, rs, hS0⟩ : ∃ x0 rs, (g.wh h).filter (fun y => decide (y ∈ g.al g.n)) = x0 :: rs := by
        cases hq : (g.wh h).filter (fun y => decide (y ∈ g.al g.n)) with
        | nil => exact absurd hq hne0
        | cons x0 rs => exact ⟨x0, rs, rfl⟩
      have hx0 : x0 ∈ g.wh h ∧ x0 ∈ g.al g.n := by
        have := List.mem_filter.mp (show x0 ∈ (g.wh h).filter (fun y => decide (y ∈ g.al g.n)) by rw [hS0]; exact List.mem_cons_self ..)
        exact ⟨this.1, of_decide_eq_true this.2⟩
      have hever : ∀ j, g.lot (g.wh h) j ≠ [] := fun j hj => by
        obtain ⟨y, h1, _⟩ := Hou.al_on (Hou.wh_lt o hlt) hx0.1 hx0.2 j
        rw [hj] at h1
        cases h1
      have eSt : (upd H5 Z (.lst [])) St = some (.lst (V.int (x0 : Int) :: ivs rs)) := by rw [sZ _ _ e5, hS0]; rfl
      have hAZ := sZ _ _ (s5 _ _ hA4)
      have hLZ := sZ _ _ hL5
      walk_at "s"
      refine s_ixL0 (SqL.of eSt) ?_
      walk_at "s"
      refine s_tl (Nat.le_of_ble_eq_true rfl) fun Fo hFo => ?_
      have hFn : H Fo = none := same_none (sB.trans sZ) hFo
      have hFn5 : H5 Fo = none := same_none sZ hFo
      walk_at "s"
      refine s_wh (fun m σ H7 => ∃ pq l x11, m + pq.length = 16 ∧ σ = [some (.ref p), some (.int (h : Int)), some (.ref La), some (.ref A1), x, none, none, some (.ref St), none, none, some (.ref Fo), x11] ∧ Same H H7 ∧ Same H5 H7 ∧ H7 Fo = some (.lst (ivs (pq ++ [l]))) ∧ (pq ++ [l]).Nodup ∧ (∀ z ∈ pq ++ [l], z ∈ g.al g.n) ∧
          (pq ++ [l])[0]? = some x0 ∧ ∀ j a b, (pq ++ [l])[j]? = some a → (pq ++ [l])[j + 1]? = some b → g.stp a b = true)
        16 ⟨[], x0, none, rfl, rfl, (sB.trans sZ).upT hFo, sZ.upT hFo, upd_same, List.pairwise_singleton .., fun z hz => by rw [List.mem_singleton.mp hz]; exact hx0.2, rfl, fun j a b h1 h2 => by simp at h2⟩ (fun m σ H7 hW => ?_)
      obtain ⟨pq, l, x11, hm, rfl, sm7, s57, hF7, hnd, hal, hfst, hst⟩ := hW
      have hlen : pq.length + 1 ≤ 16 := by
        have := nd_lt hnd (fun z hz => Hou.al_lt _ z (hal z hz))
        rw [List.length_append] at this
        have : pq.length + 1 ≤ g.n := this
        omega
      have hla : l ∈ g.al g.n := hal l (List.mem_append_right _ (List.mem_singleton.mpr rfl))
      have hll := Hou.al_lt _ l hla
      obtain ⟨ql, y1, y2⟩ := hL3 l hll
      have hL7 := s57 _ _ hL5
      have hA7 := s57 _ _ (s5 _ _ hA4)
      have hq7 := s57 _ _ (s5 _ _ (s4 _ _ (sm _ _ y2)))
      walk_at "s"
      refine ⟨fun σ' H' => ∃ l2 x11, σ' = [some (.ref p), some (.int (h : Int)), some (.ref La), some (.ref A1), x, none, none, some (.ref St), none, none, some (.ref Fo), x11] ∧ Same H H' ∧ Same H5 H' ∧ H' Fo = some (.lst (ivs ((pq ++ [l]) ++ [l2]))) ∧ ((pq ++ [l]) ++ [l2]).Nodup ∧ (∀ z ∈ (pq ++ [l]) ++ [l2], z ∈ g.al g.n) ∧
          ((pq ++ [l]) ++ [l2])[0]? = some x0 ∧ ∀ j a b, ((pq ++ [l]) ++ [l2])[j]? = some a → ((pq ++ [l]) ++ [l2])[j + 1]? = some b → g.stp a b = true, fun σ' H' hN => ?_, ?_⟩
      · obtain ⟨l2, x11', n1, n2, n3, n4, n5, n6, n7, n8⟩ := hN
        have hl2 := nd_lt n5 (fun z hz => Hou.al_lt _ z (n6 z hz))
        rw [List.length_append, List.length_append] at hl2
        have hl2 : pq.length + 1 + 1 ≤ g.n := hl2
        exact ⟨m - 1, by omega, pq ++ [l], l2, x11', by rw [List.length_append]; show m - 1 + (pq.length + 1) = 16; omega, n1, n2, n3, n4, n5, n6, n7, n8⟩
      · have hlast : (ivs (pq ++ [l])) = ivs pq ++ [V.int (l : Int)] := (iv_app pq [l]).symm
        walk_at "s"
        refine ⟨Fo, _, -1, .int (l : Int), rfl, rfl, SqL.of hF7, by rw [hlast]; exact atI_last _ _, ?_⟩
        refine s_ixL (SqL.of hL7) y1 ?_
        refine s_iLc (SqL.of hq7) ?_
        refine lc_f (g.ahead l) (fun y => if decide (y ∈ g.al g.n) = true then some (.int (y : Int)) else none) walk_list (iv_len _) (Nat.le_trans (nd_lt (filter_lt.imp fun h => Nat.ne_of_lt h) fun x hx => (Hou.mem_ahead.mp hx).1) (show g.n ≤ 100000 by omega)) (fun H' s' => SqL.of (s' _ _ hq7)) (fun D j y H8 c => ?_) (fun G H8 hG s8 e8 => ?_)
        · walk_at "s"
          refine ⟨rfl, ?_⟩
          walk_at "s"
          refine s_inN (.inl (c.sm _ _ hA7)) ?_
          walk_at "s"
          refine s_iteD (fun e => ?_) (fun e => ?_)
          · walk_at "s"
            exact lc_yes c (L2.Same.refl _) (by rw [decide_eq_true e]; rfl)
          · exact lc_no c (L2.Same.refl _) (by rw [decide_eq_false e]; rfl)
        rw [fm_if] at e8
        obtain ⟨af, ra, hGo⟩ : ∃ af ra, (g.ahead l).filter (fun y => decide (y ∈ g.al g.n)) = af :: ra := by
          obtain ⟨y, h1, h2⟩ := Hou.al_step hla
          cases hq : (g.ahead l).filter (fun y => decide (y ∈ g.al g.n)) with
          | nil =>
            have : y ∈ (g.ahead l).filter (fun y => decide (y ∈ g.al g.n)) := List.mem_filter.mpr ⟨Hou.mem_ahead.mpr ⟨Hou.al_lt _ y h1, h2⟩, decide_eq_true h1⟩
            rw [hq] at this
            cases this
          | cons af ra => exact ⟨af, ra, rfl⟩
        have haf : g.stp l af = true ∧ af ∈ g.al g.n := by
          have := List.mem_filter.mp (show af ∈ (g.ahead l).filter (fun y => decide (y ∈ g.al g.n)) by rw [hGo]; exact List.mem_cons_self ..)
          exact ⟨(Hou.mem_ahead.mp this.1).2, of_decide_eq_true this.2⟩
        rw [hGo] at e8
        walk_at "s"
        refine s_ixL0 (SqL.of e8) ?_
        walk_at "s"
        have hF8 := s8 _ _ hF7
        refine s_inN (.inl hF8) ?_
        walk_at "s"
        have hpl : (pq ++ [l]).length = pq.length + 1 := by rw [List.length_append]; rfl
        have hlst : (pq ++ [l])[pq.length]? = some l := by rw [List.getElem?_append_right (Nat.le_refl _), Nat.sub_self]; rfl
        refine s_iteD (fun e => ?_) (fun e => ?_)
        · obtain ⟨k, hk, ek⟩ := List.getElem_of_mem e
          have ek' : (pq ++ [l])[k]? = some af := by rw [List.getElem?_eq_getElem hk, ek]
          walk_at "s"
          refine ⟨.inl ⟨rfl, _, SqL.of hF8⟩, ?_⟩
          walk_at "s"
          refine s_indexN hF8 ek' hnd ?_
          walk_at "s"
          refine s_make ?_
          walk_at "s"
          refine ⟨Fo, _, rfl, SqL.of hF8, fun B1 hB1 => ?_⟩
          rw [cut_take _ _ (by rw [iv_len]; omega), iv_take]
          have sB1 := L2.Same.up (o := .lst (ivs ((pq ++ [l]).take k))) hB1
          refine ⟨p, g, B1, (pq ++ [l]).take k, rfl, hh.to ((sm7.trans s8).trans sB1), upd_same, by rw [List.length_take]; omega, fun H9 r1 s9 hr1 => ?_⟩
          walk_at "s"
          refine ⟨Fo, _, rfl, SqL.of (s9 _ _ (sB1 _ _ hF8)), fun B2 hB2 => ?_⟩
          rw [cut_drop _ _ (by rw [iv_len]; omega), iv_drop]
          have sB2 := L2.Same.up (o := .lst (ivs ((pq ++ [l]).drop k))) hB2
          refine ⟨p, g, B2, (pq ++ [l]).drop k, rfl, hh.to ((((sm7.trans s8).trans sB1).trans s9).trans sB2), upd_same, by rw [List.length_drop]; omega, fun H10 r2 s10 hr2 => ?_⟩
          intro y dx hy hdx hne
          have sx : Same H10 (upd (upd H10 dx (.own y)) y (.ins (gA K "Endless") dx [])) := (L2.Same.up hdx).upT (by rw [upd_ne (Ne.symm hne)]; exact hy)
          refine ⟨y, dx, _, _, rfl, upd_same, fun H' fs sX hf1 hf2 hf3 => ⟨rfl, ?_⟩⟩
          have sEnd := make_same hy hdx sX
          refine q2 y H' (pq ++ [l]) k ((((((sm7.trans s8).trans sB1).trans s9).trans sB2).trans s10).trans sEnd) ⟨dx, fs, _, _, hf1, hf2, hf3, (hr1.to ((sB2.trans s10).trans sEnd)), hr2.to sEnd⟩ ⟨fun z hz => Hou.al_lt _ z (hal z hz), ⟨x0, hfst, ((Hou.mem_wh o hlt).mp hx0.1).2⟩, hst, hk, fun a b h1 h2 => ?_, by rw [hpl]; exact hlen⟩ hever
          rw [hpl, Nat.add_sub_cancel, hlst] at h1
          cases h1
          rw [ek'] at h2
          cases h2
          exact haf.1
        · walk_at "s"
          refine ⟨.inl ⟨rfl, _, SqL.of hF8⟩, ?_⟩
          walk_at "s"
          refine ⟨Fo, _, _, rfl, rfl, hF8, sz16l (by rw [iv_len, hpl]; omega), ?_⟩
          refine ⟨af, _, rfl, (sm7.trans s8).mut hFn, (s57.trans s8).mut hFn5, by rw [upd_same]; exact congrArg (fun z => some (HO.lst z)) (iv_app (pq ++ [l]) [af]), ?_, ?_, ?_, ?_⟩
          · rw [List.nodup_append]
            refine ⟨hnd, List.pairwise_singleton .., fun a ha b hb e2 => ?_⟩
            rw [List.mem_singleton] at hb
            exact e (by rw [← hb, ← e2]; exact ha)
          · intro z hz
            rcases List.mem_append.mp hz with hz | hz
            · exact hal z hz
            · rw [List.mem_singleton.mp hz]; exact haf.2
          · rw [List.getElem?_append_left (by rw [hpl]; omega)]
            exact hfst
          · intro j a b h1 h2
            have hj := (List.getElem?_eq_some_iff.mp h2).1
            rw [List.length_append, hpl] at hj
            have hj : j + 1 < pq.length + 1 + 1 := hj
            rw [List.getElem?_append_left (by rw [hpl]; omega)] at h1
            by_cases ej : j = pq.length
            · subst ej
              rw [hlst] at h1
              cases h1
              rw [List.getElem?_append_right (by rw [hpl]; omega), hpl, Nat.sub_self] at h2
              cases h2
              exact haf.1
            · rw [List.getElem?_append_left (by rw [hpl]; omega)] at h2
              exact hst j a b h1 h2
theorem c_endless_story (T : TX K mg) : Cal (L2.CX P w) P w K mg base 4 "endless_story" (sp_endless_story K) [] :=
  cal_mk T.f_endless_story T.g_endless_story ⟨rfl, rfl⟩ (fun _ _ _ _ _ _ us hl => match us, hl with | [_, _], _ => rfl) sc_endless_story (fun vs H Q E h => by obtain ⟨p, g, vh, dh, rfl, _⟩ := h; rfl) (k_endless_story T)
end

end K53
namespace K53
open PySem PySem.Spec PyProof.Rows L2
/-! ### couples of data, made tuples -/
def cpOf (e : PyData) : Nat × Nat :=
  match seqD e with
  | [.int a, .int b] => (a.toNat, b.toNat)
  | _ => (0, 0)
theorem isCpl_cp {hs ls : Nat} {e : PyData} (h : isCpl hs ls e = true) : isSeqD e = true ∧ seqD e = [.int ((cpOf e).1 : Int), .int ((cpOf e).2 : Int)] ∧ (cpOf e).1 < hs ∧ (cpOf e).2 < ls := by
  have h' := h
  unfold isCpl at h'
  split at h'
  · rename_i a b he
    obtain ⟨h1, h2⟩ := Bool.and_eq_true_iff.mp h'
    obtain ⟨x, rfl, hx⟩ := isW_nat h1
    obtain ⟨y, rfl, hy⟩ := isW_nat h2
    have e1 : cpOf e = (x, y) := by
      unfold cpOf
      rw [he]
      simp
    have hseq : isSeqD e = true := by
      cases e <;> first | rfl | cases he
    rw [e1, he]
    exact ⟨hseq, rfl, by omega, by omega⟩
  · cases h'
section
variable {K : PySem.W.Frag} {H : Hp} {Q : VK} {v : V} {e : PyData} {D : Addr} {acc : List V} {hs ls : Nat}
theorem s_kTupC (h : Hd H v e) (hc : isCpl hs ls e = true) (q : ∀ r H', Same H H' → H' r = some (.tup [.int ((cpOf e).1 : Int), .int ((cpOf e).2 : Int)]) → Q (.ref r) H') : kTup K v H Q := by
  obtain ⟨h1, h2, _⟩ := isCpl_cp hc
  have two : ∀ xs, HdL H xs (seqD e) → xs = [.int ((cpOf e).1 : Int), .int ((cpOf e).2 : Int)] := fun xs hl => by
    rw [h2] at hl
    cases hl with
    | cons a hl =>
      cases hl with
      | cons b hl =>
        cases hl
        rw [a.int_eq, b.int_eq]
  cases h with
  | @lst a xs ds g1 g2 g3 =>
    have := two xs g3
    subst this
    exact s_kTupL g1 fun r hr => q r _ (L2.Same.up hr) upd_same
  | @tup a xs ds g1 g3 =>
    have := two xs g3
    subst this
    exact s_kTupT g1 (q a H (L2.Same.refl H) g1)
  | _ => cases h1
def ElC : Addr → (V × PyData) → V → Hp → Prop := ElO fun p => .tup [.int ((cpOf p.2).1 : Int), .int ((cpOf p.2).2 : Int)]
theorem refs_of {α : Type} {ob : α → HO} {as : List α} (hl : acc.length = as.length) (hE : ∀ (j : Nat) (a : α), as[j]? = some a → ∃ y, acc[j]? = some y ∧ ElO ob D a y H) : ∃ ts : List Addr, acc = ts.map V.ref := by
  refine ⟨(List.range as.length).map fun j => adrOf (acc[j]?), ?_⟩
  apply List.ext_getElem?
  intro j
  rw [List.map_map, List.getElem?_map]
  by_cases hj : j < as.length
  · obtain ⟨y, e1, t, rfl, _, _⟩ := hE j _ (List.getElem?_eq_getElem hj)
    rw [List.getElem?_range hj, e1]
    show _ = some (V.ref (adrOf (acc[j]?)))
    rw [e1]
    rfl
  · rw [List.getElem?_eq_none (by omega), List.getElem?_eq_none (by rw [List.length_range]; omega)]
    rfl
/-- [tuple(c) for c in ..], the c's couples -/
theorem lc_tups {J : It} {G : Hp → Prop} {σ : L2.St} {i : Nat} (as : List (V × PyData)) (w : Walk J (as.map (·.1)).length G (YAt (as.map (·.1)))) (hz : as.length ≤ 100000) (hG : ∀ H', Same H H' → G H') (hA : ∀ p ∈ as, Hd H p.1 p.2) (hC : ∀ p ∈ as, isCpl hs ls p.2 = true) (hσ : i < σ.length)
    (hd : ∀ L H' acc, H L = none → Same H H' → H' L = some (.lst acc) → HdL H' acc ((as.map fun p => cpOf p.2).map cpD) → nh acc = true → Q (.ref L) H') : LcGoal J (gName i) tYes (tThen (tVar i) (kTup K)) [i] σ H Q := by
  refine lc_e as ElC w (List.length_map ..) hz hG (fun D j a acc H1 c => ?_) (fun D acc H1 hD s1 hD1 hl hE => ?_)
  · have hm := List.mem_of_getElem? c.ai
    refine ⟨?_, ?_⟩
    · show ((wipe σ [i]).set i (some a.1)).set i none = wipe σ [i]
      show (((σ.set i none).set i (some a.1)).set i none) = σ.set i none
      rw [List.set_set, List.set_set]
    · refine s_tYes (iteT ?_)
      refine ⟨a.1, ?_, ?_⟩
      · show ((σ.set i none).set i (some a.1))[i]? = _
        rw [List.set_set, List.getElem?_set_self hσ]
      · refine s_kTupC ((hA a hm).to c.sm) (hC a hm) fun r H' s' hr => ?_
        refine lce_yes elO_st c s' ⟨r, rfl, fun z => ?_, hr⟩
        have := s' _ _ c.hd
        rw [← z, hr] at this
        cases this
  · obtain ⟨ts, hts⟩ := refs_of hl hE
    refine hd D H1 acc hD s1 hD1 ?_ (by rw [hts]; exact nh_refs ts)
    rw [List.map_map]
    refine hdL_of (cpD ∘ fun p => cpOf p.2) hl fun j a ha => ?_
    obtain ⟨y, x1, t, rfl, _, x2⟩ := hE j a ha
    exact ⟨_, x1, Hd.cpI x2⟩
end
theorem areC_all {g : Hou} {d : PyData} (h : areC g d = true) : isSeqD d = true ∧ ∀ e ∈ seqD d, isCpl g.hs g.ls e = true := by
  unfold areC at h
  obtain ⟨h1, h2⟩ := Bool.and_eq_true_iff.mp h
  exact ⟨h1, fun e he => List.all_eq_true.mp h2 e he⟩
def cpsD (d : PyData) : List (Nat × Nat) := (seqD d).map cpOf
abbrev N_endless_fault : List Str := ["house", "hand", "before", "again", "couples", "couple"]
theorem sc_endless_fault : FnScope N_endless_fault ["house", "hand", "before", "again"] (defScope s_endless_fault) := C8.fnScope_by (by decide +kernel)
/-- the fault's word -/
def FaultV (g : Hou) (h : Nat) (d e : PyData) (v : V) : Prop :=
  (¬ (areC g d = true ∧ areC g e = true) → v = .str "couple") ∧ (areC g d = true → areC g e = true → (seqD e = [] → v = .str "again") ∧
    ∀ c0, (cpsD e)[0]? = some c0 → ∀ cs, cs = cpsD d ++ cpsD e → ∀ c1, cs[0]? = some c1 → (c1.1 ≠ h → v = .str "hand") ∧ (c1.1 = h → (chain g (cs ++ [c0]) → v = .non) ∧ (¬ chain g (cs ++ [c0]) → v = .str "step")))
def sp_endless_fault (K : PySem.W.Frag) : Sp := fun vs H Q E => ∃ p g vh dh vd ve d e, vs = [.ref p, vh, vd, ve] ∧ HouO K H p g ∧ Hd H vh dh ∧ Hd H vd d ∧ Hd H ve e ∧ (seqD d).length ≤ 1000 ∧ (seqD e).length ≤ 1000 ∧
  (isW dh (some 0) (some ((g.hs : Int) - 1)) = false → ErO K "BadHand" "hand" vh H E) ∧
  ∀ h : Nat, dh = .int (h : Int) → h < g.hs → ∀ v H', Same H H' → FaultV g h d e v → Q v H'
section
variable {P : Program} {w : World} {K : PySem.W.Frag} {mg : Str → Option Value} {base : Heap}
theorem k_endless_fault (T : TX K mg) : Keeps (L2.CX P w) P w K mg base d_endless_fault N_endless_fault 3 (sp_endless_fault K) := by
  intro cdv A outer s H vs Q E hr hsp
  obtain ⟨p, g, vh, dh, vd, ve, d, e, rfl, hh, hhd, hvd, hve, hzd, hze, e1, q⟩ := hsp
  have o := hh.ok
  have nd := sc_endless_fault.nd
  have hu := hu_of hr
  have hu64 := hr.units
  refine ⟨_, (pss_cons (ps_expr (pe_clE (c_check_hand T) hr (by decide) (pa_cons (pv 0) (pa_cons (pv 1) pa_nil)) (passes_call (takes_of rfl rfl rfl rfl) fun _ _ _ _ h => h)))
  (pss_cons (ps_if (PW.pt (pw_or (pt_not (pt_val (pe_cl (c_are_couples T) hr (by decide) (pa_cons (pv 0) (pa_cons (pv 2) pa_nil)) passL))) (pw_or1 (pt_not (pt_val (pe_cl (c_are_couples T) hr (by decide) (pa_cons (pv 0) (pa_cons (pv 3) pa_nil)) passL)))))) (pss_one (ps_ret pe_str)) pss_nil)
  (pss_cons (ps_if (pt_cmpR op_eq (pe_callB (call_lenK (K := K) rfl) (by rfl) T.b_len PySem.boot_len (pa_cons (pv 3) pa_nil)) pe_int (nomark _)) (pss_one (ps_ret pe_str)) pss_nil)
  (pss_cons (ps_set (i := 4) nd rfl (Or.inl rfl) (pe_op op_cat (pe_lc (own := [("couple", 5)]) (tt := tYes) rfl nd (pi_seqK (K := K) rfl (pv 2)) (blkOk_by (N := N_endless_fault) (sc := (defScope s_endless_fault)) (by decide +kernel)) (fun _ _ _ _ _ => (pg_name (i := 5) nd rfl (Or.inl rfl))) (fun _ _ _ _ _ => pts_nil) (fun _ _ _ _ _ => (pe_tupleOfK (K := K) rfl (by rfl) T.b_tuple (pv 5)))) (pe_lc (own := [("couple", 5)]) (tt := tYes) rfl nd (pi_seqK (K := K) rfl (pv 3)) (blkOk_by (N := N_endless_fault) (sc := (defScope s_endless_fault)) (by decide +kernel)) (fun _ _ _ _ _ => (pg_name (i := 5) nd rfl (Or.inl rfl))) (fun _ _ _ _ _ => pts_nil) (fun _ _ _ _ _ => (pe_tupleOfK (K := K) rfl (by rfl) T.b_tuple (pv 5))))))
  (pss_cons (ps_if (pt_cmpR op_ne (pe_ix (ix_tupK (K := K) rfl) (pe_ix (ix_listK (K := K) rfl) (pv 4) pe_int (fun _ _ => rfl)) pe_int (fun _ _ => rfl)) (pv 1) (nomark _)) (pss_one (ps_ret pe_str)) pss_nil)
  (pss_cons (ps_if (pt_cmp (pc_notN (pe_cl (c_first_fall T) hr (by decide) (pa_cons (pv 0) (pa_cons (pe_op op_cat (pv 4) (pe_lst (pa_cons (pe_tupleOfK (K := K) rfl (by rfl) T.b_tuple (pe_ix (ix_seqK (K := K) rfl) (pv 3) pe_int (fun _ _ => rfl))) pa_nil))) pa_nil)) passL))) (pss_one (ps_ret pe_str)) pss_nil)
  (pss_one (ps_ret pe_non)))))))), ?_⟩
  refine st_eq (σ := [some (.ref p), some (vh), some (vd), some (ve), none, none]) rfl ?_
  walk_at "s"
  refine ⟨p, g, vh, dh, rfl, hh, hhd, fun y1 => ?_, fun n1 => e1 n1⟩
  obtain ⟨h, rfl, hh2⟩ := isW_nat y1
  have hlt : h < g.hs := by omega
  cases hhd
  have q := q h rfl hlt
  walk_at "s"
  refine ⟨p, g, vd, d, rfl, hh, hvd, by omega, fun H1 s1 => ?_⟩
  walk_at "s"
  refine s_iteN (fun c1 => ?_) (fun c1 => ?_)
  · walk_at "s"
    exact q _ _ s1 ⟨fun _ => rfl, fun z => by rw [c1] at z; cases z⟩
  walk_at "s"
  refine ⟨p, g, ve, e, rfl, hh.to s1, hve.to s1, by omega, fun H2 s2 => ?_⟩
  walk_at "s"
  refine s_iteN (fun c2 => ?_) (fun c2 => ?_)
  · walk_at "s"
    exact q _ _ (s1.trans s2) ⟨fun _ => rfl, fun _ z => by rw [c2] at z; cases z⟩
  obtain ⟨a1, a2⟩ := areC_all c1
  obtain ⟨b1, b2⟩ := areC_all c2
  have s12 := s1.trans s2
  obtain ⟨xe, hSe, hLe⟩ := (hve.to s12).seq (K := K) b1
  obtain ⟨xd, hSd, hLd⟩ := (hvd.to s12).seq (K := K) a1
  obtain ⟨asE, rfl, eE, hAE⟩ := hLe.zip
  obtain ⟨asD, rfl, eD, hAD⟩ := hLd.zip
  have lE : asE.length = (seqD e).length := by rw [eE, List.length_map]
  have lD : asD.length = (seqD d).length := by rw [eD, List.length_map]
  walk_at "s"
  refine s_len hSe ?_
  rw [List.length_map]
  walk_at "s"
  refine s_iteD (fun c3 => ?_) (fun c3 => ?_)
  · walk_at "s"
    have z : seqD e = [] := List.eq_nil_of_length_eq_zero (by omega)
    refine q _ _ s12 ⟨fun w => absurd ⟨c1, c2⟩ w, fun _ _ => ⟨fun _ => rfl, fun c0 hc0 => ?_⟩⟩
    unfold cpsD at hc0
    rw [z] at hc0
    cases hc0
  walk_at "s"
  refine s_iSc hSd fun J G W hG => ?_
  refine lc_tups asD W (by omega) hG hAD (fun p hp => a2 _ (by rw [eD]; exact List.mem_map.mpr ⟨p, hp, rfl⟩)) (Nat.lt_of_lt_of_le (by decide : 5 < 6) (Nat.le_of_ble_eq_true rfl)) fun L1 H3 ac1 hL1 s3 hL1' hH1 nh1 => ?_
  walk_at "s"
  refine s_iSc (hSe.to s3) fun J2 G2 W2 hG2 => ?_
  refine lc_tups asE W2 (by omega) hG2 (fun p hp => (hAE p hp).to s3) (fun p hp => b2 _ (by rw [eE]; exact List.mem_map.mpr ⟨p, hp, rfl⟩)) (Nat.lt_of_lt_of_le (by decide : 5 < 6) (Nat.le_of_ble_eq_true rfl)) fun L2' H4 ac2 hL2 s4 hL2' hH2 nh2 => ?_
  have z1 := hH1.len
  have z2 := hH2.len
  rw [List.length_map, List.length_map] at z1 z2
  refine ⟨L1, L2', _, _, rfl, rfl, s4 _ _ hL1', hL2', sz16 (by omega), fun L3 hL3 => ?_⟩
  have s5 := L2.Same.up (o := .lst (ac1 ++ ac2)) hL3
  have s15 := ((s12.trans s3).trans s4).trans s5
  have cD : asD.map (fun p => cpOf p.2) = cpsD d := by unfold cpsD; rw [eD, List.map_map]; rfl
  have cE : asE.map (fun p => cpOf p.2) = cpsD e := by unfold cpsD; rw [eE, List.map_map]; rfl
  rw [cD] at hH1
  rw [cE] at hH2
  have hH3 : HdL (upd H4 L3 (.lst (ac1 ++ ac2))) (ac1 ++ ac2) ((cpsD d ++ cpsD e).map cpD) := by
    rw [List.map_append]
    exact ((hH1.to s4).to s5).app (hH2.to s5)
  obtain ⟨c0, hc0⟩ : ∃ c, (cpsD e)[0]? = some c := ⟨_, List.getElem?_eq_getElem (by unfold cpsD; rw [List.length_map]; omega)⟩
  obtain ⟨c1', hc1⟩ : ∃ c, (cpsD d ++ cpsD e)[0]? = some c := ⟨_, List.getElem?_eq_getElem (by rw [List.length_append]; unfold cpsD; rw [List.length_map, List.length_map]; omega)⟩
  obtain ⟨v1, f1, g1⟩ := hH3.get (i := 0) (by rw [List.getElem?_map, hc1]; rfl)
  obtain ⟨r1, rfl, t1⟩ := g1.cp
  have fv : ∀ v, ((c1'.1 ≠ h → v = .str "hand") ∧ (c1'.1 = h → (chain g ((cpsD d ++ cpsD e) ++ [c0]) → v = .non) ∧ (¬ chain g ((cpsD d ++ cpsD e) ++ [c0]) → v = .str "step"))) → FaultV g h d e v := fun v hv =>
    ⟨fun w => absurd ⟨c1, c2⟩ w, fun _ _ => ⟨fun z => by rw [z] at lE; exact absurd (by rw [lE]; rfl) c3, fun c hc cs ecs c' hc' => by
      subst ecs
      rw [hc0] at hc
      rw [hc1] at hc'
      cases hc
      cases hc'
      exact hv⟩⟩
  walk_at "s"
  refine s_ixL (i := 0) (SqL.of upd_same) f1 ?_
  walk_at "s"
  refine s_ixT0 (SqT.of t1) ?_
  walk_at "s"
  refine s_iteND (fun c4 => ?_) (fun c4 => ?_)
  · walk_at "s"
    exact q _ _ s15 (fv _ ⟨fun _ => rfl, fun z => absurd z c4⟩)
  walk_at "s"
  obtain ⟨ve0, u1, u2⟩ := ((hLe.to s3).to s4).to s5 |>.get (i := 0) (d := (seqD e)[0]'(by omega)) (List.getElem?_eq_getElem (by omega))
  have hin0 : isCpl g.hs g.ls ((seqD e)[0]'(by omega)) = true := b2 _ (List.getElem_mem _)
  refine s_ixS (i := 0) (((hSe.to s3).to s4).to s5) u1 ?_
  refine s_kTupC u2 hin0 fun r6 H6 s6 hr6 => ?_
  walk_at "s"
  refine s_tl (Nat.le_of_ble_eq_true rfl) fun L7 hL7 => ?_
  have s7 := L2.Same.up (o := .lst [.ref r6]) hL7
  have ec0 : c0 = cpOf ((seqD e)[0]'(by omega)) := by
    unfold cpsD at hc0
    rw [List.getElem?_map, List.getElem?_eq_getElem (by omega)] at hc0
    exact (Option.some.inj hc0).symm
  refine ⟨L3, L7, _, _, rfl, rfl, s7 _ _ (s6 _ _ upd_same), upd_same, sz16 (by rw [List.length_append]; show _ + 1 ≤ _; omega), fun L8 hL8 => ?_⟩
  have s8 := L2.Same.up (o := .lst ((ac1 ++ ac2) ++ [.ref r6])) hL8
  have hH8 : HdL (upd (upd H6 L7 (.lst [.ref r6])) L8 (.lst ((ac1 ++ ac2) ++ [.ref r6]))) ((ac1 ++ ac2) ++ [.ref r6]) (((cpsD d ++ cpsD e) ++ [c0]).map cpD) := by
    rw [List.map_append]
    refine HdL.app (((hH3.to s6).to s7).to s8) (.cons ?_ .nil)
    rw [ec0]
    exact Hd.cpI (s8 _ _ (s7 _ _ hr6))
  have hrng : ∀ c ∈ (cpsD d ++ cpsD e) ++ [c0], inR g c := fun c hc => by
    have one : ∀ x, (∀ y ∈ seqD x, isCpl g.hs g.ls y = true) → ∀ c ∈ cpsD x, inR g c := fun x hx c hc => by
      obtain ⟨y, hy, rfl⟩ := List.mem_map.mp hc
      have := isCpl_cp (hx y hy)
      exact ⟨this.2.2.1, this.2.2.2⟩
    rcases List.mem_append.mp hc with hc | hc
    · rcases List.mem_append.mp hc with hc | hc
      · exact one d a2 c hc
      · exact one e b2 c hc
    · rw [List.mem_singleton.mp hc]
      exact one e b2 c0 (List.mem_of_getElem? hc0)
  have s18 := ((s15.trans s6).trans s7).trans s8
  refine ⟨p, g, L8, _, (cpsD d ++ cpsD e) ++ [c0], rfl, hh.to s18, upd_same, hH8, hrng, by simp, by
    rw [List.length_append, List.length_append]; unfold cpsD; rw [List.length_map, List.length_map]; show _ + 1 ≤ _; omega, fun hch H9 s9 => ?_, fun hch i H9 s9 => ?_⟩
  · refine s_bl ?_
    refine s_noND rfl ?_
    walk_at "s"
    exact q _ _ (s18.trans s9) (fv _ ⟨fun z => absurd c4 z, fun _ => ⟨fun _ => rfl, fun z => absurd hch z⟩⟩)
  · refine s_bl ?_
    refine s_yesND (fun z => by cases z) ?_
    walk_at "s"
    exact q _ _ (s18.trans s9) (fv _ ⟨fun z => absurd c4 z, fun _ => ⟨fun z => absurd z hch, fun _ => rfl⟩⟩)
theorem c_endless_fault (T : TX K mg) : Cal (L2.CX P w) P w K mg base 4 "endless_fault" (sp_endless_fault K) [] :=
  cal_mk T.f_endless_fault T.g_endless_fault ⟨rfl, rfl⟩ (fun _ _ _ _ _ _ us hl => match us, hl with | [_, _, _, _], _ => rfl) sc_endless_fault (fun vs H Q E h => by obtain ⟨p, g, vh, dh, vd, ve, d, e, rfl, _⟩ := h; rfl) (k_endless_fault T)
end

end K53
namespace K53
open PySem PySem.Spec PyProof.Rows L2
/-! ### days_fault, of what is a story -/
theorem cpOf_cpD (c : Nat × Nat) : cpOf (cpD c) = c := by
  unfold cpOf cpD seqD
  simp
theorem isCpl_cpD {hs ls : Nat} {c : Nat × Nat} (h1 : c.1 < hs) (h2 : c.2 < ls) : isCpl hs ls (cpD c) = true := by
  show (isW (.int (c.1 : Int)) (some 0) (some ((hs : Int) - 1)) && isW (.int (c.2 : Int)) (some 0) (some ((ls : Int) - 1))) = true
  rw [isW_mk (by omega), isW_mk (by omega)]
  rfl
theorem areC_mk {g : Hou} {cs : List (Nat × Nat)} (h : ∀ c ∈ cs, inR g c) : areC g (.tuple (cs.map cpD)) = true := by
  show (true && (cs.map cpD).all (isCpl g.hs g.ls)) = true
  rw [Bool.true_and, List.all_eq_true]
  intro e he
  obtain ⟨c, hc, rfl⟩ := List.mem_map.mp he
  exact isCpl_cpD (h c hc).1 (h c hc).2
theorem cpsD_mk (cs : List (Nat × Nat)) : (cs.map cpD).map cpOf = cs := by
  rw [List.map_map]
  conv => rhs; rw [← List.map_id cs]
  exact List.map_congr_left fun c _ => cpOf_cpD c
abbrev N_days_fault : List Str := ["house", "days", "hand", "blank", "story", "couples", "couple"]
theorem sc_days_fault : FnScope N_days_fault ["house", "days", "hand", "blank", "story"] (defScope s_days_fault) := C8.fnScope_by (by decide +kernel)
def sp_days_fault (K : PySem.W.Frag) : Sp := fun vs H Q _ => ∃ (p : Addr) (g : Hou) (d h b : Nat) (v : V) (cs : List (Nat × Nat)), vs = [.ref p, .int (d : Int), .int (h : Int), .int (b : Int), v] ∧ HouO K H p g ∧ Hd H v (.tuple (cs.map cpD)) ∧ d ≤ 60 ∧ h < g.hs ∧ b < g.ls ∧ cs.length = d + 1 ∧ (∀ c ∈ cs, inR g c) ∧ chain g cs ∧
  (∀ c, cs[0]? = some c → c.1 = h) ∧ (∀ c, cs[d]? = some c → c.2 = b) ∧ ∀ H', Same H H' → Q .non H'
section
variable {P : Program} {w : World} {K : PySem.W.Frag} {mg : Str → Option Value} {base : Heap}
theorem k_days_fault (T : TX K mg) : Keeps (L2.CX P w) P w K mg base d_days_fault N_days_fault 3 (sp_days_fault K) := by
  intro cdv A outer s H vs Q E hr hsp
  obtain ⟨p, g, d, h, b, v, cs, rfl, hh, hv, hd, hlt, blt, hl, hin, hch, hf, hb, q⟩ := hsp
  have o := hh.ok
  have nd := sc_days_fault.nd
  have hu := hu_of hr
  have hu64 := hr.units
  refine ⟨_, (pss_cons (ps_expr (pe_clE (c_check_days60 T) hr (by decide) (pa_cons (pv 1) pa_nil) (passes_call (takes_of rfl rfl rfl rfl) fun _ _ _ _ h => h)))
  (pss_cons (ps_expr (pe_clE (c_check_hand T) hr (by decide) (pa_cons (pv 0) (pa_cons (pv 2) pa_nil)) (passes_call (takes_of rfl rfl rfl rfl) fun _ _ _ _ h => h)))
  (pss_cons (ps_expr (pe_clE (c_check_letter T) hr (by decide) (pa_cons (pv 0) (pa_cons (pv 3) pa_nil)) (passes_call (takes_of rfl rfl rfl rfl) fun _ _ _ _ h => h)))
  (pss_cons (ps_if (PW.pt (pw_or (pt_not (pt_val (pe_callB (call_isiTK (K := K) rfl) (by rfl) T.b_isinstance (by decide +kernel) (pa_cons (pv 4) (pa_cons (pe_tup (pa_cons (pe_bltn (v := .ty "list") (by rfl) T.b_list (by decide +kernel) rfl) (pa_cons (pe_bltn (v := .ty "tuple") (by rfl) T.b_tuple (by decide +kernel) rfl) pa_nil))) pa_nil))))) (pw_or1 (pt_cmpR op_ne (pe_callB (call_lenK (K := K) rfl) (by rfl) T.b_len PySem.boot_len (pa_cons (pv 4) pa_nil)) (pe_op op_add (pv 1) pe_int) (nomark _))))) (pss_one (ps_ret pe_str)) pss_nil)
  (pss_cons (ps_if (pt_not (pt_val (pe_cl (c_are_couples T) hr (by decide) (pa_cons (pv 0) (pa_cons (pv 4) pa_nil)) passL))) (pss_one (ps_ret pe_str)) pss_nil)
  (pss_cons (ps_setLc (i := 5) (own := [("couple", 6)]) (tt := tYes) rfl nd rfl rfl (sw_true rfl rfl rfl (by decide +kernel)) (pi_tupK (K := K) rfl (pv 4)) (blkOk_by (N := N_days_fault) (sc := (defScope s_days_fault)) (by decide +kernel)) (fun _ _ _ _ _ => (pg_name (i := 6) nd rfl (Or.inl rfl))) (fun _ _ _ _ _ => pts_nil) (fun _ _ _ _ _ => (pe_tupleOfK (K := K) rfl (by rfl) T.b_tuple (pv 6))))
  (pss_cons (ps_if (pt_cmpR op_ne (pe_ix (ix_tupK (K := K) rfl) (pe_ix (ix_listK (K := K) rfl) (pv 5) pe_int (fun _ _ => rfl)) pe_int (fun _ _ => rfl)) (pv 2) (nomark _)) (pss_one (ps_ret pe_str)) pss_nil)
  (pss_cons (ps_if (pt_cmpR op_ne (pe_ix (ix_tupK (K := K) rfl) (pe_ix (ix_listK (K := K) rfl) (pv 5) (pe_un un_neg pe_int) (fun _ _ => rfl)) pe_int (fun _ _ => rfl)) (pv 3) (nomark _)) (pss_one (ps_ret pe_str)) pss_nil)
  (pss_cons (ps_if (pt_cmp (pc_notN (pe_cl (c_first_fall T) hr (by decide) (pa_cons (pv 0) (pa_cons (pv 5) pa_nil)) passL))) (pss_one (ps_ret pe_str)) pss_nil)
  (pss_one (ps_ret pe_non))))))))))), ?_⟩
  refine st_eq (σ := [some (.ref p), some (.int (d : Int)), some (.int (h : Int)), some (.int (b : Int)), some (v), none, none]) rfl ?_
  walk_at "s"
  refine ⟨_, .int (d : Int), _, rfl, .int _, fun _ => ?_, fun n => by rw [isW_mk (by omega)] at n; cases n⟩
  walk_at "s"
  refine ⟨p, g, _, .int (h : Int), rfl, hh, .int _, fun _ => ?_, fun n => by rw [isW_mk (by omega)] at n; cases n⟩
  walk_at "s"
  refine ⟨p, g, _, .int (b : Int), rfl, hh, .int _, fun _ => ?_, fun n => by rw [isW_mk (by omega)] at n; cases n⟩
  walk_at "s"
  refine s_tl (by decide) fun tp htp => ?_
  have s0 := L2.Same.up (o := HO.tup [V.ty "list", V.ty "tuple"]) htp
  have hv0 := hv.to s0
  walk_at "s"
  refine s_isiLT hv0 upd_same ?_
  refine s_bl (s_noN rfl ?_)
  obtain ⟨a, xs, rfl, ha, hx⟩ := hv0.tup_eq
  have hxl := hx.len
  rw [List.length_map] at hxl
  walk_at "s"
  refine s_lenT ha ?_
  rw [hxl, hl]
  walk_at "s"
  refine s_noND rfl ?_
  walk_at "s"
  refine ⟨p, g, .ref a, _, rfl, hh.to s0, hv0, by show (cs.map cpD).length ≤ _; rw [List.length_map]; omega, fun H1 s1 => ?_⟩
  rw [areC_mk hin]
  walk_at "s"
  obtain ⟨as, rfl, eA, hA⟩ := (hx.to s1).zip
  have lA : as.length = cs.length := by have := congrArg List.length eA; rw [List.length_map, List.length_map] at this; exact this.symm
  refine s_iTc (SqT.of (s1 _ _ ha)) ?_
  refine lc_tups (hs := g.hs) (ls := g.ls) as walk_tup (by omega) (fun H' s' => SqT.of (s' _ _ (s1 _ _ ha))) hA (fun p hp => ?_) (Nat.lt_of_lt_of_le (by decide : 6 < 7) (Nat.le_of_ble_eq_true rfl)) fun L H2 acc hL s2 hL2 hH nh1 => ?_
  · have : p.2 ∈ cs.map cpD := by rw [eA]; exact List.mem_map.mpr ⟨p, hp, rfl⟩
    obtain ⟨c, hc, e⟩ := List.mem_map.mp this
    rw [← e]
    exact isCpl_cpD (hin c hc).1 (hin c hc).2
  have ecs : as.map (fun p => cpOf p.2) = cs := by
    rw [show as.map (fun p => cpOf p.2) = (as.map (·.2)).map cpOf by rw [List.map_map]; rfl, ← eA]
    exact cpsD_mk cs
  rw [ecs] at hH
  have s02 := (s0.trans s1).trans s2
  obtain ⟨c0, hc0⟩ : ∃ c, cs[0]? = some c := ⟨_, List.getElem?_eq_getElem (by omega)⟩
  obtain ⟨cd, hcd⟩ : ∃ c, cs[d]? = some c := ⟨_, List.getElem?_eq_getElem (by omega)⟩
  obtain ⟨v1, f1, g1⟩ := hH.get (i := 0) (by rw [List.getElem?_map, hc0]; rfl)
  obtain ⟨r1, rfl, t1⟩ := g1.cp
  obtain ⟨v2, f2, g2⟩ := hH.get (i := d) (by rw [List.getElem?_map, hcd]; rfl)
  obtain ⟨r2, rfl, t2⟩ := g2.cp
  have hal := hH.len
  rw [List.length_map] at hal
  walk_at "s"
  refine s_ixL (i := 0) (SqL.of hL2) f1 ?_
  walk_at "s"
  refine s_ixT0 (SqT.of t1) ?_
  walk_at "s"
  refine s_noND (hf c0 hc0) ?_
  walk_at "s"
  refine ⟨L, acc, -1, .ref r2, rfl, rfl, SqL.of hL2, ?_, ?_⟩
  · unfold atI ixN
    rw [if_neg (by decide), if_pos (by omega), show ((-1 : Int) + (acc.length : Int)).toNat = d by omega]
    exact f2
  walk_at "s"
  refine s_ixT1 (SqT.of t2) ?_
  walk_at "s"
  refine s_noND (hb cd hcd) ?_
  walk_at "s"
  refine ⟨p, g, L, acc, cs, rfl, hh.to s02, hL2, hH, hin, (fun z => by rw [z] at hc0; cases hc0), by omega, (fun _ H3 s3 => ?_), fun n => absurd hch n⟩
  refine s_bl ?_
  refine s_noND rfl ?_
  walk_at "s"
  exact q _ (s02.trans s3)
theorem c_days_fault (T : TX K mg) : Cal (L2.CX P w) P w K mg base 4 "days_fault" (sp_days_fault K) [] :=
  cal_mk T.f_days_fault T.g_days_fault ⟨rfl, rfl⟩ (fun _ _ _ _ _ _ us hl => match us, hl with | [_, _, _, _, _], _ => rfl) sc_days_fault (fun vs H Q E h => by obtain ⟨p, g, d, h, b, v, cs, rfl, _⟩ := h; rfl) (k_days_fault T)
end

end K53
namespace K53
open PySem PySem.Spec PyProof.Rows L2
/-! ### House.__init__ -/
def rwD (c : Nat × Nat) : PyData := .list [.int (c.1 : Int), .int (c.2 : Int)]
theorem cpOf_rwD (c : Nat × Nat) : cpOf (rwD c) = c := by
  unfold cpOf rwD seqD
  simp
theorem isCpl_rwD {hs ls : Nat} {c : Nat × Nat} (h1 : c.1 < hs) (h2 : c.2 < ls) : isCpl hs ls (rwD c) = true := by
  show (isW (.int (c.1 : Int)) (some 0) (some ((hs : Int) - 1)) && isW (.int (c.2 : Int)) (some 0) (some ((ls : Int) - 1))) = true
  rw [isW_mk (by omega), isW_mk (by omega)]
  rfl
/-- a list, a tuple, a dict: where data may lie -/
def isSq : HO → Bool
  | .lst _ => true
  | .tup _ => true
  | .dK _ => true
  | _ => false
mutual
theorem hd_x {H H' : Hp} (s : ∀ b u, isSq u = true → H b = some u → H' b = some u) : ∀ (d : PyData) (v : V), Hd H v d → Hd H' v d
  | .none, _, h => by cases h; exact .non
  | .bool b, _, h => by cases h; exact .bl b
  | .int i, _, h => by cases h; exact .int i
  | .str x, _, h => by cases h; exact .str x
  | .list ds, _, h => by
    cases h with
    | lst h1 h2 h3 => exact .lst (s _ _ rfl h1) h2 (hdL_x' s ds _ h3)
  | .tuple ds, _, h => by
    cases h with
    | tup h1 h3 => exact .tup (s _ _ rfl h1) (hdL_x' s ds _ h3)
  | .dict _, _, h => by
    cases h with
    | dic h1 => exact .dic (s _ _ rfl h1)
theorem hdL_x' {H H' : Hp} (s : ∀ b u, isSq u = true → H b = some u → H' b = some u) : ∀ (ds : List PyData) (vs : List V), HdL H vs ds → HdL H' vs ds
  | [], _, h => by cases h; exact .nil
  | d :: ds, _, h => by
    cases h with
    | cons h1 h2 => exact .cons (hd_x s d _ h1) (hdL_x' s ds _ h2)
end
theorem hdL_x {H H' : Hp} {ds : List PyData} {vs : List V} (h : HdL H vs ds) (s : ∀ b u, isSq u = true → H b = some u → H' b = some u) : HdL H' vs ds := hdL_x' s ds vs h
abbrev N_House__init__ : List Str := ["self", "hand_size", "letter_size", "rows", "place", "row"]
theorem sc_House__init__ : FnScope N_House__init__ ["self", "hand_size", "letter_size", "rows"] (defScope s_House__init__) := C8.fnScope_by (by decide +kernel)
def sp_House__init__ (K : PySem.W.Frag) : Sp := fun vs H Q _ => ∃ (p dx R : Addr) (g : Hou) (xs : List V), vs = [.ref p, .int (g.hs : Int), .int (g.ls : Int), .ref R] ∧ H p = some (.ins (gA K "House") dx []) ∧ g.Ok ∧ H R = some (.lst xs) ∧ nh xs = true ∧ HdL H xs (g.rows.map rwD) ∧
  ∀ H', SameX p H H' → HouO K H' p g → Q .non H'
section
variable {P : Program} {w : World} {K : PySem.W.Frag} {mg : Str → Option Value} {base : Heap}
theorem k_House__init__ (T : TX K mg) : Keeps (L2.CX P w) P w K mg base d_House__init__ N_House__init__ 2 (sp_House__init__ K) := by
  intro cdv A outer s H vs Q E hr hsp
  obtain ⟨p, dx, R, g, xs, rfl, hp, o, hR, hnh, hL, q⟩ := hsp
  have h2 := o.h2
  have h4 := o.h4
  have l2 := o.l2
  have l4 := o.l4
  have h16 := o.n16
  have hl := hL.len
  rw [List.length_map, o.len] at hl
  have nd := sc_House__init__.nd
  have hu := hu_of hr
  have hu64 := hr.units
  refine ⟨_, (pss_cons (ps_if (pt_not (pt_val (pe_cl (c_is_whole T) hr (by decide) (pa_cons (pv 1) (pa_cons pe_int (pa_cons pe_int pa_nil))) passL))) (pss_one ps_never) pss_nil)
  (pss_cons (ps_if (pt_not (pt_val (pe_cl (c_is_whole T) hr (by decide) (pa_cons (pv 2) (pa_cons pe_int (pa_cons pe_int pa_nil))) passL))) (pss_one ps_never) pss_nil)
  (pss_cons (ps_if (PW.pt (pw_or (pt_not (pt_val (pe_callB (call_isiTK (K := K) rfl) (by rfl) T.b_isinstance (by decide +kernel) (pa_cons (pv 3) (pa_cons (pe_tup (pa_cons (pe_bltn (v := .ty "list") (by rfl) T.b_list (by decide +kernel) rfl) (pa_cons (pe_bltn (v := .ty "tuple") (by rfl) T.b_tuple (by decide +kernel) rfl) pa_nil))) pa_nil))))) (pw_or1 (pt_cmpR op_ne (pe_callB (call_lenK (K := K) rfl) (by rfl) T.b_len PySem.boot_len (pa_cons (pv 3) pa_nil)) (pe_op op_mul (pv 1) (pv 2)) (nomark _))))) (pss_one ps_never) pss_nil)
  (pss_cons (ps_for (passes_of rfl) rfl (pi_enumK (K := K) rfl (by rfl) T.b_enumerate (pa_cons (pv 3) pa_nil)) (pg_tupK (K := K) (n := 2) rfl rfl (pgs_cons (pg_name (i := 4) nd rfl (Or.inl rfl)) (pgs_cons (pg_name (i := 5) nd rfl (Or.inl rfl)) pgs_nil))) (pss_one (ps_if (pt_not (pt_val (pe_cl (c_is_couple_of T) hr (by decide) (pa_cons (pv 1) (pa_cons (pv 2) (pa_cons (pv 5) pa_nil))) passL))) (pss_one ps_never) pss_nil)))
  (pss_cons (ps_fld (pv 0) (pv 1) rfl)
  (pss_cons (ps_fld (pv 0) (pv 2) rfl)
  (pss_one (ps_fld (pv 0) (pe_tupleOfK (K := K) rfl (by rfl) T.b_tuple (pe_lc (own := [("row", 5)]) (tt := tYes) rfl nd (pi_listK (K := K) rfl (pv 3)) (blkOk_by (N := N_House__init__) (sc := (defScope s_House__init__)) (by decide +kernel)) (fun _ _ _ _ _ => (pg_name (i := 5) nd rfl (Or.inl rfl))) (fun _ _ _ _ _ => pts_nil) (fun _ _ _ _ _ => (pe_tupleOfK (K := K) rfl (by rfl) T.b_tuple (pv 5))))) rfl)))))))), ?_⟩
  refine st_eq (σ := [some (.ref p), some (.int (g.hs : Int)), some (.int (g.ls : Int)), some (.ref R), none, none]) rfl ?_
  have two : ∀ n : Nat, 2 ≤ n → n ≤ 4 → isW (.int (n : Int)) (some 2) (some 4) = true := fun n a b => by
    show (decide ((2 : Int) ≤ (n : Int)) && decide ((n : Int) ≤ 4)) = true
    rw [decide_eq_true (by omega), decide_eq_true (by omega)]; rfl
  walk_at "s"
  refine ⟨_, .int (g.hs : Int), some 2, some 4, rfl, .int _, ?_⟩
  rw [two _ h2 h4]
  walk_at "s"
  refine ⟨_, .int (g.ls : Int), some 2, some 4, rfl, .int _, ?_⟩
  rw [two _ l2 l4]
  walk_at "s"
  refine s_tl (by decide) fun tp htp => ?_
  have s0 := L2.Same.up (o := HO.tup [V.ty "list", V.ty "tuple"]) htp
  walk_at "s"
  refine s_isiLT (Hd.lst (s0 _ _ hR) hnh (hL.to s0)) upd_same ?_
  refine s_bl (s_noN rfl ?_)
  walk_at "s"
  refine s_lenL (s0 _ _ hR) ?_
  rw [hl]
  walk_at "s"
  refine s_mulN (by omega) ?_
  walk_at "s"
  refine s_noND rfl ?_
  walk_at "s"
  refine s_iEf (SqL.of (s0 _ _ hR)) ?_
  refine for_e (xs := xs) (fun i σ H3 => ∃ x y, σ = [some (.ref p), some (.int (g.hs : Int)), some (.int (g.ls : Int)), some (.ref R), x, y] ∧ Same H H3) ⟨_, _, rfl, s0⟩ (fun i σ H3 hP => by obtain ⟨_, _, _, s'⟩ := hP; exact SqL.of (s' _ _ hR)) (fun i x Tp σ H3 hx hP hT => ?_) (fun σ H3 hP => ?_)
  · obtain ⟨x1, x2, rfl, s3⟩ := hP
    have hi : i < g.n := by
      have := (List.getElem?_eq_some_iff.mp hx).1
      omega
    have s4 := L2.Same.up (o := HO.tup [V.int (i : Nat), x]) hT
    obtain ⟨d, e1, e2⟩ := hL.getV hx
    rw [List.getElem?_map, List.getElem?_eq_getElem (by rw [o.len]; exact hi)] at e1
    have e1 := Option.some.inj e1
    have hin := o.rng _ (List.getElem_mem (l := g.rows) (n := i) (by rw [o.len]; exact hi))
    subst e1
    refine s_gt2 (SqT.of upd_same) ?_
    walk_at "s"
    refine ⟨x, _, g.hs, g.ls, rfl, (e2.to s3).to s4, fun H4 s5 => ?_⟩
    rw [isCpl_rwD hin.1 hin.2]
    walk_at "s"
    exact ⟨_, _, rfl, (s3.trans s4).trans s5⟩
  · obtain ⟨x1, x2, rfl, s3⟩ := hP
    have hp3 := s3 _ _ hp
    dsimp only
    refine s_seq ?_
    refine s_fldS ?_
    walk_at "s"
    refine ⟨p, _, dx, [], rfl, hp3, T.cl_House, T.na_House_hand_size, by decide, ?_⟩
    dsimp only
    refine s_seq ?_
    refine s_fldS ?_
    walk_at "s"
    refine ⟨p, _, dx, _, rfl, upd_same, T.cl_House, T.na_House_letter_size, lenL (lenB (n := 0) (Nat.le_refl _)), ?_⟩
    dsimp only
    refine s_fldS ?_
    walk_at "s"
    have hRp : R ≠ p := fun e => by rw [e, hp] at hR; cases hR
    have hR5 : (upd (upd H3 p (.ins (gA K "House") dx (putF "hand_size" (.int (g.hs : Int)) []))) p (.ins (gA K "House") dx (putF "letter_size" (.int (g.ls : Int)) (putF "hand_size" (.int (g.hs : Int)) [])))) R = some (.lst xs) := by
      rw [upd_ne hRp, upd_ne hRp]
      exact s3 _ _ hR
    refine s_iLc (SqL.of hR5) ?_
    have hL5 : HdL (upd (upd H3 p (.ins (gA K "House") dx (putF "hand_size" (.int (g.hs : Int)) []))) p (.ins (gA K "House") dx (putF "letter_size" (.int (g.ls : Int)) (putF "hand_size" (.int (g.hs : Int)) [])))) xs (g.rows.map rwD) := hdL_x (HdL.to hL s3) fun b u hb hu => by
      have hbp : b ≠ p := fun e => by
        rw [e, hp3] at hu
        cases hu
        cases hb
      rw [upd_ne hbp, upd_ne hbp]
      exact hu
    generalize hH5 : upd (upd H3 p (.ins (gA K "House") dx (putF "hand_size" (.int (g.hs : Int)) []))) p (.ins (gA K "House") dx (putF "letter_size" (.int (g.ls : Int)) (putF "hand_size" (.int (g.hs : Int)) []))) = H5 at hR5 hL5
    have hp5 : H5 p = some (.ins (gA K "House") dx (putF "letter_size" (.int (g.ls : Int)) (putF "hand_size" (.int (g.hs : Int)) []))) := by rw [← hH5, upd_same]
    have sX5 : SameX p H H5 := fun b u hb hu => by rw [← hH5, upd_ne hb, upd_ne hb]; exact s3 _ _ hu
    obtain ⟨as, rfl, eA, hA⟩ := hL5.zip
    have lA : as.length = g.n := by rw [List.length_map] at hl; exact hl
    refine lc_tups (hs := g.hs) (ls := g.ls) as walk_list (by omega) (fun H' s' => SqL.of (s' _ _ hR5)) hA (fun q hq => ?_) (Nat.lt_of_lt_of_le (by decide : 5 < 6) (Nat.le_of_ble_eq_true rfl)) fun L H6 acc hLn s6 hL6 hH nh1 => ?_
    · have : q.2 ∈ g.rows.map rwD := by rw [eA]; exact List.mem_map.mpr ⟨q, hq, rfl⟩
      obtain ⟨c, hc, e⟩ := List.mem_map.mp this
      rw [← e]
      exact isCpl_rwD (o.rng c hc).1 (o.rng c hc).2
    have ecs : as.map (fun p => cpOf p.2) = g.rows := by
      rw [show as.map (fun p => cpOf p.2) = (as.map (·.2)).map cpOf by rw [List.map_map]; rfl, ← eA, List.map_map]
      conv => rhs; rw [← List.map_id g.rows]
      exact List.map_congr_left fun c _ => cpOf_rwD c
    rw [ecs] at hH
    refine s_kTupL hL6 fun t ht => ?_
    walk_at "s"
    have hp6 := get_up (u := HO.tup acc) (s6 _ _ hp5) ht
    refine ⟨p, _, dx, _, rfl, hp6, T.cl_House, T.na_House_rows, lenL (lenB (lenB (n := 0) (Nat.le_refl _))), ?_⟩
    have htp2 : t ≠ p := fun e => by rw [e, s6 _ _ hp5] at ht; cases ht
    refine q _ (fun b u hb hu => by rw [upd_ne hb]; exact get_up (s6 _ _ (sX5 b u hb hu)) ht) ⟨o, dx, _, t, upd_same, rfl, rfl, rfl, ?_⟩
    refine .tup (by rw [upd_ne htp2]; exact upd_same) (hdL_x (hH.to (L2.Same.up (o := HO.tup acc) ht)) fun b u hb hu => ?_)
    have hbp : b ≠ p := fun e => by
      rw [e, hp6] at hu
      cases hu
      cases hb
    rw [upd_ne hbp]
    exact hu
theorem m_House (T : TX K mg) : MkC (L2.CX P w) P w K mg base 3 "House" (gA K "House") (sp_House__init__ K) [] := by
  obtain ⟨fd, F, G⟩ := fn_mk T.f_House__init__ sc_House__init__ (fun vs H Q E h => by obtain ⟨p, dx, R, g, xs, rfl, _⟩ := h; rfl) (k_House__init__ (P := P) (w := w) (base := base) T)
  exact ⟨_, fd, _, [], T.mk_House, G, T.g_House, F.bindsN fun _ _ _ _ _ _ us hl => match us, hl with | [_, _, _, _], _ => rfl, .nil⟩
end

end K53
namespace K53
open PySem PySem.Spec PyProof.Rows L2
/-! ### the drawing hand -/
def HandO (H : Hp) (x c : Addr) : Prop := ∃ cells, ∃ i z t : Nat, H x = some (.lst [.ref c, .int (i : Int), .int (z : Int), .int (t : Int)]) ∧ H c = some (.lst (ivs cells)) ∧ t < 2147483563
theorem HandO.up {H : Hp} {x c D : Addr} {o : HO} (h : HandO H x c) (h1 : x ≠ D) (h2 : c ≠ D) : HandO (upd H D o) x c := by
  obtain ⟨cells, i, z, t, a, b, e⟩ := h
  exact ⟨cells, i, z, t, by rw [upd_ne h1]; exact a, by rw [upd_ne h2]; exact b, e⟩
theorem HandO.ne {H : Hp} {x c D : Addr} (h : HandO H x c) (n : H D = none) : x ≠ D ∧ c ≠ D := by
  obtain ⟨cells, i, z, t, a, b, e⟩ := h
  exact ⟨fun e => (by rw [e, n] at a; cases a), fun e => (by rw [e, n] at b; cases b)⟩
theorem HandO.to {H H' : Hp} {x c : Addr} (h : HandO H x c) (s : Same H H') : HandO H' x c := by
  obtain ⟨cells, i, z, t, a, b, e⟩ := h
  exact ⟨cells, i, z, t, s _ _ a, s _ _ b, e⟩
theorem HandO.upN {H : Hp} {x c D : Addr} {o : HO} (h : HandO H x c) (n : H D = none) : HandO (upd H D o) x c := h.up (h.ne n).1 (h.ne n).2
theorem nh_ivs : ∀ ns : List Nat, nh (ivs ns) = true
  | [] => rfl
  | _ :: _ => rfl
section
variable {K : PySem.W.Frag} {H : Hp} {Q : VK}
theorem s_addI {a b : Int} (q : Q (.int (a + b)) H) : rI0 (fun i j => .int (i + j)) (.int a) (.int b) H Q := ⟨_, _, rfl, rfl, q⟩
theorem s_mulC {a b : Nat} (h : b < 1000000000000000000) (q : Q (.int ((a * b : Nat) : Int)) H) : rI CMul (fun i j => .int (i * j)) (.int (a : Int)) (.int (b : Int)) H Q := ⟨_, _, rfl, rfl, .inr ⟨by omega, by omega⟩, q⟩
theorem s_mulI {a : Int} {b : Nat} (h : b < 1000000000000000000) (q : Q (.int (a * (b : Int))) H) : rI CMul (fun i j => .int (i * j)) (.int a) (.int (b : Int)) H Q := ⟨_, _, rfl, rfl, .inr ⟨by omega, by omega⟩, q⟩
theorem s_modC {a : Int} {b : Nat} (h : 0 < b) (q : ∀ r : Nat, r < b → Q (.int (r : Int)) H) : rI (fun _ j => 0 < j) (fun i j => .int (i % j)) (.int a) (.int (b : Int)) H Q := by
  have h1 := Int.emod_nonneg a (b := (b : Int)) (by omega)
  have h2 := Int.emod_lt_of_pos a (b := (b : Int)) (by omega)
  refine ⟨_, _, rfl, rfl, by omega, ?_⟩
  have := q (a % (b : Int)).toNat (by omega)
  rw [show (((a % (b : Int)).toNat : Nat) : Int) = a % (b : Int) by omega] at this
  exact this
theorem s_abs {a : Int} (q : ∀ r : Nat, Q (.int (r : Int)) H) : rAbs [.int a] H Q := ⟨a, rfl, by
  have := q (if a < 0 then -a else a).toNat
  rw [show (((if a < 0 then -a else a).toNat : Nat) : Int) = if a < 0 then -a else a by split <;> omega] at this
  exact this⟩
theorem s_pow {a b : Nat} (ha : a < 1000000) (hb : b ≤ 1000) (q : Q (.int ((a ^ b : Nat) : Int)) H) : rI CPow (fun i j => .int (i ^ j.toNat)) (.int (a : Int)) (.int (b : Int)) H Q :=
  ⟨_, _, rfl, rfl, ⟨by omega, by omega, by rw [Int.natAbs_natCast]; exact Nat.lt_of_lt_of_le ha (by decide)⟩, by
    dsimp only
    rw [Int.toNat_natCast, ← Int.natCast_pow]
    exact q⟩
theorem s_setL {l : Addr} {xs : List V} {j : Nat} {v : V} {Z : Hp → Prop} (hl : H l = some (.lst xs)) (hj : j < xs.length) (k : Z (upd H l (.lst (xs.set j v)))) : rSetL (.ref l) (.int (j : Int)) v H Z :=
  ⟨l, xs, _, j, rfl, rfl, hl, by unfold ixN; rw [if_pos (by omega), if_pos (by omega), Int.toNat_natCast], k⟩
end
theorem s_divW {a b : Nat} (h : 0 < b) (h2 : b < 10000000000000) (q : Q (.int ((a / b : Nat) : Int)) H) : rI CDivW (fun i j => .int (i / j)) (.int (a : Int)) (.int (b : Int)) H Q :=
  ⟨_, _, rfl, rfl, wide_div (b := 48) (by omega) (by rw [Int.natAbs_natCast]; omega) (by decide) (by decide), q⟩
theorem tyL {K : PySem.W.Frag} {H : Hp} {p : Addr} {xs : List V} (h : H p = some (.lst xs)) : tyV K "list" (.ref p) H := .inl ⟨rfl, xs, SqL.of h⟩
theorem s_gsub {to ti : TE} {t : TSet} {σ : L2.St} {H : Hp} {v : V} {Z : L2.St → Hp → Prop} (h : to σ H fun o H1 => ti σ H1 fun i H2 => t o i v H2 fun H3 => Z σ H3) : gSub to ti t v σ H Z := h
theorem ivs_snoc (ns : List Nat) (r : Nat) : ivs ns ++ [.int (r : Int)] = ivs (ns ++ [r]) := by unfold ivs; rw [List.map_append]; rfl
theorem ivs_len (ns : List Nat) : (ivs ns).length = ns.length := by unfold ivs; rw [List.length_map]
theorem ivs_at {ns : List Nat} {i : Nat} (h : i < ns.length) : (ivs ns)[i]? = some (.int ((ns[i]) : Nat)) := by unfold ivs; rw [List.getElem?_map, List.getElem?_eq_getElem h]; rfl
abbrev N__law_mixed : List Str := ["_law_number", "_law_turn", "_law_once", "_law_twice"]
theorem sc__law_mixed : FnScope N__law_mixed ["_law_number", "_law_turn"] (defScope s__law_mixed) := C8.fnScope_by (by decide +kernel)
abbrev N__law_hand : List Str := ["_law_script", "_law_total", "_law_cells", "_law_cell"]
theorem sc__law_hand : FnScope N__law_hand ["_law_script"] (defScope s__law_hand) := C8.fnScope_by (by decide +kernel)
abbrev N__law_take : List Str := ["_law_hand_here", "_law_many", "_law_cell", "_law_rest"]
theorem sc__law_take : FnScope N__law_take ["_law_hand_here", "_law_many"] (defScope s__law_take) := C8.fnScope_by (by decide +kernel)
def sp_mixed : Sp := fun vs H Q _ => ∃ a b : Nat, vs = [.int (a : Int), .int (b : Int)] ∧ a < 1000000000000 ∧ ∀ r : Nat, Q (.int (r : Int)) H
def sp_hand : Sp := fun vs H Q _ => ∃ s, ∃ is : List Int, vs = [.ref s] ∧ H s = some (.lst (is.map V.int)) ∧ is.length ≤ 100000 ∧ ∀ x c H', Same H H' → HandO H' x c → Q (.ref x) H'
def sp_take : Sp := fun vs H Q _ => ∃ x c, ∃ m : Nat, vs = [.ref x, .int (m : Int)] ∧ HandO H x c ∧ 0 < m ∧ m < 10000000000000 ∧ ∀ r H', r < m → SameS H H' → HandO H' x c → Q (.int ((r : Nat) : Int)) H'
section
variable {P : Program} {w : World} {K : PySem.W.Frag} {mg : Str → Option Value} {base : Heap}
theorem k__law_mixed (T : TX K mg) : Keeps (L2.CX P w) P w K mg base d__law_mixed N__law_mixed 0 sp_mixed := by
  intro cdv A outer s H vs Q E hr hsp
  obtain ⟨a, b, rfl, ha, q⟩ := hsp
  have nd := sc__law_mixed.nd
  have hu := hu_of hr
  have hu64 := hr.units
  refine ⟨_, (pss_cons (ps_set (i := 2) nd rfl (Or.inl rfl) (pe_op op_mod (pe_callTy call_int1K (by rfl) T.b_int (by decide +kernel) (pa_cons (pe_op op_add (pe_op op_add (pe_op op_mul (pv 0) pe_int) (pe_op op_mul (pv 1) pe_int)) pe_int) pa_nil)) pe_int))
  (pss_cons (ps_set (i := 3) nd rfl (Or.inl rfl) (pe_op op_mod (pe_callTy call_int1K (by rfl) T.b_int (by decide +kernel) (pa_cons (pe_op op_add (pe_op op_add (pe_op op_mul (pv 2) (pv 2)) (pe_op op_mul (pv 1) pe_int)) (pe_op op_fdivW (pv 2) pe_int)) pa_nil)) pe_int))
  (pss_one (ps_ret (pe_op op_fdivW (pe_callTy call_int1K (by rfl) T.b_int (by decide +kernel) (pa_cons (pe_op op_mod (pe_callTy call_int1K (by rfl) T.b_int (by decide +kernel) (pa_cons (pe_op op_add (pe_op op_mul (pv 3) pe_int) (pe_op op_fdivW (pv 2) pe_int)) pa_nil)) pe_int) pa_nil)) pe_int))))), ?_⟩
  refine st_eq (σ := [some (.int (a : Int)), some (.int (b : Int)), none, none]) rfl ?_
  walk_at "s"
  refine s_mulC (b := 40692) (by decide) ?_
  walk_at "s"
  refine s_mulC (b := 8117) (by decide) ?_
  walk_at "s"
  refine s_modC (b := 2147483399) (by decide) fun o ho => ?_
  walk_at "s"
  refine s_mulN (by omega) ?_
  walk_at "s"
  refine s_mulC (b := 104717) (by decide) ?_
  walk_at "s"
  refine s_divN (b := 127) (by decide) (by decide) ?_
  walk_at "s"
  refine s_modC (b := 2147483629) (by decide) fun o2 ho2 => ?_
  walk_at "s"
  refine s_mulC (b := 16807) (by decide) ?_
  walk_at "s"
  refine s_divN (b := 11) (by decide) (by decide) ?_
  walk_at "s"
  refine s_modC (b := 2147483587) (by decide) fun o3 ho3 => ?_
  walk_at "s"
  refine s_divN (b := 32) (by decide) (by decide) ?_
  exact q _
theorem c__law_mixed (T : TX K mg) : Cal (L2.CX P w) P w K mg base 1 "_law_mixed" sp_mixed [] :=
  cal_mk T.f__law_mixed T.g__law_mixed ⟨rfl, rfl⟩ (fun _ _ _ _ _ _ us hl => match us, hl with | [_, _], _ => rfl) sc__law_mixed (fun vs H Q E h => by obtain ⟨a, b, rfl, _⟩ := h; rfl) (k__law_mixed T)
theorem k__law_hand (T : TX K mg) : Keeps (L2.CX P w) P w K mg base d__law_hand N__law_hand 0 sp_hand := by
  intro cdv A outer s H vs Q E hr hsp
  obtain ⟨x, xs, rfl, hx, hl, q⟩ := hsp
  have nd := sc__law_hand.nd
  have hu := hu_of hr
  have hu64 := hr.units
  refine ⟨_, (pss_cons (ps_set (i := 1) nd rfl (Or.inl rfl) (pe_op op_add (pe_callB (call_lenK (K := K) rfl) (by rfl) T.b_len PySem.boot_len (pa_cons (pv 0) pa_nil)) pe_int))
  (pss_cons (ps_set (i := 2) nd rfl (Or.inl rfl) (pe_lst pa_nil))
  (pss_cons (ps_for (passes_of rfl) rfl (pi_listK (K := K) rfl (pv 0)) (pg_name (i := 3) nd rfl (Or.inl rfl)) (pss_cons (ps_set (i := 1) nd rfl (Or.inl rfl) (pe_op op_mod (pe_callTy call_int1K (by rfl) T.b_int (by decide +kernel) (pa_cons (pe_op op_add (pe_op op_mul (pv 1) pe_int) (pe_callTy call_int1K (by rfl) T.b_int (by decide +kernel) (pa_cons (pv 3) pa_nil))) pa_nil)) pe_int))
  (pss_one (ps_expr (pe_bmK (K := K) rfl PySem.F.plainAttrs_list PySem.F.slot_list_append PySem.F.type_list_append mt_append (pv 2) (pa_cons (pe_callB call_absK (by rfl) T.b_abs (by decide +kernel) (pa_cons (pe_callTy call_int1K (by rfl) T.b_int (by decide +kernel) (pa_cons (pv 3) pa_nil)) pa_nil)) pa_nil))))))
  (pss_one (ps_ret (pe_lst (pa_cons (pv 2) (pa_cons pe_int (pa_cons pe_int (pa_cons (pv 1) pa_nil)))))))))), ?_⟩
  refine st_eq (σ := [some (.ref x), none, none, none]) rfl ?_
  walk_at "s"
  refine s_lenL hx ?_
  rw [List.length_map]
  walk_at "s"
  refine s_tl (by decide) fun c hc => ?_
  walk_at "s"
  have hcx : x ≠ c := fun e => by rw [e, hc] at hx; cases hx
  refine s_iLf (SqL.of ((L2.Same.up hc) _ _ hx)) ?_
  refine for_f (u := V.int) xs walk_list (by rw [List.length_map]) (fun i σ H2 => ∃ (a : Int) (ns : List Nat) (v : Option V), σ = [some (.ref x), some (.int a), some (.ref c), v] ∧ H2 c = some (.lst (ivs ns)) ∧ ns.length = i ∧ SameX c H H2 ∧ (i ≠ 0 → 0 ≤ a ∧ a < 2147483563) ∧ (i = 0 → a = (xs.length : Int) + 71)) ⟨_, [], _, rfl, upd_same, rfl, fun b u hb hu => by rw [upd_ne hb]; exact hu, fun h => absurd rfl h, fun _ => rfl⟩ (fun i σ H2 hP => ?_) (fun i a σ H2 ha hP => ?_) (fun σ H2 hP => ?_)
  · obtain ⟨a, ns, v, rfl, h1, h2, h3, h4, h5⟩ := hP
    exact SqL.of (h3 _ _ hcx hx)
  · obtain ⟨t, ns, v, rfl, h1, h2, h3, h4, h5⟩ := hP
    have hi := (List.getElem?_eq_some_iff.mp ha).1
    walk_at "s"
    refine s_mulI (b := 1033) (by decide) ?_
    walk_at "s"
    refine s_modC (b := 2147483563) (by decide) fun o ho => ?_
    walk_at "s"
    refine ⟨tyL h1, ?_⟩
    walk_at "s"
    refine s_abs fun r => ?_
    refine ⟨c, _, _, rfl, rfl, h1, sz16l (by rw [ivs_len, h2]; omega), ?_⟩
    rw [ivs_snoc]
    exact ⟨_, _, _, rfl, upd_same, by rw [List.length_append, h2]; rfl, fun b u hb hu => by rw [upd_ne hb]; exact h3 b u hb hu, fun _ => ⟨by omega, by omega⟩, fun h => by omega⟩
  · obtain ⟨t, ns, v, rfl, h1, h2, h3, h4, h5⟩ := hP
    walk_at "s"
    refine s_tl (Nat.le_of_ble_eq_true rfl) fun y hy => ?_
    have hyc : c ≠ y := fun e => by rw [e, hy] at h1; cases h1
    have ht : 0 ≤ t ∧ t < 2147483563 := by
      by_cases e : xs.length = 0
      · have := h5 e
        omega
      · exact h4 e
    refine q _ c _ (fun b u hu => get_up (h3 b u (fun e => by rw [e, hc] at hu; cases hu) hu) hy) ⟨ns, 0, 0, t.toNat, ?_, by rw [upd_ne hyc]; exact h1, by omega⟩
    rw [upd_same, show ((t.toNat : Nat) : Int) = t by omega]
    rfl
theorem k__law_take (T : TX K mg) : Keeps (L2.CX P w) P w K mg base d__law_take N__law_take 1 sp_take := by
  intro cdv A outer s H vs Q E hr hsp
  obtain ⟨x, c, m, rfl, ⟨cells, i, z, t, hx, hc, ht⟩, hm, hm2, q⟩ := hsp
  have nd := sc__law_take.nd
  have hu := hu_of hr
  have hu64 := hr.units
  refine ⟨_, (C8.pss_cut (ps_if (PW.pt (pw_and (pt_cmpR op_eq (pe_ix (ix_listK (K := K) rfl) (pv 0) pe_int (fun _ _ => rfl)) pe_int (nomark _)) (pw_and1 (pt_cmpR op_lt (pe_ix (ix_listK (K := K) rfl) (pv 0) pe_int (fun _ _ => rfl)) (pe_callB (call_lenK (K := K) rfl) (by rfl) T.b_len PySem.boot_len (pa_cons (pe_ix (ix_listK (K := K) rfl) (pv 0) pe_int (fun _ _ => rfl)) pa_nil)) (nomark _))))) (pss_cons (ps_set (i := 2) nd rfl (Or.inl rfl) (pe_ix (ix_listK (K := K) rfl) (pe_ix (ix_listK (K := K) rfl) (pv 0) pe_int (fun _ _ => rfl)) (pe_ix (ix_listK (K := K) rfl) (pv 0) pe_int (fun _ _ => rfl)) (fun _ _ => rfl)))
  (pss_cons (ps_asg (pe_op op_add (pe_ix (ix_listK (K := K) rfl) (pv 0) pe_int (fun _ _ => rfl)) pe_int) (pg_sub (pv 0) pe_int set_list))
  (pss_cons (ps_if (pt_cmpR op_lt (pv 2) (pe_op op_pow pe_int pe_int) (nomark _)) (pss_one (ps_ret (pe_op op_mod (pe_callTy call_int1K (by rfl) T.b_int (by decide +kernel) (pa_cons (pe_cl (c__law_mixed T) hr (by decide) (pa_cons (pe_op op_mod (pe_callTy call_int1K (by rfl) T.b_int (by decide +kernel) (pa_cons (pv 2) pa_nil)) pe_int) (pa_cons (pe_ix (ix_listK (K := K) rfl) (pv 0) pe_int (fun _ _ => rfl)) pa_nil)) passL) pa_nil)) (pv 1)))) pss_nil)
  (pss_one (ps_asg (pv 2) (pg_sub (pv 0) pe_int set_list)))))) pss_nil)
  (pss_cons (ps_if (pt_cmpR op_gt (pe_ix (ix_listK (K := K) rfl) (pv 0) pe_int (fun _ _ => rfl)) pe_int (nomark _)) (pss_cons (ps_set (i := 3) nd rfl (Or.inl rfl) (pe_ix (ix_listK (K := K) rfl) (pv 0) pe_int (fun _ _ => rfl)))
  (pss_cons (ps_asg (pe_op op_fdivW (pe_callTy call_int1K (by rfl) T.b_int (by decide +kernel) (pa_cons (pv 3) pa_nil)) (pv 1)) (pg_sub (pv 0) pe_int set_list))
  (pss_one (ps_ret (pe_op op_mod (pe_callTy call_int1K (by rfl) T.b_int (by decide +kernel) (pa_cons (pv 3) pa_nil)) (pv 1)))))) pss_nil)
  (pss_cons (ps_asg (pe_op op_mod (pe_callTy call_int1K (by rfl) T.b_int (by decide +kernel) (pa_cons (pe_op op_add (pe_ix (ix_listK (K := K) rfl) (pv 0) pe_int (fun _ _ => rfl)) pe_int) pa_nil)) pe_int) (pg_sub (pv 0) pe_int set_list))
  (pss_one (ps_ret (pe_op op_mod (pe_callTy call_int1K (by rfl) T.b_int (by decide +kernel) (pa_cons (pe_cl (c__law_mixed T) hr (by decide) (pa_cons (pe_ix (ix_listK (K := K) rfl) (pv 0) pe_int (fun _ _ => rfl)) (pa_cons (pe_ix (ix_listK (K := K) rfl) (pv 0) pe_int (fun _ _ => rfl)) pa_nil)) passL) pa_nil)) (pv 1))))))), ?_⟩
  refine st_eq (σ := [some (.ref x), some (.int (m : Int)), none, none]) rfl ?_
  refine s_cut (fun σ' H' => ∃ y1 y2 cells, ∃ i z t : Nat, σ' = [some (.ref x), some (.int (m : Int)), y1, y2] ∧ H' x = some (.lst [.ref c, .int (i : Int), .int (z : Int), .int (t : Int)]) ∧ H' c = some (.lst (ivs cells)) ∧ t < 2147483563 ∧ SameS H H') ?_ fun σ' H' hM => ?_
  · walk_at "s"
    refine s_ixL2 (SqL.of hx) ?_
    walk_at "s"
    refine s_iteD (fun e => ?_) (fun e => ?_)
    · walk_at "s"
      refine s_ixL1 (SqL.of hx) ?_
      walk_at "s"
      refine s_ixL0 (SqL.of hx) ?_
      walk_at "s"
      refine s_lenL hc ?_
      walk_at "s"
      rw [ivs_len]
      refine s_iteD (fun hi => ?_) (fun hi => ?_)
      · walk_at "s"
        refine s_ixL0 (SqL.of hx) ?_
        walk_at "s"
        refine s_ixL1 (SqL.of hx) ?_
        refine s_ixL (SqL.of hc) (ivs_at hi) ?_
        walk_at "s"
        refine s_ixL1 (SqL.of hx) ?_
        walk_at "s"
        refine s_gsub ?_
        walk_at "s"
        refine s_setL (j := 1) hx (Nat.lt_of_lt_of_le (by decide : 1 < 4) (Nat.le_refl _)) ?_
        have hx2 := fun o => upd_same (H := H) (a := x) (o := o)
        have sS : SameS H (upd H x (.lst [.ref c, .int ((i + 1 : Nat) : Int), .int (z : Int), .int (t : Int)])) := SameS.hand hx rfl
        have hc2 := sS _ (.lst (ivs cells)) (nh_ivs cells) hc
        walk_at "s"
        refine s_pow (a := 10) (b := 18) (by decide) (by decide) ?_
        walk_at "s"
        refine s_iteD (fun e2 => ?_) (fun e2 => ?_)
        · walk_at "s"
          refine s_modC (b := 2147483399) (by decide) fun o ho => ?_
          walk_at "s"
          refine s_ixL1 (SqL.of upd_same) ?_
          walk_at "s"
          refine ⟨o, i + 1, rfl, by omega, fun r => ?_⟩
          walk_at "s"
          refine s_modN hm ?_
          exact q _ _ (Nat.mod_lt _ hm) sS ⟨cells, i + 1, z, t, upd_same, hc2, ht⟩
        · walk_at "s"
          refine s_gsub ?_
          walk_at "s"
          refine s_setL (j := 2) upd_same (Nat.lt_of_lt_of_le (by decide : 2 < 4) (Nat.le_refl _)) ?_
          refine ⟨_, _, cells, i + 1, _, t, rfl, upd_same, ?_, ht, ?_⟩
          · exact (SameS.hand (xs := [.ref c, .int ((i + 1 : Nat) : Int), .int (z : Int), .int (t : Int)]) upd_same rfl) _ (.lst (ivs cells)) (nh_ivs cells) hc2
          · exact sS.trans (SameS.hand (xs := [.ref c, .int ((i + 1 : Nat) : Int), .int (z : Int), .int (t : Int)]) upd_same rfl)
      · walk_at "s"
        exact ⟨_, _, cells, i, z, t, rfl, hx, hc, ht, SameS.refl _⟩
    · walk_at "s"
      exact ⟨_, _, cells, i, z, t, rfl, hx, hc, ht, SameS.refl _⟩
  · obtain ⟨y1, y2, cells, i, z, t, rfl, hx, hc, ht, s0⟩ := hM
    walk_at "s"
    refine s_ixL2 (SqL.of hx) ?_
    walk_at "s"
    refine s_iteD (fun e => ?_) (fun e => ?_)
    · walk_at "s"
      refine s_ixL2 (SqL.of hx) ?_
      walk_at "s"
      refine s_divW hm hm2 ?_
      walk_at "s"
      refine s_gsub ?_
      walk_at "s"
      refine s_setL (j := 2) hx (Nat.lt_of_lt_of_le (by decide : 2 < 4) (Nat.le_refl _)) ?_
      walk_at "s"
      refine s_modN hm ?_
      have s1 := SameS.hand (o := .lst [.ref c, .int (i : Int), .int ((z / m : Nat) : Int), .int (t : Int)]) hx rfl
      exact q _ _ (Nat.mod_lt _ hm) (s0.trans s1) ⟨cells, i, z / m, t, upd_same, s1 _ (.lst (ivs cells)) (nh_ivs cells) hc, ht⟩
    · walk_at "s"
      refine s_ixL3 (SqL.of hx) ?_
      walk_at "s"
      refine s_modC (b := 2147483563) (by decide) fun o ho => ?_
      walk_at "s"
      refine s_gsub ?_
      walk_at "s"
      refine s_setL (j := 3) hx (Nat.lt_of_lt_of_le (by decide : 3 < 4) (Nat.le_refl _)) ?_
      walk_at "s"
      refine s_ixL3 (SqL.of upd_same) ?_
      walk_at "s"
      refine s_ixL1 (SqL.of upd_same) ?_
      walk_at "s"
      refine ⟨o, i, rfl, by omega, fun r => ?_⟩
      walk_at "s"
      refine s_modN hm ?_
      have s1 := SameS.hand (o := .lst [.ref c, .int (i : Int), .int (z : Int), .int (o : Int)]) hx rfl
      exact q _ _ (Nat.mod_lt _ hm) (s0.trans s1) ⟨cells, i, z, o, upd_same, s1 _ (.lst (ivs cells)) (nh_ivs cells) hc, ho⟩
theorem c__law_hand (T : TX K mg) : Cal (L2.CX P w) P w K mg base 1 "_law_hand" sp_hand [] :=
  cal_mk T.f__law_hand T.g__law_hand ⟨rfl, rfl⟩ (fun _ _ _ _ _ _ us hl => match us, hl with | [_], _ => rfl) sc__law_hand (fun vs H Q E h => by obtain ⟨s, xs, rfl, _⟩ := h; rfl) (k__law_hand T)
theorem c__law_take (T : TX K mg) : Cal (L2.CX P w) P w K mg base 2 "_law_take" sp_take [] :=
  cal_mk T.f__law_take T.g__law_take ⟨rfl, rfl⟩ (fun _ _ _ _ _ _ us hl => match us, hl with | [_, _], _ => rfl) sc__law_take (fun vs H Q E h => by obtain ⟨x, c, m, rfl, _⟩ := h; rfl) (k__law_take T)
end

end K53
namespace K53
open PySem PySem.Spec PyProof.Rows L2
/-! ### the house that is drawn -/
def TupsAt (H : Hp) (vs : List V) (cs : List (Nat × Nat)) : Prop := vs.length = cs.length ∧ ∀ (j : Nat) (c : Nat × Nat), cs[j]? = some c → ∃ t : Addr, vs[j]? = some (.ref t) ∧ H t = some (.tup [.int (c.1 : Int), .int (c.2 : Int)])
theorem TupsAt.mono {H H' : Hp} {vs : List V} {cs : List (Nat × Nat)} (h : TupsAt H vs cs) (s : ∀ t xs, H t = some (.tup xs) → H' t = some (.tup xs)) : TupsAt H' vs cs :=
  ⟨h.1, fun j c e => by obtain ⟨t, a, b⟩ := h.2 j c e; exact ⟨t, a, s _ _ b⟩⟩
theorem TupsAt.snoc {H : Hp} {vs : List V} {cs : List (Nat × Nat)} {t : Addr} {c : Nat × Nat} (h : TupsAt H vs cs) (ht : H t = some (.tup [.int (c.1 : Int), .int (c.2 : Int)])) : TupsAt H (vs ++ [.ref t]) (cs ++ [c]) := by
  refine ⟨by rw [List.length_append, List.length_append, h.1]; rfl, fun j c' e => ?_⟩
  by_cases hj : j < cs.length
  · rw [List.getElem?_append_left hj] at e
    obtain ⟨t', a, b⟩ := h.2 j c' e
    exact ⟨t', by rw [List.getElem?_append_left (by have := h.1; omega)]; exact a, b⟩
  · rw [List.getElem?_append_right (by omega)] at e
    have h1 := (List.getElem?_eq_some_iff.mp e).1
    have hj2 : j - cs.length = 0 := by
      have : j - cs.length < 1 := h1
      omega
    rw [hj2] at e
    have e := Option.some.inj e
    subst e
    refine ⟨t, ?_, ht⟩
    rw [List.getElem?_append_right (by have := h.1; omega), h.1, hj2]
    rfl
theorem TupsAt.hdl {H : Hp} : ∀ {vs : List V} {cs : List (Nat × Nat)}, TupsAt H vs cs → HdL H vs (cs.map cpD)
  | [], [], _ => .nil
  | [], _ :: _, h => by cases h.1
  | _ :: _, [], h => by cases h.1
  | v :: vs, c :: cs, h => by
    obtain ⟨t, a, b⟩ := h.2 0 c rfl
    have a : v = .ref t := Option.some.inj a
    subst a
    exact .cons (.tup b (.cons (.int _) (.cons (.int _) .nil))) (TupsAt.hdl ⟨by have := h.1; simpa using this, fun j c' e => h.2 (j + 1) c' e⟩)
theorem TupsAt.nh {H : Hp} : ∀ {vs : List V} {cs : List (Nat × Nat)}, TupsAt H vs cs → K53.nh vs = true
  | [], _, _ => rfl
  | [_], _, _ => by unfold K53.nh; split <;> first | rfl | (rename_i h; cases h)
  | [_, _], _, _ => by unfold K53.nh; split <;> first | rfl | (rename_i h; cases h)
  | [_, _, _], _, _ => by unfold K53.nh; split <;> first | rfl | (rename_i h; cases h)
  | _ :: _ :: _ :: _ :: _ :: _, _, _ => by unfold K53.nh; split <;> first | rfl | (rename_i h; cases h)
  | [a, b, c, d], [x, y, z, u], h => by
    obtain ⟨t, e, _⟩ := h.2 1 y rfl
    have e : b = .ref t := Option.some.inj e
    subst e
    unfold K53.nh
    split <;> first | rfl | (rename_i h; cases h)
  | [_, _, _, _], [], h => by cases h.1
  | [_, _, _, _], [_], h => by cases h.1
  | [_, _, _, _], [_, _], h => by cases h.1
  | [_, _, _, _], [_, _, _], h => by cases h.1
  | [_, _, _, _], _ :: _ :: _ :: _ :: _ :: _, h => by have := h.1; simp at this
def hoD (g : Hou) : PyData := .list [.int (g.hs : Int), .int (g.ls : Int), .list (g.rows.map cpD)]
structure LHo (H : Hp) (y : Addr) (g : Hou) : Prop where
  ok : g.Ok
  at_ : ∃ R Rs, H y = some (.lst [.int (g.hs : Int), .int (g.ls : Int), .ref R]) ∧ H R = some (.lst Rs) ∧ K53.nh Rs = true ∧ HdL H Rs (g.rows.map cpD)
theorem LHo.toS {H H' : Hp} {y : Addr} {g : Hou} (h : LHo H y g) (s : SameS H H') : LHo H' y g :=
  ⟨h.ok, let ⟨R, Rs, a, b, c, d⟩ := h.at_; ⟨R, Rs, s _ (.lst [.int (g.hs : Int), .int (g.ls : Int), .ref R]) rfl a, s _ (.lst Rs) c b, c, d.toS s⟩⟩
theorem LHo.to {H H' : Hp} {y : Addr} {g : Hou} (h : LHo H y g) (s : Same H H') : LHo H' y g := h.toS s.toS
/-- ints drawn into a list -/
def NAcc (x c : Addr) (b : Nat) (H1 : Hp) (i : Nat) (acc : List V) (H : Hp) : Prop := ∃ ns, acc = ivs ns ∧ ns.length = i ∧ (∀ r ∈ ns, r < b) ∧ SameS H1 H ∧ HandO H x c
theorem na_put {x c D : Addr} {b i : Nat} {ns : List Nat} {H1 H H4 : Hp} {r : Nat} (hD : H1 D = none) (hh : HandO H1 x c) (e : H D = some (.lst (ivs ns))) (hl : ns.length = i) (hb : ∀ r ∈ ns, r < b) (s : SameS H1 H) (s4 : SameS H H4) (h4 : HandO H4 x c) (hr : r < b) (hi : i < 100000) :
    ∃ acc, H4 D = some (.lst acc) ∧ acc.length < sizeLine ∧ LcP D (NAcc x c b H1) (i + 1) (upd H4 D (.lst (acc ++ [.int (r : Int)]))) := by
  refine lc_put (s4 _ (.lst (ivs ns)) (nh_ivs ns) e) (by rw [ivs_len]; omega) hi ⟨ns ++ [r], ivs_snoc _ _, by rw [List.length_append, hl]; rfl, fun z hz => ?_, fun a o n h => ?_, h4.up (hh.ne hD).1 (hh.ne hD).2⟩
  · rcases List.mem_append.mp hz with hz | hz
    · exact hb z hz
    · rw [List.mem_singleton.mp hz]; exact hr
  · rw [upd_ne (ne_of_none h hD)]
    exact s4 _ _ n (s _ _ n h)
structure RsP (x c D D2 : Addr) (hs ls : Nat) (ns : List Nat) (H : Hp) (k : Nat) (H' : Hp) : Prop where
  at_ : ∃ acc cs, H' D = some (.lst acc) ∧ TupsAt H' acc cs ∧ cs.length = k ∧ ∀ r ∈ cs, r.1 < hs ∧ r.2 < ls
  sS : SameS H H'
  hh : HandO H' x c
  h2 : H' D2 = some (.lst (ivs ns))
theorem RsP.take {x c D D2 : Addr} {hs ls k : Nat} {ns : List Nat} {H H1 H2 : Hp} (h : RsP x c D D2 hs ls ns H k H1) (s : SameS H1 H2) (hh : HandO H2 x c) : RsP x c D D2 hs ls ns H k H2 := by
  obtain ⟨⟨acc, cs, a, b, e, f⟩, g, i, j⟩ := h
  exact ⟨⟨acc, cs, s _ (.lst acc) b.nh a, b.mono fun t xs z => s t (.tup xs) rfl z, e, f⟩, g.trans s, hh, s _ (.lst (ivs ns)) (nh_ivs ns) j⟩
theorem RsP.put {x c D D2 t : Addr} {hs ls k : Nat} {ns : List Nat} {H H1 : Hp} {i y : Nat} (h : RsP x c D D2 hs ls ns H k H1) (hD : H D = none) (hx : x ≠ D ∧ c ≠ D) (hD2 : D2 ≠ D) (hk : k < 1000) (hi : i < hs) (hy : y < ls)
    (ht : H1 t = none) : ∃ acc, (upd H1 t (.tup [.int (i : Int), .int (y : Int)])) D = some (.lst acc) ∧ acc.length < sizeLine ∧ RsP x c D D2 hs ls ns H (k + 1) (upd (upd H1 t (.tup [.int (i : Int), .int (y : Int)])) D (.lst (acc ++ [.ref t]))) := by
  obtain ⟨⟨acc, cs, a, b, e, f⟩, g, hh, j⟩ := h.take (L2.Same.up (o := HO.tup [.int (i : Int), .int (y : Int)]) ht).toS (h.hh.upN ht)
  refine ⟨acc, a, sz16l (by have := b.1; omega), ⟨⟨acc ++ [.ref t], cs ++ [(i, y)], upd_same, ?_, by rw [List.length_append, e]; rfl, fun r hr => ?_⟩, fun p o n z => ?_, hh.up hx.1 hx.2, by rw [upd_ne hD2]; exact j⟩⟩
  · refine (b.snoc (c := (i, y)) (t := t) upd_same).mono fun p xs z => ?_
    rw [upd_ne fun q => by rw [q, a] at z; cases z]
    exact z
  · rcases List.mem_append.mp hr with hr | hr
    · exact f r hr
    · rw [List.mem_singleton.mp hr]; exact ⟨hi, hy⟩
  · rw [upd_ne (ne_of_none z hD)]
    exact g p o n z
def RM (x c sz D D2 : Addr) (hs ls kind h z : Nat) (ns : List Nat) (H : Hp) (σ' : L2.St) (H' : Hp) : Prop := ∃ (i y : Nat) (v : Option V), σ' = [some (.ref x), some (.ref sz), some (.int (kind : Int)), some (.ref D), some (.ref D2), none, some (.int (h : Int)), some (.int (z : Int)), v, some (.int (i : Int)), some (.int (y : Int))] ∧ i < hs ∧ y < ls ∧ RsP x c D D2 hs ls ns H (h * ls + z) H'
abbrev N__law_house_rows : List Str := ["_law_hand_here", "_law_sizes", "_law_kind", "_law_rows", "_law_least", "_law_at", "_law_h", "_law_z", "_law_made", "_law_i", "_law_y"]
theorem sc__law_house_rows : FnScope N__law_house_rows ["_law_hand_here", "_law_sizes", "_law_kind"] (defScope s__law_house_rows) := C8.fnScope_by (by decide +kernel)
abbrev N__law_house : List Str := ["_law_hand_here", "_law_great", "_law_sizes"]
theorem sc__law_house : FnScope N__law_house ["_law_hand_here", "_law_great"] (defScope s__law_house) := C8.fnScope_by (by decide +kernel)
abbrev N__law_housed : List Str := ["_law_house_here", "_law_row"]
theorem sc__law_housed : FnScope N__law_housed ["_law_house_here"] (defScope s__law_housed) := C8.fnScope_by (by decide +kernel)
def sp_rows : Sp := fun vs H Q _ => ∃ x c sz, ∃ hs ls kind : Nat, vs = [.ref x, .ref sz, .int (kind : Int)] ∧ HandO H x c ∧ H sz = some (.tup [.int (hs : Int), .int (ls : Int)]) ∧ 2 ≤ hs ∧ hs ≤ 4 ∧ 2 ≤ ls ∧ ls ≤ 4 ∧
  ∀ R Rs cs H', cs.length = hs * ls → (∀ r ∈ cs, r.1 < hs ∧ r.2 < ls) → SameS H H' → HandO H' x c → H' R = some (.lst Rs) → TupsAt H' Rs cs → Q (.ref R) H'
def sp_house : Sp := fun vs H Q _ => ∃ x c, vs = [.ref x, .bl true] ∧ HandO H x c ∧ ∀ y g H', SameS H H' → HandO H' x c → LHo H' y g → Q (.ref y) H'
def sp_housed (K : PySem.W.Frag) : Sp := fun vs H Q _ => ∃ y g, vs = [.ref y] ∧ LHo H y g ∧ ∀ p H', Same H H' → HouO K H' p g → Q (.ref p) H'
section
variable {P : Program} {w : World} {K : PySem.W.Frag} {mg : Str → Option Value} {base : Heap}
theorem k__law_house_rows (T : TX K mg) : Keeps (L2.CX P w) P w K mg base d__law_house_rows N__law_house_rows 2 sp_rows := by
  intro cdv A outer s H vs Q E hr hsp
  obtain ⟨x, c, sz, hs, ls, kind, rfl, hh, hz, h2, h4, l2, l4, q⟩ := hsp
  have nd := sc__law_house_rows.nd
  have hu := hu_of hr
  have hu64 := hr.units
  refine ⟨_, (pss_cons (ps_set (i := 3) nd rfl (Or.inl rfl) (pe_lst pa_nil))
  (pss_cons (ps_setLc (i := 4) (own := [("_law_at", 5)]) (tt := tYes) rfl nd rfl rfl (sw_true rfl rfl rfl (by decide +kernel)) (pi_range1 (by rfl) T.b_range (pa_cons (pe_ix (ix_tupK (K := K) rfl) (pv 1) pe_int (fun _ _ => rfl)) pa_nil)) (blkOk_by (N := N__law_house_rows) (sc := (defScope s__law_house_rows)) (by decide +kernel)) (fun _ _ _ _ _ => (pg_name (i := 5) nd rfl (Or.inl rfl))) (fun _ _ _ _ _ => pts_nil) (fun _ _ _ _ _ => (pe_cl (c__law_take T) hr (by decide) (pa_cons (pv 0) (pa_cons (pe_ix (ix_tupK (K := K) rfl) (pv 1) pe_int (fun _ _ => rfl)) pa_nil)) passL)))
  (pss_cons (ps_for (passes_of rfl) rfl (pi_range1 (by rfl) T.b_range (pa_cons (pe_ix (ix_tupK (K := K) rfl) (pv 1) pe_int (fun _ _ => rfl)) pa_nil)) (pg_name (i := 6) nd rfl (Or.inl rfl)) (pss_one (ps_for (passes_of rfl) rfl (pi_range1 (by rfl) T.b_range (pa_cons (pe_ix (ix_tupK (K := K) rfl) (pv 1) pe_int (fun _ _ => rfl)) pa_nil)) (pg_name (i := 7) nd rfl (Or.inl rfl)) (pss_cons (ps_set (i := 8) nd rfl (Or.inl rfl) (pe_cl (c__law_take T) hr (by decide) (pa_cons (pv 0) (pa_cons (pe_op op_mul (pe_ix (ix_tupK (K := K) rfl) (pv 1) pe_int (fun _ _ => rfl)) (pe_ix (ix_tupK (K := K) rfl) (pv 1) pe_int (fun _ _ => rfl))) pa_nil)) passL))
  (pss_cons (ps_set (i := 9) nd rfl (Or.inl rfl) (pe_op op_fdivW (pv 8) (pe_ix (ix_tupK (K := K) rfl) (pv 1) pe_int (fun _ _ => rfl))))
  (pss_cons (ps_set (i := 10) nd rfl (Or.inl rfl) (pe_op op_mod (pe_callTy call_int1K (by rfl) T.b_int (by decide +kernel) (pa_cons (pv 8) pa_nil)) (pe_ix (ix_tupK (K := K) rfl) (pv 1) pe_int (fun _ _ => rfl))))
  (C8.pss_cut (ps_if (pt_cmpR op_eq (pv 2) pe_int (nomark _)) (pss_one (ps_set (i := 10) nd rfl (Or.inl rfl) (pe_ix (ix_listK (K := K) rfl) (pv 4) (pv 6) (fun _ _ => rfl)))) pss_nil)
  (C8.pss_cut (ps_if (pt_cmpR op_eq (pv 2) pe_int (nomark _)) (pss_cons (ps_set (i := 9) nd rfl (Or.inl rfl) (pe_callB (call_min2K rfl) (by rfl) T.b_min (by decide +kernel) (pa_cons (pe_op op_add (pv 6) (pe_cl (c__law_take T) hr (by decide) (pa_cons (pv 0) (pa_cons pe_int pa_nil)) passL)) (pa_cons (pe_op op_sub (pe_ix (ix_tupK (K := K) rfl) (pv 1) pe_int (fun _ _ => rfl)) pe_int) pa_nil))))
  (pss_one (ps_set (i := 10) nd rfl (Or.inl rfl) (pe_ifExp (pt_cmpR op_eq (pe_cl (c__law_take T) hr (by decide) (pa_cons (pv 0) (pa_cons pe_int pa_nil)) passL) pe_int (nomark _)) (pv 7) (pv 10))))) pss_nil)
  (C8.pss_cut (ps_if (pt_cmpR op_eq (pv 2) pe_int (nomark _)) (pss_one (ps_set (i := 10) nd rfl (Or.inl rfl) (pe_op op_mod (pe_callTy call_int1K (by rfl) T.b_int (by decide +kernel) (pa_cons (pe_op op_add (pe_op op_add (pv 7) pe_int) (pe_ix (ix_listK (K := K) rfl) (pv 4) pe_int (fun _ _ => rfl))) pa_nil)) (pe_ix (ix_tupK (K := K) rfl) (pv 1) pe_int (fun _ _ => rfl))))) pss_nil)
  (C8.pss_cut (ps_if (pt_cmpR op_eq (pv 2) pe_int (nomark _)) (pss_one (ps_set (i := 10) nd rfl (Or.inl rfl) (pe_op op_mod (pe_callTy call_int1K (by rfl) T.b_int (by decide +kernel) (pa_cons (pe_op op_add (pv 7) pe_int) pa_nil)) (pe_ix (ix_tupK (K := K) rfl) (pv 1) pe_int (fun _ _ => rfl))))) pss_nil)
  (C8.pss_cut (ps_if (PW.pt (pw_and (pt_cmpR op_eq (pv 2) pe_int (nomark _)) (pw_and1 (pt_cmpR op_lt (pv 6) (pe_op op_sub (pe_ix (ix_tupK (K := K) rfl) (pv 1) pe_int (fun _ _ => rfl)) pe_int) (nomark _))))) (pss_one (ps_set (i := 9) nd rfl (Or.inl rfl) (pe_op op_mod (pe_callTy call_int1K (by rfl) T.b_int (by decide +kernel) (pa_cons (pv 9) pa_nil)) (pe_op op_sub (pe_ix (ix_tupK (K := K) rfl) (pv 1) pe_int (fun _ _ => rfl)) pe_int)))) pss_nil)
  (C8.pss_cut (ps_if (PW.pt (pw_and (pt_cmpR op_eq (pv 2) pe_int (nomark _)) (pw_and1 (pt_cmpR op_eq (pv 6) (pe_op op_sub (pe_ix (ix_tupK (K := K) rfl) (pv 1) pe_int (fun _ _ => rfl)) pe_int) (nomark _))))) (pss_one (ps_set (i := 10) nd rfl (Or.inl rfl) (pe_ix (ix_listK (K := K) rfl) (pv 4) (pv 6) (fun _ _ => rfl)))) pss_nil)
  (pss_one (ps_expr (pe_bmK (K := K) rfl PySem.F.plainAttrs_list PySem.F.slot_list_append PySem.F.type_list_append mt_append (pv 3) (pa_cons (pe_tup (pa_cons (pv 9) (pa_cons (pv 10) pa_nil))) pa_nil))))))))))))))))
  (pss_one (ps_ret (pv 3)))))), ?_⟩
  refine st_eq (σ := [some (.ref x), some (.ref sz), some (.int (kind : Int)), none, none, none, none, none, none, none, none]) rfl ?_
  walk_at "s"
  refine s_tl (by decide) fun D hD => ?_
  have hnx := hh.ne hD
  have hsz : sz ≠ D := fun e => by rw [e, hD] at hz; cases hz
  walk_at "s"
  refine s_ixT0 (SqT.of ((L2.Same.up hD) _ _ hz)) ?_
  refine s_i1c (by omega) ?_
  have hhD := hh.upN (o := HO.lst []) hD
  have hzD := (L2.Same.up (o := HO.lst []) hD) _ _ hz
  refine lc_g walk_r (fun D2 i acc H2 => NAcc x c ls (upd H D (.lst [])) i acc H2) (fun D2 hD2 => ⟨[], rfl, rfl, fun _ h => (by cases h), (L2.Same.up hD2).toS, hhD.upN hD2⟩) (fun _ _ _ _ _ => trivial) (fun D2 i v acc H2 H3 hD2 hi e hl hA hy => ?_) (fun D2 acc H2 hD2 e hl hA => ?_)
  · obtain ⟨rfl, hx⟩ := hy
    obtain ⟨ns, rfl, hn, hb, sS, hh2⟩ := hA
    rw [ivs_at (by rw [List.length_range]; exact hi)] at hx
    have hx := Option.some.inj hx
    subst hx
    walk_at "s"
    refine ⟨rfl, ?_⟩
    walk_at "s"
    refine s_ixT1 (SqT.of (sS _ _ rfl hzD)) ?_
    refine ⟨x, c, ls, rfl, hh2, by omega, by omega, fun r H4 hr s4 h4 => ?_⟩
    exact na_put hD2 hhD e hn hb sS s4 h4 hr (by omega)
  · obtain ⟨ns, rfl, hn, hb, sS, hh2⟩ := hA
    walk_at "s"
    have hD2D : D2 ≠ D := fun e => by rw [e, upd_same] at hD2; cases hD2
    have hD0 : H2 D = some (.lst []) := sS _ (.lst []) rfl upd_same
    have sH : SameS H H2 := (L2.Same.up hD).toS.trans sS
    have hle : hs * ls ≤ 16 := Nat.mul_le_mul h4 l4
    refine s_ixT0 (SqT.of (sH _ _ rfl hz)) ?_
    refine s_i1f (by omega) ?_
    refine for_f (u := fun (n : Nat) => V.int (n : Int)) (List.range hs) walk_r List.length_range.symm (fun i σ H3 => ∃ a b c' d e, σ = [some (.ref x), some (.ref sz), some (.int (kind : Int)), some (.ref D), some (.ref D2), none, a, b, c', d, e] ∧ RsP x c D D2 hs ls ns H (i * ls) H3) ⟨_, _, _, _, _, rfl, ⟨⟨[], [], hD0, ⟨rfl, fun _ _ e => by cases e⟩, by rw [Nat.zero_mul]; rfl, fun _ h => by cases h⟩, sH, hh2, e⟩⟩ (fun _ _ _ _ => trivial) (fun i h σ H3 ha hP => ?_) (fun σ H3 hP => ?_)
    · obtain ⟨a, b, c', d, e, rfl, hP⟩ := hP
      obtain ⟨hi, rfl⟩ : ∃ hi : i < hs, h = i := by
        have := List.getElem?_eq_some_iff.mp ha
        obtain ⟨h1, h2⟩ := this
        rw [List.getElem_range] at h2
        exact ⟨by rw [List.length_range] at h1; exact h1, h2.symm⟩
      walk_at "s"
      refine s_ixT1 (SqT.of (hP.sS _ _ rfl hz)) ?_
      refine s_i1f (by omega) ?_
      refine for_f (u := fun (n : Nat) => V.int (n : Int)) (List.range ls) walk_r List.length_range.symm (fun j σ H3 => ∃ b c' d e, σ = [some (.ref x), some (.ref sz), some (.int (kind : Int)), some (.ref D), some (.ref D2), none, some (.int (h : Int)), b, c', d, e] ∧ RsP x c D D2 hs ls ns H (h * ls + j) H3) ⟨_, _, _, _, rfl, hP⟩ (fun _ _ _ _ => trivial) (fun j z σ H3 ha hP => ?_) (fun σ H3 hP => ?_)
      · obtain ⟨b, c', d, e, rfl, hP⟩ := hP
        obtain ⟨hj, rfl⟩ : ∃ hj : j < ls, z = j := by
          have := List.getElem?_eq_some_iff.mp ha
          obtain ⟨h1, h2⟩ := this
          rw [List.getElem_range] at h2
          exact ⟨by rw [List.length_range] at h1; exact h1, h2.symm⟩
        have hk : h * ls + z < hs * ls := by
          have : (h + 1) * ls ≤ hs * ls := Nat.mul_le_mul_right ls hi
          rw [Nat.succ_mul] at this
          omega
        have le0 : 0 < hs * ls := by omega
        walk_at "s"
        refine s_ixT0 (SqT.of (hP.sS _ _ rfl hz)) ?_
        walk_at "s"
        refine s_ixT1 (SqT.of (hP.sS _ _ rfl hz)) ?_
        walk_at "s"
        refine s_mulN (by omega) ?_
        walk_at "s"
        refine ⟨x, c, hs * ls, rfl, hP.hh, le0, by omega, fun m H4 hm s4 hh4 => ?_⟩
        have hP := hP.take s4 hh4
        walk_at "s"
        refine s_ixT1 (SqT.of (hP.sS _ _ rfl hz)) ?_
        walk_at "s"
        refine s_divN (by omega) (by omega) ?_
        walk_at "s"
        refine s_ixT1 (SqT.of (hP.sS _ _ rfl hz)) ?_
        walk_at "s"
        refine s_modN (by omega) ?_
        walk_at "s"
        have hiI : m / ls < hs := Nat.div_lt_of_lt_mul (by rw [Nat.mul_comm]; exact hm)
        have hyI : m % ls < ls := Nat.mod_lt _ (by omega)
        have e1 : (hs : Int) - 1 = ((hs - 1 : Nat) : Int) := by omega
        have lh : h < ns.length := by omega
        have hnh : ns[h] < ls := hb _ (List.getElem_mem lh)
        refine s_cut (RM x c sz D D2 hs ls kind h z ns H) ?_ fun σ' H' hM => ?_
        · walk_at "s"
          refine s_ite (fun _ => ?_) (fun _ => ?_)
          · walk_at "s"
            refine s_ixL (SqL.of hP.h2) (ivs_at lh) ?_
            walk_at "s"
            exact ⟨_, _, _, rfl, hiI, hnh, hP⟩
          · walk_at "s"
            exact ⟨_, _, _, rfl, hiI, hyI, hP⟩
        obtain ⟨i, y, v, rfl, hiI, hyI, hP⟩ := hM
        refine s_cut (RM x c sz D D2 hs ls kind h z ns H) ?_ fun σ' H' hM => ?_
        · walk_at "s"
          refine s_ite (fun _ => ?_) (fun _ => ?_)
          · walk_at "s"
            refine ⟨x, c, 2, rfl, hP.hh, by decide, by decide, fun m H4 hm s4 hh4 => ?_⟩
            have hP := hP.take s4 hh4
            walk_at "s"
            refine s_ixT0 (SqT.of (hP.sS _ _ rfl hz)) ?_
            walk_at "s"
            rw [e1]
            refine s_min2 ?_
            walk_at "s"
            refine ⟨x, c, 2, rfl, hP.hh, by decide, by decide, fun m H4 hm s4 hh4 => ?_⟩
            have hP := hP.take s4 hh4
            walk_at "s"
            refine s_ite (fun _ => ?_) (fun _ => ?_)
            · walk_at "s"
              exact ⟨_, _, _, rfl, by omega, hj, hP⟩
            · walk_at "s"
              exact ⟨_, _, _, rfl, by omega, hyI, hP⟩
          · walk_at "s"
            exact ⟨_, _, _, rfl, hiI, hyI, hP⟩
        obtain ⟨i, y, v, rfl, hiI, hyI, hP⟩ := hM
        refine s_cut (RM x c sz D D2 hs ls kind h z ns H) ?_ fun σ' H' hM => ?_
        · walk_at "s"
          refine s_ite (fun _ => ?_) (fun _ => ?_)
          · walk_at "s"
            refine s_ixL (i := 0) (SqL.of hP.h2) (ivs_at (by omega)) ?_
            walk_at "s"
            refine s_ixT1 (SqT.of (hP.sS _ _ rfl hz)) ?_
            walk_at "s"
            refine s_modN (by omega) ?_
            walk_at "s"
            exact ⟨_, _, _, rfl, hiI, Nat.mod_lt _ (by omega), hP⟩
          · walk_at "s"
            exact ⟨_, _, _, rfl, hiI, hyI, hP⟩
        obtain ⟨i, y, v, rfl, hiI, hyI, hP⟩ := hM
        refine s_cut (RM x c sz D D2 hs ls kind h z ns H) ?_ fun σ' H' hM => ?_
        · walk_at "s"
          refine s_ite (fun _ => ?_) (fun _ => ?_)
          · walk_at "s"
            refine s_ixT1 (SqT.of (hP.sS _ _ rfl hz)) ?_
            walk_at "s"
            refine s_modN (by omega) ?_
            walk_at "s"
            exact ⟨_, _, _, rfl, hiI, Nat.mod_lt _ (by omega), hP⟩
          · walk_at "s"
            exact ⟨_, _, _, rfl, hiI, hyI, hP⟩
        obtain ⟨i, y, v, rfl, hiI, hyI, hP⟩ := hM
        refine s_cut (RM x c sz D D2 hs ls kind h z ns H) ?_ fun σ' H' hM => ?_
        · walk_at "s"
          refine s_ite (fun _ => ?_) (fun _ => ?_)
          · walk_at "s"
            refine s_ixT0 (SqT.of (hP.sS _ _ rfl hz)) ?_
            walk_at "s"
            refine s_ite (fun _ => ?_) (fun _ => ?_)
            · walk_at "s"
              refine s_ixT0 (SqT.of (hP.sS _ _ rfl hz)) ?_
              walk_at "s"
              rw [e1]
              refine s_modN (by omega) ?_
              walk_at "s"
              exact ⟨_, _, _, rfl, Nat.lt_of_lt_of_le (Nat.mod_lt _ (by omega)) (by omega), hyI, hP⟩
            · walk_at "s"
              exact ⟨_, _, _, rfl, hiI, hyI, hP⟩
          · walk_at "s"
            exact ⟨_, _, _, rfl, hiI, hyI, hP⟩
        obtain ⟨i, y, v, rfl, hiI, hyI, hP⟩ := hM
        refine s_cut (RM x c sz D D2 hs ls kind h z ns H) ?_ fun σ' H' hM => ?_
        · walk_at "s"
          refine s_ite (fun _ => ?_) (fun _ => ?_)
          · walk_at "s"
            refine s_ixT0 (SqT.of (hP.sS _ _ rfl hz)) ?_
            walk_at "s"
            refine s_ite (fun _ => ?_) (fun _ => ?_)
            · walk_at "s"
              refine s_ixL (SqL.of hP.h2) (ivs_at lh) ?_
              walk_at "s"
              exact ⟨_, _, _, rfl, hiI, hnh, hP⟩
            · walk_at "s"
              exact ⟨_, _, _, rfl, hiI, hyI, hP⟩
          · walk_at "s"
            exact ⟨_, _, _, rfl, hiI, hyI, hP⟩
        obtain ⟨i, y, v, rfl, hiI, hyI, hP⟩ := hM
        walk_at "s"
        have hPD := hP.at_
        obtain ⟨acc0, _, g1, _⟩ := hPD
        refine ⟨tyL g1, ?_⟩
        walk_at "s"
        refine s_tl (Nat.le_of_ble_eq_true rfl) fun t ht => ?_
        obtain ⟨acc, k1, k2, k3⟩ := hP.put hD hnx hD2D (by omega) hiI hyI ht
        walk_at "s"
        refine ⟨D, acc, _, rfl, rfl, k1, k2, ?_⟩
        exact ⟨_, _, _, _, rfl, k3⟩
      · obtain ⟨b, c', d, e, rfl, hP⟩ := hP
        rw [List.length_range] at hP
        exact ⟨_, _, _, _, _, rfl, by rw [Nat.succ_mul]; exact hP⟩
    · obtain ⟨a, b, c', d, e, rfl, hP⟩ := hP
      rw [List.length_range] at hP
      walk_at "s"
      obtain ⟨⟨acc, cs, g1, g2, g3, g4⟩, g5, g6, g7⟩ := hP
      exact q _ _ _ _ g3 g4 g5 g6 g1 g2
theorem c__law_house_rows (T : TX K mg) : Cal (L2.CX P w) P w K mg base 3 "_law_house_rows" sp_rows [] :=
  cal_mk T.f__law_house_rows T.g__law_house_rows ⟨rfl, rfl⟩ (fun _ _ _ _ _ _ us hl => match us, hl with | [_, _, _], _ => rfl) sc__law_house_rows (fun vs H Q E h => by obtain ⟨x, c, sz, hs, ls, kind, rfl, _⟩ := h; rfl) (k__law_house_rows T)
def tPairs : List (Nat × Nat) → TA
  | [] => tNil
  | c :: r => tCons (tTup (tCons (tC (.int (c.1 : Int))) (tCons (tC (.int (c.2 : Int))) tNil))) (tPairs r)
theorem s_pairs {σ : L2.St} : ∀ (cs : List (Nat × Nat)) {H : Hp} {QA : List V → Hp → Prop}, (∀ vs H', Same H H' → TupsAt H' vs cs → QA vs H') → tPairs cs σ H QA
  | [], H, QA, q => q [] H (L2.Same.refl H) ⟨rfl, fun _ _ e => by cases e⟩
  | c :: r, H, QA, q => by
    refine s_cons (s_tup (s_cons (s_c (s_cons (s_c (s_nil (s_tl (Nat.le_of_ble_eq_true rfl) fun t ht => ?_)))))))
    refine s_pairs r fun vs H' s' hT => q _ _ ((L2.Same.up ht).trans s') ⟨by rw [List.length_cons, List.length_cons, hT.1], fun j c' e => ?_⟩
    cases j with
    | zero =>
      have e : c = c' := Option.some.inj e
      subst e
      exact ⟨t, rfl, s' _ _ upd_same⟩
    | succ j => exact hT.2 j c' e
theorem k__law_house (T : TX K mg) : Keeps (L2.CX P w) P w K mg base d__law_house N__law_house 3 sp_house := by
  intro cdv A outer s H vs Q E hr hsp
  obtain ⟨x, c, rfl, hh, q⟩ := hsp
  have nd := sc__law_house.nd
  have hu := hu_of hr
  have hu64 := hr.units
  refine ⟨_, (pss_cons (ps_set (i := 2) nd rfl (Or.inl rfl) (pe_ix (ix_tupK (K := K) rfl) (pe_tup (pa_cons (pe_tup (pa_cons pe_int (pa_cons pe_int pa_nil))) (pa_cons (pe_tup (pa_cons pe_int (pa_cons pe_int pa_nil))) (pa_cons (pe_tup (pa_cons pe_int (pa_cons pe_int pa_nil))) (pa_cons (pe_tup (pa_cons pe_int (pa_cons pe_int pa_nil))) (pa_cons (pe_tup (pa_cons pe_int (pa_cons pe_int pa_nil))) (pa_cons (pe_tup (pa_cons pe_int (pa_cons pe_int pa_nil))) (pa_cons (pe_tup (pa_cons pe_int (pa_cons pe_int pa_nil))) (pa_cons (pe_tup (pa_cons pe_int (pa_cons pe_int pa_nil))) (pa_cons (pe_tup (pa_cons pe_int (pa_cons pe_int pa_nil))) (pa_cons (pe_tup (pa_cons pe_int (pa_cons pe_int pa_nil))) pa_nil))))))))))) (pe_cl (c__law_take T) hr (by decide) (pa_cons (pv 0) (pa_cons (pe_ifExp (pt_val (pv 1)) pe_int pe_int) pa_nil)) passL) (fun _ _ => rfl)))
  (pss_one (ps_ret (pe_lst (pa_cons (pe_ix (ix_tupK (K := K) rfl) (pv 2) pe_int (fun _ _ => rfl)) (pa_cons (pe_ix (ix_tupK (K := K) rfl) (pv 2) pe_int (fun _ _ => rfl)) (pa_cons (pe_cl (c__law_house_rows T) hr (by decide) (pa_cons (pv 0) (pa_cons (pv 2) (pa_cons (pe_cl (c__law_take T) hr (by decide) (pa_cons (pv 0) (pa_cons pe_int pa_nil)) passL) pa_nil))) passL) pa_nil))))))), ?_⟩
  refine st_eq (σ := [some (.ref x), some (.bl true), none]) rfl ?_
  refine s_seq (s_asg (s_op (s_tup ?_)))
  refine s_pairs [(2, 2), (2, 3), (2, 2), (3, 2), (2, 2), (3, 3), (2, 4), (4, 2), (3, 2), (4, 4)] fun vs H1 s1 hT => ?_
  refine s_tl (by rw [hT.1]; decide) fun tp htp => ?_
  walk_at "s"
  refine ⟨x, c, 10, rfl, (hh.to s1).upN htp, by decide, by decide, fun r H2 hr2 s2 hh2 => ?_⟩
  obtain ⟨cc, hcc⟩ : ∃ cc, [(2, 2), (2, 3), (2, 2), (3, 2), (2, 2), (3, 3), (2, 4), (4, 2), (3, 2), (4, 4)][r]? = some cc := ⟨_, List.getElem?_eq_getElem hr2⟩
  obtain ⟨sz, e1, e2⟩ := hT.2 r cc hcc
  have bnd : 2 ≤ cc.1 ∧ cc.1 ≤ 4 ∧ 2 ≤ cc.2 ∧ cc.2 ≤ 4 := by
    have : ∀ z ∈ [(2, 2), (2, 3), (2, 2), (3, 2), (2, 2), (3, 3), (2, 4), (4, 2), (3, 2), (4, 4)], 2 ≤ z.1 ∧ z.1 ≤ 4 ∧ 2 ≤ z.2 ∧ z.2 ≤ 4 := by decide
    exact this cc (List.mem_of_getElem? hcc)
  obtain ⟨b1, b2, b3, b4⟩ := bnd
  have e3 := s2 _ _ rfl ((L2.Same.up (o := HO.tup vs) htp) _ _ e2)
  refine s_ixT (SqT.of (s2 _ _ rfl upd_same)) e1 ?_
  walk_at "s"
  refine s_ixT0 (SqT.of e3) ?_
  walk_at "s"
  refine s_ixT1 (SqT.of e3) ?_
  walk_at "s"
  refine ⟨x, c, 7, rfl, hh2, by decide, by decide, fun k H3 hk s3 hh3 => ?_⟩
  walk_at "s"
  refine ⟨x, c, sz, cc.1, cc.2, k, rfl, hh3, s3 _ _ rfl e3, b1, b2, b3, b4, fun R Rs cs H4 hl hrng s4 hh4 hR hT4 => ?_⟩
  walk_at "s"
  refine s_tl (Nat.le_of_ble_eq_true rfl) fun y hy => ?_
  have hRy := get_up (u := HO.lst [.int (cc.1 : Int), .int (cc.2 : Int), .ref R]) hR hy
  have hle : cc.1 * cc.2 ≤ 16 := Nat.mul_le_mul b2 b4
  exact q y ⟨cc.1, cc.2, cs⟩ _ (((((s1.toS.trans (L2.Same.up htp).toS).trans s2).trans s3).trans s4).trans (L2.Same.up hy).toS) (hh4.upN hy) ⟨⟨b1, b2, b3, b4, hl, hrng⟩, R, Rs, upd_same, hRy, hT4.nh, (hT4.mono fun t xs z => get_up z hy).hdl⟩
theorem c__law_house (T : TX K mg) : Cal (L2.CX P w) P w K mg base 4 "_law_house" sp_house [] :=
  cal_mk T.f__law_house T.g__law_house ⟨rfl, rfl⟩ (fun _ _ _ _ _ _ us hl => match us, hl with | [_, _], _ => rfl) sc__law_house (fun vs H Q E h => by obtain ⟨x, c, rfl, _⟩ := h; rfl) (k__law_house T)
theorem k__law_housed (T : TX K mg) : Keeps (L2.CX P w) P w K mg base d__law_housed N__law_housed 4 (sp_housed K) := by
  intro cdv A outer s H vs Q E hr hsp
  obtain ⟨y, g, rfl, hg, q⟩ := hsp
  have nd := sc__law_housed.nd
  have hu := hu_of hr
  have hu64 := hr.units
  refine ⟨_, (pss_one (ps_ret (pe_mkc (m_House T) hr (by decide) (pa_cons (pe_ix (ix_listK (K := K) rfl) (pv 0) pe_int (fun _ _ => rfl)) (pa_cons (pe_ix (ix_listK (K := K) rfl) (pv 0) pe_int (fun _ _ => rfl)) (pa_cons (pe_lc (own := [("_law_row", 1)]) (tt := tYes) rfl nd (pi_listK (K := K) rfl (pe_ix (ix_listK (K := K) rfl) (pv 0) pe_int (fun _ _ => rfl))) (blkOk_by (N := N__law_housed) (sc := (defScope s__law_housed)) (by decide +kernel)) (fun _ _ _ _ _ => (pg_name (i := 1) nd rfl (Or.inl rfl))) (fun _ _ _ _ _ => pts_nil) (fun _ _ _ _ _ => (pe_callTy (call_list_ofK (K := K) rfl) (by rfl) T.b_list (by decide +kernel) (pa_cons (pv 1) pa_nil)))) pa_nil)))))), ?_⟩
  refine st_eq (σ := [some (.ref y), none]) rfl ?_
  have o := hg.ok
  obtain ⟨R, Rs, hy, hR, hn, hL⟩ := hg.at_
  walk_at "s"
  refine s_make ?_
  walk_at "s"
  refine s_ixL0 (SqL.of hy) ?_
  walk_at "s"
  refine s_ixL1 (SqL.of hy) ?_
  walk_at "s"
  refine s_ixL2 (SqL.of hy) ?_
  walk_at "s"
  have o2 := o.h4
  have o4 := o.l4
  have hle : g.hs * g.ls ≤ 16 := Nat.mul_le_mul o2 o4
  have hlen := hL.len
  rw [List.length_map, o.len] at hlen
  obtain ⟨as, rfl, eA, hA⟩ := hL.zip
  have hla : as.length = g.hs * g.ls := by rw [List.length_map] at hlen; exact hlen
  refine s_iLc (SqL.of hR) ?_
  refine lc_e as (ElO fun p => .lst [.int ((cpOf p.2).1 : Int), .int ((cpOf p.2).2 : Int)]) walk_list (List.length_map ..) (by omega) (fun H' s' => SqL.of (s' _ _ hR)) (fun D i a acc H1 c => ?_) (fun D acc H1 hD s1 hD1 hl hE => ?_)
  · walk_at "s"
    refine ⟨rfl, ?_⟩
    walk_at "s"
    have hm := List.mem_of_getElem? c.ai
    obtain ⟨cc, hcc, e⟩ : ∃ cc ∈ g.rows, cpD cc = a.2 := List.mem_map.mp (eA ▸ List.mem_map.mpr ⟨a, hm, rfl⟩)
    have h2 := (hA a hm).to c.sm
    rw [← e] at h2
    obtain ⟨ta, xs, e1, e2, e3⟩ := h2.tup_eq
    rw [e1]
    have ex : xs = [.int (cc.1 : Int), .int (cc.2 : Int)] := by
      cases e3 with
      | cons z1 e3 =>
        cases e3 with
        | cons z2 e3 =>
          cases e3
          rw [z1.int_eq, z2.int_eq]
    subst ex
    refine s_lstOf ⟨_, rfl, .inr (SqT.of e2)⟩ fun l hl => ?_
    refine lce_yes elO_st c (L2.Same.up hl) ⟨l, rfl, fun z => ?_, ?_⟩
    · have := c.hd
      rw [← z, hl] at this
      cases this
    · show _ = some (HO.lst [V.int ((cpOf a.2).1 : Int), V.int ((cpOf a.2).2 : Int)])
      rw [upd_same, ← e, show cpOf (cpD cc) = cc from cpOf_rwD cc]
  · obtain ⟨ts, hts⟩ := refs_of hl hE
    walk_at "s"
    intro x dx hx hdx hne
    have sx : Same H1 (upd (upd H1 dx (.own x)) x (.ins (gA K "House") dx [])) := (L2.Same.up hdx).upT (by rw [upd_ne (Ne.symm hne)]; exact hx)
    refine ⟨x, dx, D, g, acc, rfl, upd_same, o, sx _ _ hD1, by rw [hts]; exact nh_refs ts, ?_, fun H' sX hO => ⟨rfl, ?_⟩⟩
    · refine HdL.to ?_ sx
      have er : g.rows.map rwD = as.map fun p => rwD (cpOf p.2) := by
        have : g.rows = as.map fun p => cpOf p.2 := by
          rw [show as.map (fun p => cpOf p.2) = (as.map (·.2)).map cpOf by rw [List.map_map]; rfl, ← eA, List.map_map]
          conv => lhs; rw [← List.map_id g.rows]
          exact List.map_congr_left fun c _ => (cpOf_cpD c).symm
        rw [this, List.map_map]
        rfl
      rw [er]
      refine hdL_of (fun p => rwD (cpOf p.2)) hl fun j a ha => ?_
      obtain ⟨y, x1, t, rfl, _, x2⟩ := hE j a ha
      exact ⟨_, x1, .lst x2 rfl (.cons (.int _) (.cons (.int _) .nil))⟩
    · exact q x H' (s1.trans (make_same hx hdx sX)) hO
theorem c__law_housed (T : TX K mg) : Cal (L2.CX P w) P w K mg base 5 "_law_housed" (sp_housed K) [] :=
  cal_mk T.f__law_housed T.g__law_housed ⟨rfl, rfl⟩ (fun _ _ _ _ _ _ us hl => match us, hl with | [_], _ => rfl) sc__law_housed (fun vs H Q E h => by obtain ⟨y, g, rfl, _⟩ := h; rfl) (k__law_housed T)
end

end K53
namespace K53
open PySem PySem.Spec PyProof.Rows L2
/-! ### the law's numbers -/
section
variable {K : PySem.W.Frag} {H : Hp} {Q : VK} {y : Addr} {g : Hou}
theorem s_h0 (h : LHo H y g) (q : Q (.int (g.hs : Int)) H) : rIxL K (.ref y) (.int 0) H Q := by
  obtain ⟨R, Rs, a, _⟩ := h.at_
  exact s_ixL0 (SqL.of a) q
theorem s_h1 (h : LHo H y g) (q : Q (.int (g.ls : Int)) H) : rIxL K (.ref y) (.int 1) H Q := by
  obtain ⟨R, Rs, a, _⟩ := h.at_
  exact s_ixL1 (SqL.of a) q
theorem s_h2 (h : LHo H y g) (q : ∀ R Rs, H R = some (.lst Rs) → K53.nh Rs = true → HdL H Rs (g.rows.map cpD) → Q (.ref R) H) : rIxL K (.ref y) (.int 2) H Q := by
  obtain ⟨R, Rs, a, b, c, d⟩ := h.at_
  exact s_ixL2 (SqL.of a) (q R Rs b c d)
end
abbrev N__law_with_hand : List Str := ["_law_house_here", "_law_h", "_law_y"]
theorem sc__law_with_hand : FnScope N__law_with_hand ["_law_house_here", "_law_h"] (defScope s__law_with_hand) := C8.fnScope_by (by decide +kernel)
abbrev N__law_with_letter : List Str := ["_law_house_here", "_law_y", "_law_h"]
theorem sc__law_with_letter : FnScope N__law_with_letter ["_law_house_here", "_law_y"] (defScope s__law_with_letter) := C8.fnScope_by (by decide +kernel)
def sp_lwh : Sp := fun vs H Q _ => ∃ y g, ∃ h : Nat, vs = [.ref y, .int (h : Int)] ∧ LHo H y g ∧ h < 100 ∧ ∀ D H', Same H H' → H D = none → H' D = some (.lst (ivs (g.wh h))) → Q (.ref D) H'
def sp_lwl : Sp := fun vs H Q _ => ∃ y g, ∃ b : Nat, vs = [.ref y, .int (b : Int)] ∧ LHo H y g ∧ b < 100 ∧ ∀ D H', Same H H' → H D = none → H' D = some (.lst (ivs (g.wl b))) → Q (.ref D) H'
section
variable {P : Program} {w : World} {K : PySem.W.Frag} {mg : Str → Option Value} {base : Heap}
theorem k__law_with_hand (T : TX K mg) : Keeps (L2.CX P w) P w K mg base d__law_with_hand N__law_with_hand 0 sp_lwh := by
  intro cdv A outer s H vs Q E hr hsp
  obtain ⟨y, g, h, rfl, hh, hl, q⟩ := hsp
  have o := hh.ok
  have := o.l4
  have := o.h4
  have nd := sc__law_with_hand.nd
  have hu := hu_of hr
  have hu64 := hr.units
  refine ⟨_, (pss_one (ps_ret (pe_lc (own := [("_law_y", 2)]) (tt := tYes) rfl nd (pi_range1 (by rfl) T.b_range (pa_cons (pe_ix (ix_listK (K := K) rfl) (pv 0) pe_int (fun _ _ => rfl)) pa_nil)) (blkOk_by (N := N__law_with_hand) (sc := (defScope s__law_with_hand)) (by decide +kernel)) (fun _ _ _ _ _ => (pg_name (i := 2) nd rfl (Or.inl rfl))) (fun _ _ _ _ _ => pts_nil) (fun _ _ _ _ _ => (pe_op op_add (pe_op op_mul (pv 1) (pe_ix (ix_listK (K := K) rfl) (pv 0) pe_int (fun _ _ => rfl))) (pv 2)))))), ?_⟩
  refine st_eq (σ := [some (.ref y), some (.int (h : Int)), none]) rfl ?_
  walk_at "s"
  refine s_h1 hh ?_
  walk_at "s"
  refine s_i1c (n := g.ls) (by omega) ?_
  refine lc_f (List.range g.ls) (fun y => some (.int ((h * g.ls + y : Nat) : Int))) walk_r List.length_range.symm (by rw [List.length_range]; omega) (fun _ _ => trivial) (fun D i y H1 c => ?_) (fun D H1 hD s1 e => ?_)
  · walk_at "s"
    refine ⟨rfl, ?_⟩
    walk_at "s"
    refine s_h1 (hh.to c.sm) ?_
    walk_at "s"
    refine s_mulN (by omega) ?_
    walk_at "s"
    exact lc_yes c (L2.Same.refl _) rfl
  · rw [fm_map] at e
    refine q D H1 s1 hD ?_
    rw [e]
    unfold Hou.wh ivs
    rw [List.map_map]
    rfl
theorem c__law_with_hand (T : TX K mg) : Cal (L2.CX P w) P w K mg base 1 "_law_with_hand" sp_lwh [] :=
  cal_mk T.f__law_with_hand T.g__law_with_hand ⟨rfl, rfl⟩ (fun _ _ _ _ _ _ us hl => match us, hl with | [_, _], _ => rfl) sc__law_with_hand (fun vs H Q E h => by obtain ⟨y, g, h, rfl, _⟩ := h; rfl) (k__law_with_hand T)
theorem k__law_with_letter (T : TX K mg) : Keeps (L2.CX P w) P w K mg base d__law_with_letter N__law_with_letter 0 sp_lwl := by
  intro cdv A outer s H vs Q E hr hsp
  obtain ⟨y, g, b, rfl, hh, hl, q⟩ := hsp
  have o := hh.ok
  have := o.l4
  have := o.h4
  have nd := sc__law_with_letter.nd
  have hu := hu_of hr
  have hu64 := hr.units
  refine ⟨_, (pss_one (ps_ret (pe_lc (own := [("_law_h", 2)]) (tt := tYes) rfl nd (pi_range1 (by rfl) T.b_range (pa_cons (pe_ix (ix_listK (K := K) rfl) (pv 0) pe_int (fun _ _ => rfl)) pa_nil)) (blkOk_by (N := N__law_with_letter) (sc := (defScope s__law_with_letter)) (by decide +kernel)) (fun _ _ _ _ _ => (pg_name (i := 2) nd rfl (Or.inl rfl))) (fun _ _ _ _ _ => pts_nil) (fun _ _ _ _ _ => (pe_op op_add (pe_op op_mul (pv 2) (pe_ix (ix_listK (K := K) rfl) (pv 0) pe_int (fun _ _ => rfl))) (pv 1)))))), ?_⟩
  refine st_eq (σ := [some (.ref y), some (.int (b : Int)), none]) rfl ?_
  walk_at "s"
  refine s_h0 hh ?_
  walk_at "s"
  refine s_i1c (n := g.hs) (by omega) ?_
  refine lc_f (List.range g.hs) (fun h => some (.int ((h * g.ls + b : Nat) : Int))) walk_r List.length_range.symm (by rw [List.length_range]; omega) (fun _ _ => trivial) (fun D i h H1 c => ?_) (fun D H1 hD s1 e => ?_)
  · walk_at "s"
    refine ⟨rfl, ?_⟩
    walk_at "s"
    refine s_h1 (hh.to c.sm) ?_
    walk_at "s"
    have := List.mem_range.mp (List.mem_of_getElem? c.ai)
    refine s_mulN (by omega) ?_
    walk_at "s"
    exact lc_yes c (L2.Same.refl _) rfl
  · rw [fm_map] at e
    refine q D H1 s1 hD ?_
    rw [e]
    unfold Hou.wl ivs
    rw [List.map_map]
    rfl
theorem c__law_with_letter (T : TX K mg) : Cal (L2.CX P w) P w K mg base 1 "_law_with_letter" sp_lwl [] :=
  cal_mk T.f__law_with_letter T.g__law_with_letter ⟨rfl, rfl⟩ (fun _ _ _ _ _ _ us hl => match us, hl with | [_, _], _ => rfl) sc__law_with_letter (fun vs H Q E h => by obtain ⟨y, g, b, rfl, _⟩ := h; rfl) (k__law_with_letter T)
end

end K53
namespace K53
open PySem PySem.Spec PyProof.Rows L2
/-! ### the law's lists ahead -/
def Hou.lg (g : Hou) (a z : Nat) : List Nat := ((List.range z).filter fun z => decide ((g.row (a / g.ls * g.ls + z)).2 = a % g.ls)).map fun z => (g.row (a / g.ls * g.ls + z)).1 * g.ls + z
section
variable {g : Hou}
theorem Hou.lg_succ (a z : Nat) : g.lg a (z + 1) = if (g.row (a / g.ls * g.ls + z)).2 = a % g.ls then g.lg a z ++ [(g.row (a / g.ls * g.ls + z)).1 * g.ls + z] else g.lg a z := by
  unfold Hou.lg
  rw [List.range_succ, List.filter_append, List.map_append]
  by_cases h : (g.row (a / g.ls * g.ls + z)).2 = a % g.ls
  · rw [if_pos h, List.filter_cons_of_pos (p := fun z => decide ((g.row (a / g.ls * g.ls + z)).2 = a % g.ls)) (decide_eq_true h)]
    rfl
  · rw [if_neg h, List.filter_cons_of_neg (p := fun z => decide ((g.row (a / g.ls * g.ls + z)).2 = a % g.ls)) (by rw [decide_eq_false h]; decide)]
    show _ ++ [] = _
    rw [List.append_nil]
theorem Hou.lg_len (a z : Nat) : (g.lg a z).length ≤ z := by
  unfold Hou.lg
  rw [List.length_map]
  refine Nat.le_trans (List.length_filter_le _ _) ?_
  rw [List.length_range]
  exact Nat.le_refl _
theorem Hou.mem_lg (o : g.Ok) {a b : Nat} (ha : a < g.n) : b ∈ g.lg a g.ls ↔ b ∈ g.ahead a := by
  unfold Hou.lg
  rw [List.mem_map, Hou.mem_ahead]
  unfold Hou.stp
  rw [decide_eq_true_iff]
  constructor
  · rintro ⟨z, hz, rfl⟩
    rw [List.mem_filter, List.mem_range, decide_eq_true_iff] at hz
    obtain ⟨hz, e⟩ := hz
    have hk : a / g.ls * g.ls + z < g.n := Hou.num_lt o (Hou.div_lt o ha) hz
    have hr := Hou.row_in o hk
    refine ⟨Hou.num_lt o hr.1 hz, ?_⟩
    rw [Hou.num_div o hz, Hou.num_mod o hz]
    exact Prod.ext rfl e
  · rintro ⟨hb, e⟩
    refine ⟨b % g.ls, ?_, ?_⟩
    · rw [List.mem_filter, List.mem_range, decide_eq_true_iff]
      exact ⟨Hou.mod_lt o b, by rw [e]⟩
    · rw [e]
      exact Hou.num_eq b
theorem Hou.lg_nd (o : g.Ok) (a : Nat) : (g.lg a g.ls).Nodup := by
  unfold Hou.lg
  rw [List.Nodup, List.pairwise_map]
  refine List.Pairwise.imp_of_mem ?_ (filter_lt (n := g.ls) (p := fun z => decide ((g.row (a / g.ls * g.ls + z)).2 = a % g.ls)))
  intro x y hx hy hlt e
  rw [List.mem_filter, List.mem_range, decide_eq_true_iff] at hx hy
  have s1 := congrArg (· % g.ls) e
  rw [Hou.num_mod o hx.1, Hou.num_mod o hy.1] at s1
  omega
theorem Hou.lg_srt (o : g.Ok) {a : Nat} (ha : a < g.n) {ns : List Int} (hp : ns.Perm ((g.lg a g.ls).map fun (m : Nat) => (m : Int))) (hs : ns.Pairwise (· ≤ ·)) : ns = (g.ahead a).map fun (m : Nat) => (m : Int) :=
  srt_eq hp hs (Hou.lg_nd o a) filter_lt fun _ => Hou.mem_lg o ha
end
structure AhP (H : Hp) (D : Addr) (g : Hou) (i : Nat) : Prop where
  at_ : ∃ ts : List Addr, H D = some (.lst (ts.map V.ref)) ∧ ts.length = i ∧ ∀ a, a < i → ∃ t, ts[a]? = some t ∧ t ≠ D ∧ H t = some (.lst (ivs (g.ahead a)))
theorem AhP.toS {H H' : Hp} {D : Addr} {g : Hou} {i : Nat} (h : AhP H D g i) (s : SameS H H') : AhP H' D g i := by
  obtain ⟨ts, a, b, c⟩ := h.at_
  refine ⟨ts, s _ (.lst (ts.map V.ref)) (nh_refs ts) a, b, fun k hk => ?_⟩
  obtain ⟨t, e1, e2, e3⟩ := c k hk
  exact ⟨t, e1, e2, s _ (.lst (ivs (g.ahead k))) (nh_ivs _) e3⟩
theorem AhP.to {H H' : Hp} {D : Addr} {g : Hou} {i : Nat} (h : AhP H D g i) (s : Same H H') : AhP H' D g i := h.toS s.toS
theorem AhP.put {H : Hp} {D t : Addr} {g : Hou} {i : Nat} (h : AhP H D g i) (hi : i < 1000) (ht : H t = none) : ∃ acc, (upd H t (.lst (ivs (g.ahead i)))) D = some (.lst acc) ∧ acc.length < sizeLine ∧ AhP (upd (upd H t (.lst (ivs (g.ahead i)))) D (.lst (acc ++ [.ref t]))) D g (i + 1) := by
  obtain ⟨ts, a, b, c⟩ := (h.to (L2.Same.up (o := HO.lst (ivs (g.ahead i))) ht)).at_
  have htD : t ≠ D := fun e => by
    obtain ⟨ts, a, _⟩ := h.at_
    rw [← e, ht] at a
    cases a
  refine ⟨_, a, sz16l (by rw [List.length_map]; omega), ⟨ts ++ [t], by rw [upd_same, List.map_append]; rfl, by rw [List.length_append, b]; rfl, fun k hk => ?_⟩⟩
  by_cases e : k < i
  · obtain ⟨t', e1, e2, e3⟩ := c k e
    exact ⟨t', by rw [List.getElem?_append_left (by omega)]; exact e1, e2, by rw [upd_ne e2]; exact e3⟩
  · have : k = i := by omega
    subst this
    exact ⟨t, by rw [List.getElem?_append_right (by omega), b, Nat.sub_self]; rfl, htD, by rw [upd_ne htD, upd_same]⟩
abbrev N__law_ahead : List Str := ["_law_house_here", "_law_out", "_law_number", "_law_h", "_law_y", "_law_row", "_law_z", "_law_made"]
theorem sc__law_ahead : FnScope N__law_ahead ["_law_house_here"] (defScope s__law_ahead) := C8.fnScope_by (by decide +kernel)
def sp_lah : Sp := fun vs H Q _ => ∃ y g, vs = [.ref y] ∧ LHo H y g ∧ ∀ D H', Same H H' → AhP H' D g g.n → Q (.ref D) H'
section
variable {P : Program} {w : World} {K : PySem.W.Frag} {mg : Str → Option Value} {base : Heap}
theorem k__law_ahead (T : TX K mg) : Keeps (L2.CX P w) P w K mg base d__law_ahead N__law_ahead 0 sp_lah := by
  intro cdv A outer s H vs Q E hr hsp
  obtain ⟨y, g, rfl, hh, q⟩ := hsp
  have o := hh.ok
  have o1 := o.l4
  have o2 := o.h4
  have o3 := o.l2
  have hle : g.hs * g.ls ≤ 16 := Nat.mul_le_mul o2 o1
  have nd := sc__law_ahead.nd
  have hu := hu_of hr
  have hu64 := hr.units
  refine ⟨_, (pss_cons (ps_set (i := 1) nd rfl (Or.inl rfl) (pe_lst pa_nil))
  (pss_cons (ps_for (passes_of rfl) rfl (pi_range1 (by rfl) T.b_range (pa_cons (pe_op op_mul (pe_ix (ix_listK (K := K) rfl) (pv 0) pe_int (fun _ _ => rfl)) (pe_ix (ix_listK (K := K) rfl) (pv 0) pe_int (fun _ _ => rfl))) pa_nil)) (pg_name (i := 2) nd rfl (Or.inl rfl)) (pss_cons (ps_set (i := 3) nd rfl (Or.inl rfl) (pe_op op_fdivW (pv 2) (pe_ix (ix_listK (K := K) rfl) (pv 0) pe_int (fun _ _ => rfl))))
  (pss_cons (ps_set (i := 4) nd rfl (Or.inl rfl) (pe_op op_mod (pe_callTy call_int1K (by rfl) T.b_int (by decide +kernel) (pa_cons (pv 2) pa_nil)) (pe_ix (ix_listK (K := K) rfl) (pv 0) pe_int (fun _ _ => rfl))))
  (pss_cons (ps_set (i := 5) nd rfl (Or.inl rfl) (pe_lst pa_nil))
  (pss_cons (ps_for (passes_of rfl) rfl (pi_range1 (by rfl) T.b_range (pa_cons (pe_ix (ix_listK (K := K) rfl) (pv 0) pe_int (fun _ _ => rfl)) pa_nil)) (pg_name (i := 6) nd rfl (Or.inl rfl)) (pss_cons (ps_set (i := 7) nd rfl (Or.inl rfl) (pe_ix (ix_listK (K := K) rfl) (pe_ix (ix_listK (K := K) rfl) (pv 0) pe_int (fun _ _ => rfl)) (pe_op op_add (pe_op op_mul (pv 3) (pe_ix (ix_listK (K := K) rfl) (pv 0) pe_int (fun _ _ => rfl))) (pv 6)) (fun _ _ => rfl)))
  (pss_one (ps_if (pt_cmpR op_eq (pe_ix (ix_tupK (K := K) rfl) (pv 7) pe_int (fun _ _ => rfl)) (pv 4) (nomark _)) (pss_one (ps_expr (pe_bmK (K := K) rfl PySem.F.plainAttrs_list PySem.F.slot_list_append PySem.F.type_list_append mt_append (pv 5) (pa_cons (pe_op op_add (pe_op op_mul (pe_ix (ix_tupK (K := K) rfl) (pv 7) pe_int (fun _ _ => rfl)) (pe_ix (ix_listK (K := K) rfl) (pv 0) pe_int (fun _ _ => rfl))) (pv 6)) pa_nil)))) pss_nil))))
  (pss_one (ps_expr (pe_bmK (K := K) rfl PySem.F.plainAttrs_list PySem.F.slot_list_append PySem.F.type_list_append mt_append (pv 1) (pa_cons (pe_callB (cr_sortedIK (K := K) rfl) (by rfl) T.b_sorted (by decide +kernel) (pa_cons (pv 5) pa_nil)) pa_nil)))))))))
  (pss_one (ps_ret (pv 1))))), ?_⟩
  refine st_eq (σ := [some (.ref y), none, none, none, none, none, none, none]) rfl ?_
  walk_at "s"
  refine s_tl (by decide) fun D hD => ?_
  have hhD := hh.to (L2.Same.up (o := HO.lst []) hD)
  walk_at "s"
  refine s_h0 hhD ?_
  walk_at "s"
  refine s_h1 hhD ?_
  walk_at "s"
  refine s_mulN (by omega) ?_
  walk_at "s"
  refine s_i1f (n := g.hs * g.ls) (by omega) ?_
  refine for_f (u := fun (n : Nat) => V.int (n : Int)) (List.range g.n) walk_r List.length_range.symm (fun i σ H3 => ∃ x1 x2 x3 x4 x5 x6, σ = [some (.ref y), some (.ref D), x1, x2, x3, x4, x5, x6] ∧ Same H H3 ∧ AhP H3 D g i) ⟨_, _, _, _, _, _, rfl, L2.Same.up hD, ⟨[], upd_same, rfl, fun _ h => absurd h (Nat.not_lt_zero _)⟩⟩ (fun _ _ _ _ => trivial) (fun i a σ H3 ha hP => ?_) (fun σ H3 hP => ?_)
  · obtain ⟨x1, x2, x3, x4, x5, x6, rfl, s3, hA⟩ := hP
    obtain ⟨hi, rfl⟩ : ∃ hi : i < g.n, a = i := by
      obtain ⟨h1, h2⟩ := List.getElem?_eq_some_iff.mp ha
      rw [List.getElem_range] at h2
      exact ⟨by rw [List.length_range] at h1; exact h1, h2.symm⟩
    have hh3 := hh.to s3
    walk_at "s"
    refine s_h1 hh3 ?_
    walk_at "s"
    refine s_divN (by omega) (by omega) ?_
    walk_at "s"
    refine s_h1 hh3 ?_
    walk_at "s"
    refine s_modN (by omega) ?_
    walk_at "s"
    refine s_tl (by decide) fun r hr' => ?_
    walk_at "s"
    refine s_h1 (hh3.to (L2.Same.up hr')) ?_
    walk_at "s"
    refine s_i1f (n := g.ls) (by omega) ?_
    refine for_f (u := fun (n : Nat) => V.int (n : Int)) (List.range g.ls) walk_r List.length_range.symm (fun z σ H4 => ∃ x5 x6, σ = [some (.ref y), some (.ref D), some (.int (a : Int)), some (.int ((a / g.ls : Nat) : Int)), some (.int ((a % g.ls : Nat) : Int)), some (.ref r), x5, x6] ∧ Same H3 H4 ∧ H4 r = some (.lst (ivs (g.lg a z)))) ⟨_, _, rfl, L2.Same.up hr', upd_same⟩ (fun _ _ _ _ => trivial) (fun z b σ H4 hb hP => ?_) (fun σ H4 hP => ?_)
    · obtain ⟨x5, x6, rfl, s4, hr4⟩ := hP
      obtain ⟨hz, rfl⟩ : ∃ hz : z < g.ls, b = z := by
        obtain ⟨h1, h2⟩ := List.getElem?_eq_some_iff.mp hb
        rw [List.getElem_range] at h2
        exact ⟨by rw [List.length_range] at h1; exact h1, h2.symm⟩
      have hh4 := hh3.to s4
      have hk : a / g.ls * g.ls + b < g.n := Hou.num_lt o (Hou.div_lt o hi) hz
      have hdv := Hou.div_lt o hi
      walk_at "s"
      refine s_h2 hh4 fun R Rs g1 g2 g3 => ?_
      walk_at "s"
      refine s_h1 hh4 ?_
      walk_at "s"
      refine s_mulN (by omega) ?_
      walk_at "s"
      obtain ⟨v, e1, e2⟩ := g3.get (i := a / g.ls * g.ls + b) (d := cpD (g.row (a / g.ls * g.ls + b))) (by
        have hk2 : a / g.ls * g.ls + b < g.rows.length := by rw [o.len]; exact hk
        rw [List.getElem?_map, List.getElem?_eq_getElem hk2]
        unfold Hou.row
        rw [List.getD_eq_getElem?_getD, List.getElem?_eq_getElem hk2]
        rfl)
      obtain ⟨p, rfl, hp⟩ := e2.cp
      refine s_ixL (SqL.of g1) e1 ?_
      walk_at "s"
      refine s_ixT1 (SqT.of hp) ?_
      walk_at "s"
      refine s_iteD (fun e => ?_) (fun e => ?_)
      · walk_at "s"
        refine ⟨tyL hr4, ?_⟩
        walk_at "s"
        refine s_ixT0 (SqT.of hp) ?_
        walk_at "s"
        refine s_h1 hh4 ?_
        walk_at "s"
        refine s_mulN (by have := (Hou.row_in o hk).1; omega) ?_
        walk_at "s"
        refine ⟨r, _, _, rfl, rfl, hr4, sz16l (by rw [ivs_len]; have := Hou.lg_len (g := g) a b; omega), ?_⟩
        refine ⟨_, _, rfl, s4.mut hr', ?_⟩
        rw [upd_same, ivs_snoc, Hou.lg_succ, if_pos e]
      · walk_at "s"
        exact ⟨_, _, rfl, s4, by rw [Hou.lg_succ, if_neg e]; exact hr4⟩
    · obtain ⟨x5, x6, rfl, s4, hr4⟩ := hP
      rw [List.length_range] at hr4
      have hA := hA.to s4
      have hAD := hA.at_
      obtain ⟨ts, d1, _⟩ := hAD
      walk_at "s"
      refine ⟨tyL d1, ?_⟩
      walk_at "s"
      refine ⟨_, _, rfl, by rw [← iv_int]; exact SqL.of hr4, fun ns' t hp hs ht => ?_⟩
      have e := Hou.lg_srt o hi hp hs
      subst e
      rw [← iv_int]
      obtain ⟨acc, k1, k2, k3⟩ := hA.put (by unfold Hou.n at hi; omega) ht
      walk_at "s"
      refine ⟨D, acc, _, rfl, rfl, k1, k2, ?_⟩
      exact ⟨_, _, _, _, _, _, rfl, ((s3.trans s4).trans (L2.Same.up ht)).mut hD, k3⟩
  · obtain ⟨x1, x2, x3, x4, x5, x6, rfl, s3, hA⟩ := hP
    rw [List.length_range] at hA
    walk_at "s"
    exact q D H3 s3 hA
theorem c__law_ahead (T : TX K mg) : Cal (L2.CX P w) P w K mg base 1 "_law_ahead" sp_lah [] :=
  cal_mk T.f__law_ahead T.g__law_ahead ⟨rfl, rfl⟩ (fun _ _ _ _ _ _ us hl => match us, hl with | [_], _ => rfl) sc__law_ahead (fun vs H Q E h => by obtain ⟨y, g, rfl, _⟩ := h; rfl) (k__law_ahead T)
end

end K53
namespace K53
open PySem PySem.Spec PyProof.Rows L2
/-! ### the law's couples -/
theorem pe_notK {X : Cx} {K : PySem.W.Frag} {a : Expr} {ta : TE} {pos : Pos} (hK : X.K = K) (ha : PE X a ta) : PE X (.UnaryOp .Not a pos) (tNotT K ta) := by subst hK; exact pe_notT ha
section
variable {K : PySem.W.Frag} {σ : L2.St} {H : Hp} {Q : VK} {ta tb tc : TE}
theorem s_notT (h : ta σ H fun x H1 => ∃ k, TruV K x H1 k ∧ Q (.bl (!k)) H1) : tNotT K ta σ H Q := h
theorem s_chain {r r' : R2} (h : ta σ H fun x H1 => tb σ H1 fun y H2 => r x y H2 fun z H3 => ∃ k, z = .bl k ∧ (if k = true then tc σ H3 fun w' H4 => r' y w' H4 Q else Q (.bl false) H3)) : tChain r r' ta tb tc σ H Q := h
end
abbrev N__law_whole : List Str := ["_law_thing", "_law_bound"]
theorem sc__law_whole : FnScope N__law_whole ["_law_thing", "_law_bound"] (defScope s__law_whole) := C8.fnScope_by (by decide +kernel)
abbrev N__law_is_couple : List Str := ["_law_house_here", "_law_thing"]
theorem sc__law_is_couple : FnScope N__law_is_couple ["_law_house_here", "_law_thing"] (defScope s__law_is_couple) := C8.fnScope_by (by decide +kernel)
abbrev N__law_are_couples : List Str := ["_law_house_here", "_law_thing", "_law_part"]
theorem sc__law_are_couples : FnScope N__law_are_couples ["_law_house_here", "_law_thing"] (defScope s__law_are_couples) := C8.fnScope_by (by decide +kernel)
def isBd (d : PyData) (b : Nat) : Bool := isW d (some 0) (some ((b : Int) - 1))
def sp_lwhole : Sp := fun vs H Q _ => ∃ v d, ∃ b : Nat, vs = [v, .int (b : Int)] ∧ Hd H v d ∧ Q (.bl (isBd d b)) H
def sp_lcpl : Sp := fun vs H Q _ => ∃ y g v d, vs = [.ref y, v] ∧ LHo H y g ∧ Hd H v d ∧ ∀ H', Same H H' → Q (.bl (isCpl g.hs g.ls d)) H'
def sp_lcpls : Sp := fun vs H Q _ => ∃ y g v d, vs = [.ref y, v] ∧ LHo H y g ∧ Hd H v d ∧ (seqD d).length ≤ 100000 ∧ ∀ H', Same H H' → Q (.bl (areC g d)) H'
section
variable {P : Program} {w : World} {K : PySem.W.Frag} {mg : Str → Option Value} {base : Heap}
theorem k__law_whole (T : TX K mg) : Keeps (L2.CX P w) P w K mg base d__law_whole N__law_whole 0 sp_lwhole := by
  intro cdv A outer s H vs Q E hr hsp
  obtain ⟨v, d, b, rfl, hv, q⟩ := hsp
  have nd := sc__law_whole.nd
  have hu := hu_of hr
  have hu64 := hr.units
  refine ⟨_, (pss_one (ps_ret (pe_and (pe_callB (call_isiK1 (K := K) rfl) (by rfl) T.b_isinstance (by decide +kernel) (pa_cons (pv 0) (pa_cons (pe_bltn (v := .ty "int") (by rfl) T.b_int (by decide +kernel) rfl) pa_nil))) (pe_and (pe_not (pe_callB (call_isiK1 (K := K) rfl) (by rfl) T.b_isinstance (by decide +kernel) (pa_cons (pv 0) (pa_cons (pe_bltn (v := .ty "bool") (by rfl) T.b_bool (by decide +kernel) rfl) pa_nil)))) (pe_one (pe_chain op_le op_lt pe_int (pv 0) (pv 1))))))), ?_⟩
  refine st_eq (σ := [some (v), some (.int (b : Int))]) rfl ?_
  walk_at "s"
  refine s_isiInt hv ?_
  walk_at "s"
  cases d
  case bool k =>
    refine s_yes rfl ?_
    walk_at "s"
    refine s_isiBool hv ?_
    walk_at "s"
    exact q
  case int i =>
    cases hv
    refine s_yes rfl ?_
    walk_at "s"
    refine s_isiBool (.int i) ?_
    walk_at "s"
    refine s_yes rfl ?_
    refine s_chain ?_
    walk_at "s"
    have e : isBd (.int i) b = (decide (0 ≤ i) && decide (i < (b : Int))) := by
      show (decide (0 ≤ i) && decide (i ≤ (b : Int) - 1)) = _
      rw [show decide (i ≤ (b : Int) - 1) = decide (i < (b : Int)) from bl_iff (by omega)]
    rw [e] at q
    refine s_ite (fun h => ?_) (fun h => ?_)
    · rw [h] at q
      walk_at "s"
      exact q
    · rw [h] at q
      exact q
  all_goals
    refine s_no rfl ?_
    exact q
theorem c__law_whole (T : TX K mg) : Cal (L2.CX P w) P w K mg base 1 "_law_whole" sp_lwhole [] :=
  cal_mk T.f__law_whole T.g__law_whole ⟨rfl, rfl⟩ (fun _ _ _ _ _ _ us hl => match us, hl with | [_, _], _ => rfl) sc__law_whole (fun vs H Q E h => by obtain ⟨v, d, b, rfl, _⟩ := h; rfl) (k__law_whole T)
theorem k__law_is_couple (T : TX K mg) : Keeps (L2.CX P w) P w K mg base d__law_is_couple N__law_is_couple 1 sp_lcpl := by
  intro cdv A outer s H vs Q E hr hsp
  obtain ⟨y, g, v, d, rfl, hg, hv, q⟩ := hsp
  have nd := sc__law_is_couple.nd
  have hu := hu_of hr
  have hu64 := hr.units
  refine ⟨_, (pss_one (ps_ret (pe_and (pe_callB (call_isiTK (K := K) rfl) (by rfl) T.b_isinstance (by decide +kernel) (pa_cons (pv 1) (pa_cons (pe_tup (pa_cons (pe_bltn (v := .ty "list") (by rfl) T.b_list (by decide +kernel) rfl) (pa_cons (pe_bltn (v := .ty "tuple") (by rfl) T.b_tuple (by decide +kernel) rfl) pa_nil))) pa_nil))) (pe_and (pe_cmpR op_eq (pe_callB (call_lenK (K := K) rfl) (by rfl) T.b_len PySem.boot_len (pa_cons (pv 1) pa_nil)) pe_int (nomark _)) (pe_and (pe_cl (c__law_whole T) hr (by decide) (pa_cons (pe_ix (ix_seqK (K := K) rfl) (pv 1) pe_int (fun _ _ => rfl)) (pa_cons (pe_ix (ix_listK (K := K) rfl) (pv 0) pe_int (fun _ _ => rfl)) pa_nil)) passL) (pe_one (pe_cl (c__law_whole T) hr (by decide) (pa_cons (pe_ix (ix_seqK (K := K) rfl) (pv 1) pe_int (fun _ _ => rfl)) (pa_cons (pe_ix (ix_listK (K := K) rfl) (pv 0) pe_int (fun _ _ => rfl)) pa_nil)) passL))))))), ?_⟩
  refine st_eq (σ := [some (.ref y), some (v)]) rfl ?_
  walk_at "s"
  refine s_tl (by decide) fun tp hp => ?_
  have sm := L2.Same.up (o := HO.tup [V.ty "list", V.ty "tuple"]) hp
  have q := q _ sm
  have hv := hv.to sm
  have hg := hg.to sm
  walk_at "s"
  refine s_isiLT hv upd_same ?_
  walk_at "s"
  refine s_ite (fun e => ?_) (fun e => ?_)
  · obtain ⟨xs, hS, hL⟩ := hv.seq (K := K) e
    have hll := hL.len
    walk_at "s"
    refine s_len hS ?_
    walk_at "s"
    refine s_iteD (fun e2 => ?_) (fun e2 => ?_)
    · rcases hx : seqD d with _ | ⟨a, _ | ⟨b, _ | ⟨c, r⟩⟩⟩
      · rw [hx] at hll
        rw [hll] at e2
        cases e2
      · rw [hx] at hll
        rw [hll] at e2
        cases e2
      · rw [hx] at hL
        have z : isCpl g.hs g.ls d = (isBd a g.hs && isBd b g.ls) := by
          unfold isCpl
          rw [hx]
          rfl
        rw [z] at q
        cases hL with
        | cons h1 hL =>
          cases hL with
          | cons h2 hL =>
            cases hL
            walk_at "s"
            refine s_ixS0 hS ?_
            walk_at "s"
            refine s_h0 hg ?_
            walk_at "s"
            refine ⟨_, a, g.hs, rfl, h1, ?_⟩
            walk_at "s"
            refine s_ite (fun e3 => ?_) (fun e3 => ?_)
            · walk_at "s"
              refine s_ixS1 hS ?_
              walk_at "s"
              refine s_h1 hg ?_
              walk_at "s"
              refine ⟨_, b, g.ls, rfl, h2, ?_⟩
              rw [e3] at q
              exact q
            · rw [e3] at q
              exact q
      · rw [hx] at hll
        rw [hll] at e2
        simp only [List.length_cons] at e2
        omega
    · have z : isCpl g.hs g.ls d = false := by
        unfold isCpl
        rcases hx : seqD d with _ | ⟨a, _ | ⟨b, _ | ⟨c, r⟩⟩⟩
        · rfl
        · rfl
        · rw [hx] at hll
          exact absurd (by rw [hll]; rfl) e2
        · rfl
      rw [z] at q
      exact q
  · have z : isCpl g.hs g.ls d = false := by
      cases d <;> first | rfl | cases e
    rw [z] at q
    exact q
theorem c__law_is_couple (T : TX K mg) : Cal (L2.CX P w) P w K mg base 2 "_law_is_couple" sp_lcpl [] :=
  cal_mk T.f__law_is_couple T.g__law_is_couple ⟨rfl, rfl⟩ (fun _ _ _ _ _ _ us hl => match us, hl with | [_, _], _ => rfl) sc__law_is_couple (fun vs H Q E h => by obtain ⟨y, g, v, d, rfl, _⟩ := h; rfl) (k__law_is_couple T)
theorem k__law_are_couples (T : TX K mg) : Keeps (L2.CX P w) P w K mg base d__law_are_couples N__law_are_couples 2 sp_lcpls := by
  intro cdv A outer s H vs Q E hr hsp
  obtain ⟨y, g, v, d, rfl, hg, hv, hz, q⟩ := hsp
  have nd := sc__law_are_couples.nd
  have hu := hu_of hr
  have hu64 := hr.units
  refine ⟨_, (pss_one (ps_ret (pe_and (pe_callB (call_isiTK (K := K) rfl) (by rfl) T.b_isinstance (by decide +kernel) (pa_cons (pv 1) (pa_cons (pe_tup (pa_cons (pe_bltn (v := .ty "list") (by rfl) T.b_list (by decide +kernel) rfl) (pa_cons (pe_bltn (v := .ty "tuple") (by rfl) T.b_tuple (by decide +kernel) rfl) pa_nil))) pa_nil))) (pe_one (pe_notK (K := K) rfl (pe_lc (own := [("_law_part", 2)]) rfl nd (pi_seqK (K := K) rfl (pv 1)) (blkOk_by (N := N__law_are_couples) (sc := (defScope s__law_are_couples)) (by decide +kernel)) (fun _ _ _ _ _ => (pg_name (i := 2) nd rfl (Or.inl rfl))) (fun _ _ _ _ _ => (pts_one (pt_not (pt_val (pe_cl (c__law_is_couple T) hr (by decide) (pa_cons (pv 0) (pa_cons (pv 2) pa_nil)) passL))))) (fun _ _ _ _ _ => pe_int))))))), ?_⟩
  refine st_eq (σ := [some (.ref y), some (v), none]) rfl ?_
  walk_at "s"
  refine s_tl (by decide) fun tp hp => ?_
  have sm := L2.Same.up (o := HO.tup [V.ty "list", V.ty "tuple"]) hp
  have hv := hv.to sm
  have hg := hg.to sm
  walk_at "s"
  refine s_isiLT hv upd_same ?_
  walk_at "s"
  refine s_ite (fun e => ?_) (fun e => ?_)
  · obtain ⟨xs, hS, hL⟩ := hv.seq (K := K) e
    refine s_notT ?_
    walk_at "s"
    refine s_iSc hS fun J G W hG => ?_
    obtain ⟨as, rfl, e2, hA⟩ := hL.zip
    have hlen := hL.len
    rw [List.length_map] at hlen
    refine lc_f as (u := fun p => p.1) (fun p => if (!isCpl g.hs g.ls p.2) = true then some (.int 1) else none) W (List.length_map ..) (by omega) hG (fun D i x H1 c => ?_) (fun D H1 hD s1 e3 => ?_)
    · walk_at "s"
      refine ⟨rfl, ?_⟩
      walk_at "s"
      refine ⟨y, g, _, x.2, rfl, hg.to c.sm, (hA x (List.mem_of_getElem? c.ai)).to c.sm, fun H2 s2 => ?_⟩
      walk_at "s"
      refine s_iteN (fun e5 => ?_) (fun e5 => ?_)
      · walk_at "s"
        exact lc_yes c s2 (by rw [e5]; rfl)
      · exact lc_no c s2 (by rw [e5]; rfl)
    · rw [fm_if (fun p : V × PyData => !isCpl g.hs g.ls p.2) (fun _ => V.int 1)] at e3
      have q := q H1 (sm.trans s1)
      refine ⟨decide ((as.filter fun p => !isCpl g.hs g.ls p.2) ≠ []), .inl ⟨_, SqL.of e3, ?_⟩, ?_⟩
      · cases (as.filter fun p => !isCpl g.hs g.ls p.2) <;> rfl
      have e6 : (!decide ((as.filter fun p => !isCpl g.hs g.ls p.2) ≠ [])) = areC g d := by
        unfold areC
        rw [e, e2, Bool.true_and, List.all_map]
        cases hb : as.all ((isCpl g.hs g.ls) ∘ fun x => x.2) with
        | true =>
          rw [List.all_eq_true] at hb
          rw [decide_eq_false]
          · rfl
          · rw [ne_eq, Classical.not_not, List.filter_eq_nil_iff]
            intro a ha
            have := hb a ha
            show ¬ (!isCpl g.hs g.ls a.2) = true
            rw [show isCpl g.hs g.ls a.2 = true from this]
            decide
        | false =>
          rw [List.all_eq_false] at hb
          obtain ⟨a, ha, h⟩ := hb
          rw [decide_eq_true]
          · rfl
          · intro z
            rw [List.filter_eq_nil_iff] at z
            have := z a ha
            apply this
            show (!isCpl g.hs g.ls a.2) = true
            rw [show isCpl g.hs g.ls a.2 = false from by simpa using h]
            rfl
      rw [e6]
      exact q
  · have z : areC g d = false := by unfold areC; rw [e]; rfl
    have q := q _ sm
    rw [z] at q
    exact q
theorem c__law_are_couples (T : TX K mg) : Cal (L2.CX P w) P w K mg base 3 "_law_are_couples" sp_lcpls [] :=
  cal_mk T.f__law_are_couples T.g__law_are_couples ⟨rfl, rfl⟩ (fun _ _ _ _ _ _ us hl => match us, hl with | [_, _], _ => rfl) sc__law_are_couples (fun vs H Q E h => by obtain ⟨y, g, v, d, rfl, _⟩ := h; rfl) (k__law_are_couples T)
end

end K53
namespace K53
open PySem PySem.Spec PyProof.Rows L2
/-! ### the law's next numbers -/
def unF (f : Nat → List Nat) (S : List Nat) (m : Nat) : List Nat := (List.range m).filter fun b => S.any fun a => decide (b ∈ f a)
theorem mem_unF {f : Nat → List Nat} {S : List Nat} {m b : Nat} : b ∈ unF f S m ↔ b < m ∧ ∃ a ∈ S, b ∈ f a := by
  unfold unF
  rw [List.mem_filter, List.mem_range, List.any_eq_true]
  constructor
  · rintro ⟨h1, a, h2, h3⟩
    exact ⟨h1, a, h2, of_decide_eq_true h3⟩
  · rintro ⟨h1, a, h2, h3⟩
    exact ⟨h1, a, h2, decide_eq_true h3⟩
theorem haveK_old {n : Nat} {ns : List Nat} (h : n ∈ ns) : putK (haveK ns) (Sum.inl (n : Int)) (.bl true) = haveK ns := by
  unfold putK
  rw [if_pos]
  · conv => rhs; rw [← List.map_id (haveK ns)]
    refine List.map_congr_left fun kv hk => ?_
    unfold haveK at hk
    obtain ⟨m, _, rfl⟩ := List.mem_map.mp hk
    dsimp only [id]
    split <;> rfl
  · rw [List.any_eq_true]
    exact ⟨(Sum.inl (n : Int), .bl true), List.mem_map.mpr ⟨n, h, rfl⟩, decide_eq_true rfl⟩
def addN (ns : List Nat) (n : Nat) : List Nat := if n ∈ ns then ns else ns ++ [n]
theorem haveK_add {n : Nat} {ns : List Nat} : putK (haveK ns) (Sum.inl (n : Int)) (.bl true) = haveK (addN ns n) := by
  unfold addN
  by_cases h : n ∈ ns
  · rw [if_pos h, haveK_old h]
  · rw [if_neg h, haveK_put h]
theorem mem_addN {ns : List Nat} {n x : Nat} : x ∈ addN ns n ↔ x ∈ ns ∨ x = n := by
  unfold addN
  by_cases h : n ∈ ns
  · rw [if_pos h]
    exact ⟨.inl, fun z => z.elim id fun e => e ▸ h⟩
  · rw [if_neg h, List.mem_append, List.mem_singleton]
theorem nd_addN {ns : List Nat} {n : Nat} (h : ns.Nodup) : (addN ns n).Nodup := by
  unfold addN
  by_cases e : n ∈ ns
  · rw [if_pos e]; exact h
  · rw [if_neg e, List.nodup_append]
    refine ⟨h, by simp, fun a ha b hb => ?_⟩
    rw [List.mem_singleton.mp hb]
    exact fun z => e (z ▸ ha)
abbrev N__law_next : List Str := ["_law_ahead_here", "_law_numbers", "_law_found", "_law_at", "_law_goal"]
theorem sc__law_next : FnScope N__law_next ["_law_ahead_here", "_law_numbers"] (defScope s__law_next) := C8.fnScope_by (by decide +kernel)
def sp_lnext : Sp := fun vs H Q _ => ∃ L N xs S, ∃ f : Nat → List Nat, ∃ m : Nat, vs = [.ref L, .ref N] ∧ H L = some (.lst xs) ∧ H N = some (.lst (ivs S)) ∧ m ≤ 16 ∧
  (∀ a ∈ S, ∃ q, xs[a]? = some (.ref q) ∧ H q = some (.lst (ivs (f a))) ∧ (f a).length ≤ 100000 ∧ ∀ b ∈ f a, b < m) ∧ ∀ D H', Same H H' → H D = none → H' D = some (.lst (ivs (unF f S m))) → Q (.ref D) H'
section
variable {P : Program} {w : World} {K : PySem.W.Frag} {mg : Str → Option Value} {base : Heap}
theorem k__law_next (T : TX K mg) : Keeps (L2.CX P w) P w K mg base d__law_next N__law_next 0 sp_lnext := by
  intro cdv A outer s H vs Q E hr hsp
  obtain ⟨L, N, xs, S, f, m, rfl, hL, hN, hm, hf, q⟩ := hsp
  have nd := sc__law_next.nd
  have hu := hu_of hr
  have hu64 := hr.units
  refine ⟨_, (pss_cons (ps_set (i := 2) nd rfl (Or.inl rfl) pe_dnewK)
  (pss_cons (ps_for (passes_of rfl) rfl (pi_listK (K := K) rfl (pv 1)) (pg_name (i := 3) nd rfl (Or.inl rfl)) (pss_one (ps_for (passes_of rfl) rfl (pi_listK (K := K) rfl (pe_ix (ix_listK (K := K) rfl) (pv 0) (pv 3) (fun _ _ => rfl))) (pg_name (i := 4) nd rfl (Or.inl rfl)) (pss_one (ps_dput hu (pv 2) (pv 4) pe_bl rfl)))))
  (pss_one (ps_ret (pe_callB (cr_sortedIK (K := K) rfl) (by rfl) T.b_sorted (by decide +kernel) (pa_cons (pe_callTy (call_list_dK rfl) (by rfl) T.b_list (by decide +kernel) (pa_cons (pv 2) pa_nil)) pa_nil)))))), ?_⟩
  refine st_eq (σ := [some (.ref L), some (.ref N), none, none, none]) rfl ?_
  walk_at "s"
  refine s_dnewK fun D hD => ?_
  have s0 := L2.Same.up (o := HO.dK []) hD
  walk_at "s"
  refine s_iLf (SqL.of (s0 _ _ hN)) ?_
  refine for_f (u := fun (n : Nat) => V.int (n : Int)) S walk_list (List.length_map ..) (fun i σ H3 => ∃ x1 x2 ms, σ = [some (.ref L), some (.ref N), some (.ref D), x1, x2] ∧ Same H H3 ∧ H3 D = some (.dK (haveK ms)) ∧ ms.Nodup ∧ (∀ b ∈ ms, b < m) ∧ ∀ b, b ∈ ms ↔ ∃ a ∈ S.take i, b ∈ f a) ⟨_, _, [], rfl, s0, upd_same, List.nodup_nil, fun _ h => (by cases h), fun b => ⟨fun h => (by cases h), fun ⟨a, h, _⟩ => (by cases h)⟩⟩ (fun i σ H3 hP => ?_) (fun i a σ H3 ha hP => ?_) (fun σ H3 hP => ?_)
  · obtain ⟨x1, x2, ms, rfl, s3, _⟩ := hP
    exact SqL.of (s3 _ _ hN)
  · obtain ⟨x1, x2, ms, rfl, s3, h1, h2, h3, h4⟩ := hP
    obtain ⟨qa, e1, e2, e3, e4⟩ := hf a (List.mem_of_getElem? ha)
    walk_at "s"
    refine s_ixL (SqL.of (s3 _ _ hL)) e1 ?_
    walk_at "s"
    refine s_iLf (SqL.of (s3 _ _ e2)) ?_
    refine for_f (u := fun (n : Nat) => V.int (n : Int)) (f a) walk_list (List.length_map ..) (fun j σ H4 => ∃ x2 ms, σ = [some (.ref L), some (.ref N), some (.ref D), some (.int (a : Int)), x2] ∧ Same H H4 ∧ H4 D = some (.dK (haveK ms)) ∧ ms.Nodup ∧ (∀ b ∈ ms, b < m) ∧ ∀ b, b ∈ ms ↔ (∃ a ∈ S.take i, b ∈ f a) ∨ b ∈ (f a).take j) ⟨_, ms, rfl, s3, h1, h2, h3, fun b => by rw [h4 b]; exact ⟨.inl, fun z => z.elim id fun z => (by cases z)⟩⟩ (fun j σ H4 hP => ?_) (fun j b σ H4 hb hP => ?_) (fun σ H4 hP => ?_)
    · obtain ⟨x2, ms, rfl, s4, _⟩ := hP
      exact SqL.of (s4 _ _ e2)
    · obtain ⟨x2, ms, rfl, s4, h1, h2, h3, h4⟩ := hP
      have hbm := e4 b (List.mem_of_getElem? hb)
      have hlen : ms.length ≤ 16 := Nat.le_trans (nd_lt h2 h3) hm
      walk_at "s"
      refine ⟨D, _, rfl, DPut.k (k := Sum.inl (b : Int)) h1 (sz16l (by rw [haveK_len]; omega)), ?_⟩
      rw [haveK_add]
      refine ⟨_, addN ms b, rfl, s4.mut hD, upd_same, nd_addN h2, fun z hz => ?_, fun z => ?_⟩
      · rcases mem_addN.mp hz with hz | hz
        · exact h3 z hz
        · rw [hz]; exact hbm
      · rw [mem_addN, h4 z, List.take_add_one, hb, List.mem_append]
        show _ ↔ _ ∨ _ ∨ z ∈ [b]
        rw [List.mem_singleton, or_assoc]
    · obtain ⟨x2, ms, rfl, s4, h1, h2, h3, h4⟩ := hP
      refine ⟨_, _, ms, rfl, s4, h1, h2, h3, fun b => ?_⟩
      rw [h4 b, List.take_length, List.take_add_one, ha]
      constructor
      · rintro (⟨a', h, h'⟩ | h)
        · exact ⟨a', List.mem_append_left _ h, h'⟩
        · exact ⟨a, List.mem_append_right _ (List.mem_singleton.mpr rfl), h⟩
      · rintro ⟨a', h, h'⟩
        rcases List.mem_append.mp h with h | h
        · exact .inl ⟨a', h, h'⟩
        · rw [List.mem_singleton.mp (show a' ∈ [a] from h)] at h'
          exact .inr h'
  · obtain ⟨x1, x2, ms, rfl, s3, h1, h2, h3, h4⟩ := hP
    rw [List.take_length] at h4
    walk_at "s"
    refine ⟨D, _, rfl, h1, fun l hl => ?_⟩
    have eK : (haveK ms).map (fun kv => kV kv.1) = ivs ms := by
      unfold haveK ivs
      rw [List.map_map]
      rfl
    rw [eK]
    walk_at "s"
    refine ⟨_, _, rfl, by rw [← iv_int]; exact SqL.of upd_same, fun ns' t hp hs ht => ?_⟩
    have e := srt_eq (bs := unF f S m) hp hs h2 filter_lt fun b => by
      rw [mem_unF, h4 b]
      exact ⟨fun z => ⟨h3 b ((h4 b).mpr z), z⟩, fun z => z.2⟩
    subst e
    rw [← iv_int]
    have hlH : H l = none := by
      cases e : H l with
      | none => rfl
      | some o => have := s3 _ _ e; rw [hl] at this; cases this
    have s5 := (s3.trans (L2.Same.up (o := HO.lst (ivs ms)) hl)).trans (L2.Same.up (o := HO.lst (ivs (unF f S m))) ht)
    refine q t _ s5 ?_ upd_same
    cases e : H t with
    | none => rfl
    | some o => have := (s3.trans (L2.Same.up (o := HO.lst (ivs ms)) hl)) _ _ e; rw [ht] at this; cases this
theorem c__law_next (T : TX K mg) : Cal (L2.CX P w) P w K mg base 1 "_law_next" sp_lnext [] :=
  cal_mk T.f__law_next T.g__law_next ⟨rfl, rfl⟩ (fun _ _ _ _ _ _ us hl => match us, hl with | [_, _], _ => rfl) sc__law_next (fun vs H Q E h => by obtain ⟨L, N, xs, S, f, m, rfl, _⟩ := h; rfl) (k__law_next T)
end

end K53
namespace K53
open PySem PySem.Spec PyProof.Rows L2
/-! ### the law's lots -/
theorem hu65_of {k : Nat} {A : Around} (r : Room k A) : A.units + 65 < cLine := by have := r.un; omega
theorem pl1L (ns : List Nat) : pl 1 (.list (ivD ns)) = true := by
  show plA 0 (ivD ns) = true
  refine plA_all fun d hd => ?_
  unfold ivD at hd
  obtain ⟨n, _, rfl⟩ := List.mem_map.mp hd
  rfl
theorem eqvL (ms ns : List Nat) : PyData.eqv (.list (ivD ms)) (.list (ivD ns)) = decide (ms = ns) := by
  by_cases e : ms = ns
  · rw [decide_eq_true e, pl_eqv 1 _ _ (pl1L ms) (pl1L ns), e]
  · rw [decide_eq_false e]
    cases h : PyData.eqv (.list (ivD ms)) (.list (ivD ns)) with
    | false => rfl
    | true =>
      have h := (pl_eqv 1 _ _ (pl1L ms) (pl1L ns)).mp h
      exact absurd (ivD_inj (by injection h)) e
theorem unF_nxt (g : Hou) (S : List Nat) : unF g.ahead S g.n = g.nxt S := by
  unfold unF Hou.nxt
  refine List.filter_congr fun b hb => ?_
  have hb := List.mem_range.mp hb
  congr 1
  funext a
  cases e : g.stp a b with
  | true => exact decide_eq_true (Hou.mem_ahead.mpr ⟨hb, e⟩)
  | false => exact decide_eq_false fun z => by have := (Hou.mem_ahead.mp z).2; rw [e] at this; cases this
structure LotsP (H : Hp) (D : Addr) (f : Nat → List Nat) (i : Nat) : Prop where
  at_ : ∃ ts : List Addr, H D = some (.lst (ts.map V.ref)) ∧ ts.length = i ∧ ∀ a, a < i → ∃ t, ts[a]? = some t ∧ t ≠ D ∧ H t = some (.lst (ivs (f a)))
theorem LotsP.toS {H H' : Hp} {D : Addr} {f : Nat → List Nat} {i : Nat} (h : LotsP H D f i) (s : SameS H H') : LotsP H' D f i := by
  obtain ⟨ts, a, b, c⟩ := h.at_
  refine ⟨ts, s _ (.lst (ts.map V.ref)) (nh_refs ts) a, b, fun k hk => ?_⟩
  obtain ⟨t, e1, e2, e3⟩ := c k hk
  exact ⟨t, e1, e2, s _ (.lst (ivs (f k))) (nh_ivs _) e3⟩
theorem LotsP.to {H H' : Hp} {D : Addr} {f : Nat → List Nat} {i : Nat} (h : LotsP H D f i) (s : Same H H') : LotsP H' D f i := h.toS s.toS
theorem LotsP.put {H : Hp} {D t : Addr} {f : Nat → List Nat} {i : Nat} (h : LotsP H D f i) (hi : i < 10000) (ht : H t = some (.lst (ivs (f i)))) (htD : t ≠ D) : ∃ acc, H D = some (.lst acc) ∧ acc.length < sizeLine ∧ LotsP (upd H D (.lst (acc ++ [.ref t]))) D f (i + 1) := by
  obtain ⟨ts, a, b, c⟩ := h.at_
  refine ⟨_, a, sz16l (by rw [List.length_map]; omega), ⟨ts ++ [t], by rw [upd_same, List.map_append]; rfl, by rw [List.length_append, b]; rfl, fun k hk => ?_⟩⟩
  by_cases e : k < i
  · obtain ⟨t', e1, e2, e3⟩ := c k e
    exact ⟨t', by rw [List.getElem?_append_left (by omega)]; exact e1, e2, by rw [upd_ne e2]; exact e3⟩
  · have : k = i := by omega
    subst this
    exact ⟨t, by rw [List.getElem?_append_right (by omega), b, Nat.sub_self]; rfl, htD, by rw [upd_ne htD]; exact ht⟩
def lotsD (f : Nat → List Nat) (i : Nat) : List PyData := (List.range i).map fun j => .list (ivD (f j))
theorem LotsP.hd {H : Hp} {D : Addr} {f : Nat → List Nat} {i : Nat} (h : LotsP H D f i) : Hd H (.ref D) (.list (lotsD f i)) := by
  obtain ⟨ts, a, b, c⟩ := h.at_
  refine .lst a (nh_refs ts) (hdL_of (as := List.range i) (fun j => PyData.list (ivD (f j))) (by rw [List.length_map, List.length_range]; exact b) fun j k hk => ?_)
  obtain ⟨h1, h2⟩ := List.getElem?_eq_some_iff.mp hk
  rw [List.getElem_range] at h2
  rw [List.length_range] at h1
  subst h2
  obtain ⟨t, e1, _, e3⟩ := c j h1
  exact ⟨_, by rw [List.getElem?_map, e1]; rfl, Hd.iv e3⟩
theorem pl2L (f : Nat → List Nat) (i : Nat) : pl 2 (.list (lotsD f i)) = true := by
  show plA 1 (lotsD f i) = true
  refine plA_all fun d hd => ?_
  unfold lotsD at hd
  obtain ⟨n, _, rfl⟩ := List.mem_map.mp hd
  exact pl1L _
def LLotsO (H : Hp) (r : Addr) (f : Nat → List Nat) (T m : Nat) : Prop := ∃ L, H r = some (.lst [.ref L, .int (m : Int)]) ∧ LotsP H L f T
theorem LLotsO.toS {H H' : Hp} {r : Addr} {f : Nat → List Nat} {T m : Nat} (h : LLotsO H r f T m) (s : SameS H H') : LLotsO H' r f T m := by
  obtain ⟨L, a, b⟩ := h
  exact ⟨L, s _ (.lst [.ref L, .int (m : Int)]) rfl a, b.toS s⟩
abbrev N__law_lots : List Str := ["_law_ahead_here", "_law_numbers", "_law_lots_here", "_law_now", "_law_step"]
theorem sc__law_lots : FnScope N__law_lots ["_law_ahead_here", "_law_numbers"] (defScope s__law_lots) := C8.fnScope_by (by decide +kernel)
def sp_llots : Sp := fun vs H Q _ => ∃ L N g S, vs = [.ref L, .ref N] ∧ Hou.Ok g ∧ AhP H L g g.n ∧ H N = some (.lst (ivs S)) ∧ S.Pairwise (· < ·) ∧ (∀ x ∈ S, x < g.n) ∧
  ∀ r H' T m, Same H H' → Orb (g.lot S) T m → LLotsO H' r (g.lot S) T m → Q (.ref r) H'
section
variable {P : Program} {w : World} {K : PySem.W.Frag} {mg : Str → Option Value} {base : Heap}
theorem k__law_lots (T : TX K mg) : Keeps (L2.CX P w) P w K mg base d__law_lots N__law_lots 1 sp_llots := by
  intro cdv A outer s H vs Q E hr hsp
  obtain ⟨L, N, g, S, rfl, o, hL, hN, hSp, hlt, q⟩ := hsp
  have nd := sc__law_lots.nd
  have hu := hu_of hr
  have hu64 := hr.units
  refine ⟨_, (pss_cons (ps_set (i := 2) nd rfl (Or.inl rfl) (pe_lst pa_nil))
  (pss_cons (ps_set (i := 3) nd rfl (Or.inl rfl) (pe_callB (cr_sortedIK (K := K) rfl) (by rfl) T.b_sorted (by decide +kernel) (pa_cons (pv 1) pa_nil)))
  (pss_cons (ps_for (passes_of rfl) rfl (pi_range1 (by rfl) T.b_range (pa_cons pe_int pa_nil)) (pg_name (i := 4) nd rfl (Or.inl rfl)) (pss_cons (ps_if (pt_cmpR (op_inDK (K := K) rfl (hu65_of hr)) (pv 3) (pv 2) (by rfl)) (pss_one ps_break) pss_nil)
  (pss_cons (ps_expr (pe_bmK (K := K) rfl PySem.F.plainAttrs_list PySem.F.slot_list_append PySem.F.type_list_append mt_append (pv 2) (pa_cons (pv 3) pa_nil)))
  (pss_one (ps_set (i := 3) nd rfl (Or.inl rfl) (pe_cl (c__law_next T) hr (by decide) (pa_cons (pv 0) (pa_cons (pv 3) pa_nil)) passL))))))
  (pss_one (ps_ret (pe_lst (pa_cons (pv 2) (pa_cons (pe_bmK (K := K) rfl PySem.F.plainAttrs_list PySem.F.slot_list_index PySem.F.type_list_index (mt_indexDK (K := K) rfl (hu65_of hr)) (pv 2) (pa_cons (pv 3) pa_nil)) pa_nil)))))))), ?_⟩
  refine st_eq (σ := [some (.ref L), some (.ref N), none, none, none]) rfl ?_
  walk_at "s"
  refine s_tl (by decide) fun D hD => ?_
  walk_at "s"
  refine ⟨_, _, rfl, by rw [← iv_int]; exact SqL.of ((L2.Same.up hD) _ _ hN), fun ns' now hp hs hnow => ?_⟩
  have e := srt_eq (bs := S) hp hs (hSp.imp fun h => Nat.ne_of_lt h) hSp fun _ => Iff.rfl
  subst e
  rw [← iv_int]
  walk_at "s"
  refine s_i1f (n := 2000) (by decide) ?_
  have s0 : Same H (upd (upd H D (.lst [])) now (.lst (ivs S))) := (L2.Same.up hD).upT hnow
  have hnD : now ≠ D := fun e => by rw [e, upd_same] at hnow; cases hnow
  refine for_f (u := fun (n : Nat) => V.int (n : Int)) (List.range 2000) walk_r List.length_range.symm (fun i σ H3 => ∃ now x4, σ = [some (.ref L), some (.ref N), some (.ref D), some (.ref now), x4] ∧ Same H H3 ∧ now ≠ D ∧ (∀ j k, j < k → k < i → g.lot S j ≠ g.lot S k) ∧ H3 now = some (.lst (ivs (g.lot S i))) ∧ LotsP H3 D (g.lot S) i) ⟨now, _, rfl, s0, hnD, fun j k h1 h2 => absurd h2 (Nat.not_lt_zero _), upd_same, ⟨[], by rw [upd_ne (Ne.symm hnD), upd_same]; rfl, rfl, fun _ h => absurd h (Nat.not_lt_zero _)⟩⟩ (fun _ _ _ _ => trivial) (fun i a σ H3 ha hP => ?_) (fun σ H3 hP => ?_)
  · obtain ⟨now, x4, rfl, s3, hnD, hdis, hnow, hLo⟩ := hP
    obtain ⟨hi, rfl⟩ : ∃ hi : i < 2000, a = i := by
      obtain ⟨h1, h2⟩ := List.getElem?_eq_some_iff.mp ha
      rw [List.getElem_range] at h2
      exact ⟨by rw [List.length_range] at h1; exact h1, h2.symm⟩
    walk_at "s"
    have hd1 : Hd H3 (.ref now) (.list (ivD (g.lot S a))) := Hd.iv hnow
    have hd2 := hLo.hd
    refine ⟨_, _, hd1.dp K _ _ (pl_lay 1 _ (pl1L _)).1, hd2.dp K _ _ (pl_lay 2 _ (pl2L _ _)).1, pl_shaped (pl1L _) (by decide), pl_shaped (pl2L _ _) (by decide), ?_⟩
    walk_at "s"
    have eAny : ((lotsD (g.lot S) a).any fun z => PyData.eqv z (.list (ivD (g.lot S a)))) = decide (∃ j, j < a ∧ g.lot S j = g.lot S a) := by
      unfold lotsD
      rw [List.any_map]
      by_cases h : ∃ j, j < a ∧ g.lot S j = g.lot S a
      · rw [decide_eq_true h, List.any_eq_true]
        obtain ⟨j, h1, h2⟩ := h
        exact ⟨j, List.mem_range.mpr h1, by show PyData.eqv _ _ = true; rw [eqvL, decide_eq_true h2]⟩
      · rw [decide_eq_false h, List.any_eq_false]
        intro j hj z
        rw [show ((fun z => PyData.eqv z (.list (ivD (g.lot S a)))) ∘ fun j => PyData.list (ivD (g.lot S j))) j = decide (g.lot S j = g.lot S a) from eqvL _ _] at z
        exact h ⟨j, List.mem_range.mp hj, of_decide_eq_true z⟩
    rw [eAny]
    refine s_iteD (fun hin => ?_) (fun hin => ?_)
    · obtain ⟨j, hj, ej⟩ := hin
      walk_at "s"
      have hDat := hLo.at_
      obtain ⟨ts, d1, _⟩ := hDat
      refine ⟨tyL d1, ?_⟩
      walk_at "s"
      refine ⟨D, _, .list (ivD (g.lot S a)), lotsD (g.lot S) a, j, .list (ivD (g.lot S j)), rfl, rfl, hd2.dp K _ _ (pl_lay 2 _ (pl2L _ _)).1, hd1.dp K _ _ (pl_lay 1 _ (pl1L _)).1, pl_shaped (pl2L _ _) (by decide), pl_shaped (pl1L _) (by decide), ?_, ?_, fun m z' hm hz' => ?_, ?_⟩
      · unfold lotsD
        rw [List.getElem?_map, List.getElem?_range hj]
        rfl
      · rw [eqvL, decide_eq_true ej]
      · unfold lotsD at hz'
        rw [List.getElem?_map, List.getElem?_range (by omega)] at hz'
        have hz' := Option.some.inj hz'
        rw [← hz', eqvL]
        exact decide_eq_false fun e => hdis m j hm hj (e.trans ej.symm)
      · walk_at "s"
        refine s_tl (Nat.le_of_ble_eq_true rfl) fun r hrn => ?_
        have s4 : Same H3 (upd H3 r (.lst [.ref D, .int (j : Int)])) := L2.Same.up hrn
        exact q r _ a j (s3.trans s4) ⟨hj, ej.symm, hdis⟩ ⟨D, upd_same, hLo.to s4⟩
    · have hdis2 : ∀ j k, j < k → k < a + 1 → g.lot S j ≠ g.lot S k := fun j k h1 h2 => by
        by_cases e : k = a
        · subst e
          exact fun z => hin ⟨j, h1, z⟩
        · exact hdis j k h1 (by omega)
      walk_at "s"
      obtain ⟨acc, k1, k2, k3⟩ := hLo.put (by omega) hnow hnD
      refine ⟨tyL k1, ?_⟩
      walk_at "s"
      refine ⟨D, acc, _, rfl, rfl, k1, k2, ?_⟩
      have s5 := s3.mut (o := HO.lst (acc ++ [.ref now])) hD
      walk_at "s"
      obtain ⟨ts, t1, t2, t3⟩ := (hL.to s5).at_
      refine ⟨L, now, _, g.lot S a, g.ahead, g.n, rfl, t1, by rw [upd_ne hnD]; exact hnow, o.n16, fun b hb => ?_, fun r H' s6 hrn hr' => ?_⟩
      · obtain ⟨t, e1, _, e3⟩ := t3 b (Hou.lot_lt hlt a b hb)
        refine ⟨t, by rw [List.getElem?_map, e1]; rfl, e3, ?_, fun c hc => (Hou.mem_ahead.mp hc).1⟩
        unfold Hou.ahead
        have := List.length_filter_le (g.stp b) (List.range g.n)
        rw [List.length_range] at this
        have := o.n16
        omega
      · rw [unF_nxt] at hr'
        have hrD : r ≠ D := fun e => by rw [e, upd_same] at hrn; cases hrn
        walk_at "s"
        exact ⟨r, _, rfl, s5.trans s6, hrD, hdis2, hr', k3.to s6⟩
  · obtain ⟨now, x4, rfl, s3, hnD, hdis, hnow, hLo⟩ := hP
    rw [List.length_range] at hdis
    have := Hou.dif_le o hlt hdis
    omega
theorem c__law_lots (T : TX K mg) : Cal (L2.CX P w) P w K mg base 2 "_law_lots" sp_llots [] :=
  cal_mk T.f__law_lots T.g__law_lots ⟨rfl, rfl⟩ (fun _ _ _ _ _ _ us hl => match us, hl with | [_, _], _ => rfl) sc__law_lots (fun vs H Q E h => by obtain ⟨L, N, g, S, rfl, _⟩ := h; rfl) (k__law_lots T)
end

end K53
namespace K53
open PySem PySem.Spec PyProof.Rows L2
/-! ### the law's steps -/
theorem Hou.stp_num {g : Hou} (o : g.Ok) {c d : Nat × Nat} (hc : inR g c) (hd : inR g d) : d.1 * g.ls + d.2 ∈ g.ahead (c.1 * g.ls + c.2) ↔ g.stC c d = true := by
  rw [Hou.mem_ahead]
  unfold Hou.stp Hou.stC
  rw [Hou.num_div o hc.2, Hou.num_mod o hc.2, Hou.num_div o hd.2, Hou.num_mod o hd.2]
  exact ⟨fun h => h.2, fun h => ⟨Hou.num_lt o hd.1 hd.2, h⟩⟩
abbrev N__law_goes : List Str := ["_law_house_here", "_law_couples", "_law_ahead_here", "_law_at"]
theorem sc__law_goes : FnScope N__law_goes ["_law_house_here", "_law_couples"] (defScope s__law_goes) := C8.fnScope_by (by decide +kernel)
def sp_lgoes (K : PySem.W.Frag) : Sp := fun vs H Q _ => ∃ y g v xs cs, vs = [.ref y, v] ∧ LHo H y g ∧ Seq K H v xs ∧ HdL H xs (cs.map cpD) ∧ (∀ c ∈ cs, inR g c) ∧ cs ≠ [] ∧ cs.length ≤ 100000 ∧
  (chain g cs → ∀ H', Same H H' → Q (.bl true) H') ∧ (¬ chain g cs → ∀ H', Same H H' → Q (.bl false) H')
section
variable {P : Program} {w : World} {K : PySem.W.Frag} {mg : Str → Option Value} {base : Heap}
theorem k__law_goes (T : TX K mg) : Keeps (L2.CX P w) P w K mg base d__law_goes N__law_goes 1 (sp_lgoes K) := by
  intro cdv A outer s H vs Q E hr hsp
  obtain ⟨y, g, v, xs, cs, rfl, hg, hS, hL, hin, hne, hz, q1, q2⟩ := hsp
  have o := hg.ok
  have o1 := o.l4
  have hl := hL.len
  rw [List.length_map] at hl
  have hpos : 1 ≤ cs.length := List.length_pos_iff.mpr hne
  have nd := sc__law_goes.nd
  have hu := hu_of hr
  have hu64 := hr.units
  refine ⟨_, (pss_cons (ps_set (i := 2) nd rfl (Or.inl rfl) (pe_cl (c__law_ahead T) hr (by decide) (pa_cons (pv 0) pa_nil) passL))
  (pss_cons (ps_for (passes_of rfl) rfl (pi_range1 (by rfl) T.b_range (pa_cons (pe_op op_sub (pe_callB (call_lenK (K := K) rfl) (by rfl) T.b_len PySem.boot_len (pa_cons (pv 1) pa_nil)) pe_int) pa_nil)) (pg_name (i := 3) nd rfl (Or.inl rfl)) (pss_one (ps_if (pt_cmpR (op_notInK (K := K) rfl) (pe_op op_add (pe_op op_mul (pe_ix (ix_tupK (K := K) rfl) (pe_ix (ix_seqK (K := K) rfl) (pv 1) (pe_op op_add (pv 3) pe_int) (fun _ _ => rfl)) pe_int (fun _ _ => rfl)) (pe_ix (ix_listK (K := K) rfl) (pv 0) pe_int (fun _ _ => rfl))) (pe_ix (ix_tupK (K := K) rfl) (pe_ix (ix_seqK (K := K) rfl) (pv 1) (pe_op op_add (pv 3) pe_int) (fun _ _ => rfl)) pe_int (fun _ _ => rfl))) (pe_ix (ix_listK (K := K) rfl) (pv 2) (pe_op op_add (pe_op op_mul (pe_ix (ix_tupK (K := K) rfl) (pe_ix (ix_seqK (K := K) rfl) (pv 1) (pv 3) (fun _ _ => rfl)) pe_int (fun _ _ => rfl)) (pe_ix (ix_listK (K := K) rfl) (pv 0) pe_int (fun _ _ => rfl))) (pe_ix (ix_tupK (K := K) rfl) (pe_ix (ix_seqK (K := K) rfl) (pv 1) (pv 3) (fun _ _ => rfl)) pe_int (fun _ _ => rfl))) (fun _ _ => rfl)) (by rfl)) (pss_one (ps_ret pe_bl)) pss_nil)))
  (pss_one (ps_ret pe_bl)))), ?_⟩
  refine st_eq (σ := [some (.ref y), some (v), none, none]) rfl ?_
  walk_at "s"
  refine ⟨y, g, rfl, hg, fun L H1 s1 hA => ?_⟩
  walk_at "s"
  refine s_len (hS.to s1) ?_
  rw [hl]
  walk_at "s"
  rw [show ((cs.length : Int) - 1) = ((cs.length - 1 : Nat) : Int) by omega]
  refine s_i1f (n := cs.length - 1) (by omega) ?_
  refine for_f (u := fun (n : Nat) => V.int (n : Int)) (List.range (cs.length - 1)) walk_r List.length_range.symm (fun i σ H3 => ∃ x, σ = [some (.ref y), some v, some (.ref L), x] ∧ Same H H3 ∧ AhP H3 L g g.n ∧ ∀ j b c, j < i → cs[j]? = some b → cs[j + 1]? = some c → g.stC b c = true)
    ⟨_, rfl, s1, hA, fun j _ _ h => absurd h (Nat.not_lt_zero _)⟩ (fun _ _ _ _ => trivial) (fun i a σ H3 hi hP => ?_) (fun σ H3 hP => ?_)
  · obtain ⟨x, rfl, sm, hA, hst⟩ := hP
    obtain ⟨hi, rfl⟩ : ∃ hi : i < cs.length - 1, a = i := by
      obtain ⟨h1, h2⟩ := List.getElem?_eq_some_iff.mp hi
      rw [List.getElem_range] at h2
      exact ⟨by rw [List.length_range] at h1; exact h1, h2.symm⟩
    have hS3 := hS.to sm
    have hL3 := hL.to sm
    have hg3 := hg.to sm
    have ha0 : a < cs.length := by omega
    have ha1 : a + 1 < cs.length := by omega
    obtain ⟨v0, e0, d0⟩ := hL3.get (i := a) (d := cpD cs[a]) (by rw [List.getElem?_map, List.getElem?_eq_getElem ha0]; rfl)
    obtain ⟨v1, e1, d1⟩ := hL3.get (i := a + 1) (d := cpD cs[a + 1]) (by rw [List.getElem?_map, List.getElem?_eq_getElem ha1]; rfl)
    obtain ⟨p0, rfl, h0⟩ := d0.cp
    obtain ⟨p1, rfl, h1⟩ := d1.cp
    have i0 := hin _ (List.getElem_mem ha0)
    have i1 := hin _ (List.getElem_mem ha1)
    have o2 := o.h4
    have b0 := i0.1
    have b1 := i1.1
    walk_at "s"
    refine s_ixS hS3 e1 ?_
    walk_at "s"
    refine s_ixT0 (SqT.of h1) ?_
    walk_at "s"
    refine s_h1 hg3 ?_
    walk_at "s"
    refine s_mulN (by omega) ?_
    walk_at "s"
    refine s_ixS hS3 e1 ?_
    walk_at "s"
    refine s_ixT1 (SqT.of h1) ?_
    walk_at "s"
    refine s_ixS hS3 e0 ?_
    walk_at "s"
    refine s_ixT0 (SqT.of h0) ?_
    walk_at "s"
    refine s_h1 hg3 ?_
    walk_at "s"
    refine s_mulN (by omega) ?_
    walk_at "s"
    refine s_ixS hS3 e0 ?_
    walk_at "s"
    refine s_ixT1 (SqT.of h0) ?_
    walk_at "s"
    have hAat := hA.at_
    obtain ⟨ts, t1, t2, t3⟩ := hAat
    obtain ⟨t, f1, _, f3⟩ := t3 (cs[a].1 * g.ls + cs[a].2) (Hou.num_lt o i0.1 i0.2)
    refine s_ixL (v := .ref t) (SqL.of t1) (by rw [List.getElem?_map, f1]; rfl) ?_
    refine s_ninN (.inl f3) ?_
    walk_at "s"
    refine s_iteND (fun e => ?_) (fun e => ?_)
    · walk_at "s"
      refine q2 (fun hc => e ?_) H3 sm
      rw [Hou.stp_num o i0 i1]
      exact hc a _ _ (List.getElem?_eq_getElem ha0) (List.getElem?_eq_getElem ha1)
    · walk_at "s"
      rw [Hou.stp_num o i0 i1] at e
      refine ⟨_, rfl, sm, hA, fun j b c hj hb hc => ?_⟩
      by_cases ej : j = a
      · subst ej
        rw [List.getElem?_eq_getElem ha0] at hb
        rw [List.getElem?_eq_getElem ha1] at hc
        have hb := Option.some.inj hb
        have hc := Option.some.inj hc
        rw [← hb, ← hc]
        exact e
      · exact hst j b c (by omega) hb hc
  · obtain ⟨x, rfl, sm, hA, hst⟩ := hP
    rw [List.length_range] at hst
    walk_at "s"
    refine q1 (fun j b c hb hc => hst j b c ?_ hb hc) H3 sm
    have := (List.getElem?_eq_some_iff.mp hc).1
    omega
theorem c__law_goes (T : TX K mg) : Cal (L2.CX P w) P w K mg base 2 "_law_goes" (sp_lgoes K) [] :=
  cal_mk T.f__law_goes T.g__law_goes ⟨rfl, rfl⟩ (fun _ _ _ _ _ _ us hl => match us, hl with | [_, _], _ => rfl) sc__law_goes (fun vs H Q E h => by obtain ⟨y, g, v, xs, cs, rfl, _⟩ := h; rfl) (k__law_goes T)
end

end K53
namespace K53
open PySem PySem.Spec PyProof.Rows L2
/-! ### the law's far days, its truths -/
abbrev N__law_far : List Str := ["_law_hand_here", "_law_kind"]
theorem sc__law_far : FnScope N__law_far ["_law_hand_here"] (defScope s__law_far) := C8.fnScope_by (by decide +kernel)
abbrev N__law_truth : List Str := ["_law_truths", "_law_head", "_law_number"]
theorem sc__law_truth : FnScope N__law_truth ["_law_truths", "_law_head", "_law_number"] (defScope s__law_truth) := C8.fnScope_by (by decide +kernel)
def sp_far : Sp := fun vs H Q _ => ∃ x c, vs = [.ref x] ∧ HandO H x c ∧ ∀ (d : Nat) H', d ≤ 1000000000000000000000000000000 → SameS H H' → HandO H' x c → Q (.int (d : Int)) H'
def blv (f : Nat → Bool) (n : Nat) : List V := (List.range n).map fun i => V.bl (f i)
theorem blv_at {f : Nat → Bool} {n i : Nat} (h : i < n) : (blv f n)[i]? = some (.bl (f i)) := by unfold blv; rw [List.getElem?_map, List.getElem?_range h]; rfl
theorem blv_len (f : Nat → Bool) (n : Nat) : (blv f n).length = n := by unfold blv; rw [List.length_map, List.length_range]
def sp_truth : Sp := fun vs H Q _ => ∃ t f, ∃ T m n : Nat, vs = [.ref t, .int (m : Int), .int (n : Int)] ∧ H t = some (.lst (blv f T)) ∧ m < T ∧ (∀ k, m ≤ k → f (k + (T - m)) = f k) ∧ Q (.bl (f n)) H
section
variable {P : Program} {w : World} {K : PySem.W.Frag} {mg : Str → Option Value} {base : Heap}
theorem k__law_far (T : TX K mg) : Keeps (L2.CX P w) P w K mg base d__law_far N__law_far 2 sp_far := by
  intro cdv A outer s H vs Q E hr hsp
  obtain ⟨x, c, rfl, hh, q⟩ := hsp
  have nd := sc__law_far.nd
  have hu := hu_of hr
  have hu64 := hr.units
  refine ⟨_, (pss_cons (ps_set (i := 1) nd rfl (Or.inl rfl) (pe_cl (c__law_take T) hr (by decide) (pa_cons (pv 0) (pa_cons pe_int pa_nil)) passL))
  (pss_cons (ps_if (pt_cmpR op_eq (pv 1) pe_int (nomark _)) (pss_one (ps_ret (pe_op op_sub (pe_op op_pow pe_int pe_int) (pe_cl (c__law_take T) hr (by decide) (pa_cons (pv 0) (pa_cons pe_int pa_nil)) passL)))) pss_nil)
  (pss_cons (ps_if (pt_cmpR op_eq (pv 1) pe_int (nomark _)) (pss_one (ps_ret (pe_cl (c__law_take T) hr (by decide) (pa_cons (pv 0) (pa_cons pe_int pa_nil)) passL))) pss_nil)
  (pss_one (ps_ret (pe_op op_add (pe_op op_mul (pe_cl (c__law_take T) hr (by decide) (pa_cons (pv 0) (pa_cons (pe_op op_pow pe_int pe_int) pa_nil)) passL) (pe_op op_pow pe_int pe_int)) (pe_cl (c__law_take T) hr (by decide) (pa_cons (pv 0) (pa_cons (pe_op op_pow pe_int pe_int) pa_nil)) passL))))))), ?_⟩
  refine st_eq (σ := [some (.ref x), none]) rfl ?_
  walk_at "s"
  refine ⟨x, c, 4, rfl, hh, by decide, by decide, fun k H1 hk s1 hh1 => ?_⟩
  walk_at "s"
  refine s_ite (fun _ => ?_) (fun _ => ?_)
  · walk_at "s"
    refine s_pow (a := 10) (b := 30) (by decide) (by decide) ?_
    walk_at "s"
    refine ⟨x, c, 3, rfl, hh1, by decide, by decide, fun r H2 hr2 s2 hh2 => ?_⟩
    walk_at "s"
    have e : ((10 ^ 30 : Nat) : Int) - (r : Int) = ((1000000000000000000000000000000 - r : Nat) : Int) := by
      rw [show (10 ^ 30 : Nat) = 1000000000000000000000000000000 from by decide]
      omega
    rw [e]
    exact q _ H2 (by omega) (s1.trans s2) hh2
  · walk_at "s"
    refine s_ite (fun _ => ?_) (fun _ => ?_)
    · walk_at "s"
      refine ⟨x, c, 400, rfl, hh1, by decide, by decide, fun r H2 hr2 s2 hh2 => ?_⟩
      exact q _ H2 (by omega) (s1.trans s2) hh2
    · walk_at "s"
      refine s_pow (a := 10) (b := 9) (by decide) (by decide) ?_
      walk_at "s"
      refine ⟨x, c, 10 ^ 9, rfl, hh1, by decide, by decide, fun r H2 hr2 s2 hh2 => ?_⟩
      walk_at "s"
      refine s_pow (a := 10) (b := 21) (by decide) (by decide) ?_
      walk_at "s"
      rw [show (10 ^ 9 : Nat) = 1000000000 from by decide] at hr2
      refine s_mulN (by omega) ?_
      walk_at "s"
      refine s_pow (a := 10) (b := 12) (by decide) (by decide) ?_
      walk_at "s"
      refine ⟨x, c, 10 ^ 12, rfl, hh2, by decide, by decide, fun r2 H3 hr3 s3 hh3 => ?_⟩
      walk_at "s"
      rw [show (10 ^ 12 : Nat) = 1000000000000 from by decide] at hr3
      refine q _ H3 ?_ ((s1.trans s2).trans s3) hh3
      rw [show (10 ^ 21 : Nat) = 1000000000000000000000 from by decide]
      omega
theorem c__law_far (T : TX K mg) : Cal (L2.CX P w) P w K mg base 3 "_law_far" sp_far [] :=
  cal_mk T.f__law_far T.g__law_far ⟨rfl, rfl⟩ (fun _ _ _ _ _ _ us hl => match us, hl with | [_], _ => rfl) sc__law_far (fun vs H Q E h => by obtain ⟨x, c, rfl, _⟩ := h; rfl) (k__law_far T)
theorem k__law_truth (T : TX K mg) : Keeps (L2.CX P w) P w K mg base d__law_truth N__law_truth 0 sp_truth := by
  intro cdv A outer s H vs Q E hr hsp
  obtain ⟨t, f, Tt, m, n, rfl, ht, hm, hp, q⟩ := hsp
  have nd := sc__law_truth.nd
  have hu := hu_of hr
  have hu64 := hr.units
  refine ⟨_, (pss_cons (ps_if (pt_cmpR op_lt (pv 2) (pe_callB (call_lenK (K := K) rfl) (by rfl) T.b_len PySem.boot_len (pa_cons (pv 0) pa_nil)) (nomark _)) (pss_one (ps_ret (pe_ix (ix_listK (K := K) rfl) (pv 0) (pv 2) (fun _ _ => rfl)))) pss_nil)
  (pss_one (ps_ret (pe_ix (ix_listK (K := K) rfl) (pv 0) (pe_op op_add (pv 1) (pe_op op_mod (pe_callTy call_int1K (by rfl) T.b_int (by decide +kernel) (pa_cons (pe_op op_sub (pv 2) (pv 1)) pa_nil)) (pe_op op_sub (pe_callB (call_lenK (K := K) rfl) (by rfl) T.b_len PySem.boot_len (pa_cons (pv 0) pa_nil)) (pv 1)))) (fun _ _ => rfl))))), ?_⟩
  refine st_eq (σ := [some (.ref t), some (.int (m : Int)), some (.int (n : Int))]) rfl ?_
  walk_at "s"
  refine s_lenL ht ?_
  rw [blv_len]
  walk_at "s"
  refine s_iteD (fun h => ?_) (fun h => ?_)
  · walk_at "s"
    refine s_ixL (SqL.of ht) (blv_at h) ?_
    exact q
  · walk_at "s"
    refine s_lenL ht ?_
    rw [blv_len]
    walk_at "s"
    rw [show ((n : Int) - (m : Int)) = ((n - m : Nat) : Int) by omega, show ((Tt : Int) - (m : Int)) = ((Tt - m : Nat) : Int) by omega]
    refine s_modN (by omega) ?_
    walk_at "s"
    have hlt : (n - m) % (Tt - m) < Tt - m := Nat.mod_lt _ (by omega)
    refine s_ixL (SqL.of ht) (blv_at (by omega)) ?_
    rw [per_mod hp n (by omega)]
    exact q
theorem c__law_truth (T : TX K mg) : Cal (L2.CX P w) P w K mg base 1 "_law_truth" sp_truth [] :=
  cal_mk T.f__law_truth T.g__law_truth ⟨rfl, rfl⟩ (fun _ _ _ _ _ _ us hl => match us, hl with | [_, _, _], _ => rfl) sc__law_truth (fun vs H Q E h => by obtain ⟨t, f, Tt, m, n, rfl, _⟩ := h; rfl) (k__law_truth T)
end

end K53
namespace K53
open PySem PySem.Spec PyProof.Rows L2
/-! ### odd things -/
abbrev N__law_odd : List Str := ["_law_hand_here", "_law_bound", "_law_kind"]
theorem sc__law_odd : FnScope N__law_odd ["_law_hand_here", "_law_bound"] (defScope s__law_odd) := C8.fnScope_by (by decide +kernel)
def OddD (d : PyData) : Prop := (∃ i : Int, d = .int i) ∨ (∃ b, d = .bool b) ∨ d = .none ∨ d = .str "1" ∨ d = .str "00" ∨ d = .tuple [.int 0]
def sp_odd : Sp := fun vs H Q _ => ∃ x c, ∃ b : Nat, vs = [.ref x, .int (b : Int)] ∧ HandO H x c ∧ ∀ v d H', OddD d → Hd H' v d → SameS H H' → HandO H' x c → Q v H'
section
variable {P : Program} {w : World} {K : PySem.W.Frag} {mg : Str → Option Value} {base : Heap}
theorem k__law_odd (T : TX K mg) : Keeps (L2.CX P w) P w K mg base d__law_odd N__law_odd 2 sp_odd := by
  intro cdv A outer s H vs Q E hr hsp
  obtain ⟨x, c, b, rfl, hh, q⟩ := hsp
  have nd := sc__law_odd.nd
  have hu := hu_of hr
  have hu64 := hr.units
  refine ⟨_, (pss_cons (ps_set (i := 2) nd rfl (Or.inl rfl) (pe_cl (c__law_take T) hr (by decide) (pa_cons (pv 0) (pa_cons pe_int pa_nil)) passL))
  (pss_cons (ps_if (pt_cmpR op_eq (pv 2) pe_int (nomark _)) (pss_one (ps_ret (pe_op op_add (pv 1) (pe_cl (c__law_take T) hr (by decide) (pa_cons (pv 0) (pa_cons (pe_op op_pow pe_int pe_int) pa_nil)) passL)))) pss_nil)
  (pss_cons (ps_if (pt_cmpR op_eq (pv 2) pe_int (nomark _)) (pss_one (ps_ret (pe_op op_sub (pe_un un_neg pe_int) (pe_cl (c__law_take T) hr (by decide) (pa_cons (pv 0) (pa_cons (pe_op op_pow pe_int pe_int) pa_nil)) passL)))) pss_nil)
  (pss_one (ps_ret (pe_ix (ix_tupK (K := K) rfl) (pe_tup (pa_cons pe_bl (pa_cons pe_bl (pa_cons pe_non (pa_cons pe_str (pa_cons (pe_tup (pa_cons pe_int pa_nil)) (pa_cons pe_str (pa_cons (pv 1) pa_nil)))))))) (pe_op op_sub (pv 2) pe_int) (fun _ _ => rfl))))))), ?_⟩
  refine st_eq (σ := [some (.ref x), some (.int (b : Int)), none]) rfl ?_
  walk_at "s"
  refine ⟨x, c, 9, rfl, hh, by decide, by decide, fun k H1 hk s1 hh1 => ?_⟩
  walk_at "s"
  refine s_iteD (fun _ => ?_) (fun n0 => ?_)
  · walk_at "s"
    refine s_pow (a := 10) (b := 12) (by decide) (by decide) ?_
    walk_at "s"
    refine ⟨x, c, 10 ^ 12, rfl, hh1, by decide, by decide, fun r H2 hr2 s2 hh2 => ?_⟩
    walk_at "s"
    exact q _ _ H2 (.inl ⟨_, rfl⟩) (.int _) (s1.trans s2) hh2
  · walk_at "s"
    refine s_ite (fun _ => ?_) (fun n1 => ?_)
    · walk_at "s"
      refine s_pow (a := 10) (b := 12) (by decide) (by decide) ?_
      walk_at "s"
      refine ⟨x, c, 10 ^ 12, rfl, hh1, by decide, by decide, fun r H2 hr2 s2 hh2 => ?_⟩
      walk_at "s"
      exact q _ _ H2 (.inl ⟨_, rfl⟩) (.int _) (s1.trans s2) hh2
    · have n1 : k ≠ 1 := fun e => by rw [e] at n1; exact absurd n1 (by decide)
      walk_at "s"
      refine s_tl (Nat.le_of_ble_eq_true rfl) fun t ht => ?_
      walk_at "s"
      refine s_tl (Nat.le_of_ble_eq_true rfl) fun u hu => ?_
      walk_at "s"
      rw [show ((k : Int) - 2) = ((k - 2 : Nat) : Int) by omega]
      have sA : SameS H1 (upd (upd H1 t (.tup [.int 0])) u (.tup [.bl true, .bl false, .non, .str "1", .ref t, .str "00", .int (b : Int)])) := ((L2.Same.up ht).upT hu).toS
      have hA : HandO (upd (upd H1 t (.tup [.int 0])) u (.tup [.bl true, .bl false, .non, .str "1", .ref t, .str "00", .int (b : Int)])) x c := (hh1.upN ht).upN hu
      have ht2 := get_up (u := HO.tup [.bl true, .bl false, .non, .str "1", .ref t, .str "00", .int (b : Int)]) (upd_same (H := H1) (a := t) (o := HO.tup [.int 0])) hu
      have sS := s1.trans sA
      have : k - 2 = 0 ∨ k - 2 = 1 ∨ k - 2 = 2 ∨ k - 2 = 3 ∨ k - 2 = 4 ∨ k - 2 = 5 ∨ k - 2 = 6 := by omega
      rcases this with e | e | e | e | e | e | e
      · rw [e]; exact s_ixT (i := 0) (SqT.of upd_same) rfl (q _ _ _ (.inr (.inl ⟨_, rfl⟩)) (.bl _) sS hA)
      · rw [e]; exact s_ixT (i := 1) (SqT.of upd_same) rfl (q _ _ _ (.inr (.inl ⟨_, rfl⟩)) (.bl _) sS hA)
      · rw [e]; exact s_ixT (i := 2) (SqT.of upd_same) rfl (q _ _ _ (.inr (.inr (.inl rfl))) .non sS hA)
      · rw [e]; exact s_ixT (i := 3) (SqT.of upd_same) rfl (q _ _ _ (.inr (.inr (.inr (.inl rfl)))) (.str _) sS hA)
      · rw [e]; exact s_ixT (i := 4) (SqT.of upd_same) rfl (q _ _ _ (.inr (.inr (.inr (.inr (.inr rfl))))) (.tup ht2 (.cons (.int _) .nil)) sS hA)
      · rw [e]; exact s_ixT (i := 5) (SqT.of upd_same) rfl (q _ _ _ (.inr (.inr (.inr (.inr (.inl rfl))))) (.str _) sS hA)
      · rw [e]; exact s_ixT (i := 6) (SqT.of upd_same) rfl (q _ _ _ (.inl ⟨_, rfl⟩) (.int _) sS hA)
theorem c__law_odd (T : TX K mg) : Cal (L2.CX P w) P w K mg base 3 "_law_odd" sp_odd [] :=
  cal_mk T.f__law_odd T.g__law_odd ⟨rfl, rfl⟩ (fun _ _ _ _ _ _ us hl => match us, hl with | [_, _], _ => rfl) sc__law_odd (fun vs H Q E h => by obtain ⟨x, c, b, rfl, _⟩ := h; rfl) (k__law_odd T)
end

end K53
namespace K53
open PySem PySem.Spec PyProof.Rows L2
/-! ### what is no list of couples -/
abbrev N__law_rid : List Str := ["_law_hand_here"]
theorem sc__law_rid : FnScope N__law_rid ["_law_hand_here"] (defScope s__law_rid) := C8.fnScope_by (by decide +kernel)
def RidD (d : PyData) : Prop := isSeqD d = false
def sp_rid : Sp := fun vs H Q _ => ∃ x c, vs = [.ref x] ∧ HandO H x c ∧ ∀ v d H', RidD d → Hd H' v d → SameS H H' → HandO H' x c → Q v H'
section
variable {P : Program} {w : World} {K : PySem.W.Frag} {mg : Str → Option Value} {base : Heap}
theorem k__law_rid (T : TX K mg) : Keeps (L2.CX P w) P w K mg base d__law_rid N__law_rid 2 sp_rid := by
  intro cdv A outer s H vs Q E hr hsp
  obtain ⟨x, c, rfl, hh, q⟩ := hsp
  have nd := sc__law_rid.nd
  have hu := hu_of hr
  have hu64 := hr.units
  refine ⟨_, (pss_one (ps_ret (pe_ix (ix_tupK (K := K) rfl) (pe_tup (pa_cons pe_non (pa_cons pe_int (pa_cons pe_str (pa_cons pe_bl (pa_cons (pe_disp (pps_cons pe_int pe_int pps_nil) rfl rfl (by decide) (by decide)) (pa_cons (pe_un un_neg pe_int) pa_nil))))))) (pe_cl (c__law_take T) hr (by decide) (pa_cons (pv 0) (pa_cons pe_int pa_nil)) passL) (fun _ _ => rfl)))), ?_⟩
  refine st_eq (σ := [some (.ref x)]) rfl ?_
  walk_at "s"
  intro p hp
  refine ⟨upd_same, [(Sum.inl 0, .int 1)], rfl, Nat.le_of_ble_eq_true rfl, ?_⟩
  walk_at "s"
  refine s_tl (Nat.le_of_ble_eq_true rfl) fun t ht => ?_
  walk_at "s"
  have sp1 : Same H (upd (upd H p (.dK [])) p (.dK [(Sum.inl 0, .int 1)])) := (L2.Same.up hp).mut hp
  have hh1 := (hh.to sp1).upN (o := HO.tup [.non, .int 3, .str "ab", .bl true, .ref p, .int (-1)]) ht
  have sA := sp1.trans (L2.Same.up (o := HO.tup [.non, .int 3, .str "ab", .bl true, .ref p, .int (-1)]) ht)
  have hp2 := get_up (u := HO.tup [.non, .int 3, .str "ab", .bl true, .ref p, .int (-1)]) (upd_same (H := upd H p (.dK [])) (a := p) (o := HO.dK [(Sum.inl 0, .int 1)])) ht
  refine ⟨x, c, 6, rfl, hh1, by decide, by decide, fun k H1 hk s1 hh2 => ?_⟩
  have hT := s1 _ _ rfl (upd_same (H := upd (upd H p (.dK [])) p (.dK [(Sum.inl 0, .int 1)])) (a := t) (o := HO.tup [.non, .int 3, .str "ab", .bl true, .ref p, .int (-1)]))
  have sS := sA.toS.trans s1
  have : k = 0 ∨ k = 1 ∨ k = 2 ∨ k = 3 ∨ k = 4 ∨ k = 5 := by omega
  rcases this with e | e | e | e | e | e
  · rw [e]; exact s_ixT (i := 0) (SqT.of hT) rfl (q _ .none _ (by unfold RidD; rfl) .non sS hh2)
  · rw [e]; exact s_ixT (i := 1) (SqT.of hT) rfl (q _ (.int 3) _ (by unfold RidD; rfl) (.int _) sS hh2)
  · rw [e]; exact s_ixT (i := 2) (SqT.of hT) rfl (q _ (.str "ab") _ (by unfold RidD; rfl) (.str _) sS hh2)
  · rw [e]; exact s_ixT (i := 3) (SqT.of hT) rfl (q _ (.bool true) _ (by unfold RidD; rfl) (.bl _) sS hh2)
  · rw [e]; exact s_ixT (i := 4) (SqT.of hT) rfl (q _ (.dict []) _ (by unfold RidD; rfl) (.dic (s1 _ _ rfl hp2)) sS hh2)
  · rw [e]; exact s_ixT (i := 5) (SqT.of hT) rfl (q _ (.int (-1)) _ (by unfold RidD; rfl) (.int _) sS hh2)
theorem c__law_rid (T : TX K mg) : Cal (L2.CX P w) P w K mg base 3 "_law_rid" sp_rid [] :=
  cal_mk T.f__law_rid T.g__law_rid ⟨rfl, rfl⟩ (fun _ _ _ _ _ _ us hl => match us, hl with | [_], _ => rfl) sc__law_rid (fun vs H Q E h => by obtain ⟨x, c, rfl, _⟩ := h; rfl) (k__law_rid T)
end

end K53
namespace K53
open PySem PySem.Spec PyProof.Rows L2
/-! ### tuples all the way down -/
def leafD : PyData → Bool
  | .none => true
  | .str _ => true
  | .int _ => true
  | _ => false
def tupB : Nat → PyData → Bool
  | 0, d => leafD d
  | n + 1, .tuple ds => decide (ds.length ≤ 100000) && ds.all (tupB n)
  | _ + 1, d => leafD d
abbrev N__law_tuples : List Str := ["_law_thing", "_law_item"]
theorem sc__law_tuples : FnScope N__law_tuples ["_law_thing"] (defScope s__law_tuples) := C8.fnScope_by (by decide +kernel)
def sp_ltup (n : Nat) : Sp := fun vs H Q _ => ∃ v d, vs = [v] ∧ Hd H v d ∧ tupB n d = true ∧ ∀ H', Same H H' → Q (.bl true) H'
section
variable {P : Program} {w : World} {K : PySem.W.Frag} {mg : Str → Option Value} {base : Heap}
theorem leaf_tail (T : TX K mg) {H : Hp} {Q : VK} {v : V} {d : PyData} (hv : Hd H v d) (hl : leafD d = true) (q : Q (.bl true) H) :
    tOrV (tIsN (tVar 0)) (tOrV (tCB (rIsi K) (tCons (tVar 0) (tCons (tC (.ty "str")) tNil))) (tAndV (tCB (rIsi K) (tCons (tVar 0) (tCons (tC (.ty "int")) tNil))) (tNotV (tCB (rIsi K) (tCons (tVar 0) (tCons (tC (.ty "bool")) tNil)))))) [some v, none] H Q := by
  walk_at "s"
  cases d
  case none =>
    cases hv
    refine s_yesD rfl ?_
    exact q
  case str x =>
    have := hv.str_eq
    subst this
    refine s_noD (by intro h; cases h) ?_
    walk_at "s"
    refine s_isiStr hv ?_
    walk_at "s"
    refine s_yes rfl ?_
    exact q
  case int i =>
    have := hv.int_eq
    subst this
    refine s_noD (by intro h; cases h) ?_
    walk_at "s"
    refine s_isiStr hv ?_
    walk_at "s"
    refine s_no rfl ?_
    walk_at "s"
    refine s_isiInt hv ?_
    walk_at "s"
    refine s_yes rfl ?_
    walk_at "s"
    refine s_isiBool hv ?_
    walk_at "s"
    exact q
  all_goals cases hl
theorem k__law_tuples (T : TX K mg) : ∀ n, Keeps (L2.CX P w) P w K mg base d__law_tuples N__law_tuples n (sp_ltup n)
  | 0 => by
    intro cdv A outer s H vs Q E hr hsp
    obtain ⟨v, d, rfl, hv, ht, q⟩ := hsp
    have nd := sc__law_tuples.nd
    have hu := hu_of hr
    have hu64 := hr.units
    refine ⟨_, (pss_cons (ps_if (pt_val (pe_callB (call_isiK1 (K := K) rfl) (by rfl) T.b_isinstance (by decide +kernel) (pa_cons (pv 0) (pa_cons (pe_bltn (v := .ty "tuple") (by rfl) T.b_tuple (by decide +kernel) rfl) pa_nil)))) (pss_one ps_never) pss_nil)
    (pss_one (ps_ret (pe_or (pe_cmp (pc_isN (pv 0))) (pe_or (pe_callB (call_isiK1 (K := K) rfl) (by rfl) T.b_isinstance (by decide +kernel) (pa_cons (pv 0) (pa_cons (pe_bltn (v := .ty "str") (by rfl) T.b_str (by decide +kernel) rfl) pa_nil))) (pe_one (pe_and (pe_callB (call_isiK1 (K := K) rfl) (by rfl) T.b_isinstance (by decide +kernel) (pa_cons (pv 0) (pa_cons (pe_bltn (v := .ty "int") (by rfl) T.b_int (by decide +kernel) rfl) pa_nil))) (pe_one (pe_not (pe_callB (call_isiK1 (K := K) rfl) (by rfl) T.b_isinstance (by decide +kernel) (pa_cons (pv 0) (pa_cons (pe_bltn (v := .ty "bool") (by rfl) T.b_bool (by decide +kernel) rfl) pa_nil)))))))))))), ?_⟩
    refine st_eq (σ := [some (v), none]) rfl ?_
    walk_at "s"
    refine s_isiTup hv ?_
    walk_at "s"
    refine s_no (by cases d <;> first | rfl | cases ht) ?_
    refine s_next (s_ret ?_)
    exact leaf_tail T hv ht (q H (L2.Same.refl _))
  | n + 1 => by
    intro cdv A outer s H vs Q E hr hsp
    obtain ⟨v, d, rfl, hv, ht, q⟩ := hsp
    have cRec : TX K mg → Cal (L2.CX P w) P w K mg base (n + 1) "_law_tuples" (sp_ltup n) [] := fun T =>
      cal_mk T.f__law_tuples T.g__law_tuples ⟨rfl, rfl⟩ (fun _ _ _ _ _ _ us hl => match us, hl with | [_], _ => rfl) sc__law_tuples (fun vs H Q E h => by obtain ⟨v, d, rfl, _⟩ := h; rfl) (k__law_tuples T n)
    have nd := sc__law_tuples.nd
    have hu := hu_of hr
    have hu64 := hr.units
    refine ⟨_, (pss_cons (ps_if (pt_val (pe_callB (call_isiK1 (K := K) rfl) (by rfl) T.b_isinstance (by decide +kernel) (pa_cons (pv 0) (pa_cons (pe_bltn (v := .ty "tuple") (by rfl) T.b_tuple (by decide +kernel) rfl) pa_nil)))) (pss_one (ps_ret (pe_notK (K := K) rfl (pe_lc (own := [("_law_item", 1)]) rfl nd (pi_seqK (K := K) rfl (pv 0)) (blkOk_by (N := N__law_tuples) (sc := (defScope s__law_tuples)) (by decide +kernel)) (fun _ _ _ _ _ => (pg_name (i := 1) nd rfl (Or.inl rfl))) (fun _ _ _ _ _ => (pts_one (pt_not (pt_val (pe_cl (cRec T) hr (Nat.le_refl _) (pa_cons (pv 1) pa_nil) passL))))) (fun _ _ _ _ _ => pe_int))))) pss_nil)
    (pss_one (ps_ret (pe_or (pe_cmp (pc_isN (pv 0))) (pe_or (pe_callB (call_isiK1 (K := K) rfl) (by rfl) T.b_isinstance (by decide +kernel) (pa_cons (pv 0) (pa_cons (pe_bltn (v := .ty "str") (by rfl) T.b_str (by decide +kernel) rfl) pa_nil))) (pe_one (pe_and (pe_callB (call_isiK1 (K := K) rfl) (by rfl) T.b_isinstance (by decide +kernel) (pa_cons (pv 0) (pa_cons (pe_bltn (v := .ty "int") (by rfl) T.b_int (by decide +kernel) rfl) pa_nil))) (pe_one (pe_not (pe_callB (call_isiK1 (K := K) rfl) (by rfl) T.b_isinstance (by decide +kernel) (pa_cons (pv 0) (pa_cons (pe_bltn (v := .ty "bool") (by rfl) T.b_bool (by decide +kernel) rfl) pa_nil)))))))))))), ?_⟩
    refine st_eq (σ := [some (v), none]) rfl ?_
    walk_at "s"
    refine s_isiTup hv ?_
    walk_at "s"
    by_cases hd : isTupD d = true
    · refine s_yes hd ?_
      walk_at "s"
      refine s_notT ?_
      cases d
      case tuple ds =>
        obtain ⟨a, xs, rfl, ha, hL⟩ := hv.tup_eq
        have ht' := Bool.and_eq_true_iff.mp (show (decide (ds.length ≤ 100000) && ds.all (tupB n)) = true from ht)
        have hz := of_decide_eq_true ht'.1
        have hall := List.all_eq_true.mp ht'.2
        walk_at "s"
        refine s_iSc ⟨a, rfl, .inr (SqT.of ha)⟩ fun J G W hG => ?_
        obtain ⟨as, rfl, e2, hA⟩ := hL.zip
        have hlen := hL.len
        rw [List.length_map] at hlen
        refine lc_f as (u := fun p => p.1) (fun _ => none) W (List.length_map ..) (by omega) hG (fun D i x H1 c => ?_) (fun D H1 hD s1 e3 => ?_)
        · walk_at "s"
          refine ⟨rfl, ?_⟩
          walk_at "s"
          have hm := List.mem_of_getElem? c.ai
          refine ⟨_, x.2, rfl, (hA x hm).to c.sm, hall _ (by rw [e2]; exact List.mem_map.mpr ⟨x, hm, rfl⟩), fun H2 s2 => ?_⟩
          walk_at "s"
          exact lc_no c s2 rfl
        · have e4 : as.filterMap (fun _ : V × PyData => (none : Option V)) = [] := List.filterMap_eq_nil_iff.mpr fun _ _ => rfl
          rw [e4] at e3
          refine ⟨false, .inl ⟨_, SqL.of e3, rfl⟩, ?_⟩
          exact q H1 s1
      all_goals cases hd
    · have hd : isTupD d = false := by cases e : isTupD d with | false => rfl | true => exact absurd e hd
      refine s_no hd ?_
      refine s_next (s_ret ?_)
      exact leaf_tail T hv (by cases d <;> first | rfl | exact ht | cases hd) (q H (L2.Same.refl _))
theorem c__law_tuples (T : TX K mg) (n : Nat) : Cal (L2.CX P w) P w K mg base (n + 1) "_law_tuples" (sp_ltup n) [] :=
  cal_mk T.f__law_tuples T.g__law_tuples ⟨rfl, rfl⟩ (fun _ _ _ _ _ _ us hl => match us, hl with | [_], _ => rfl) sc__law_tuples (fun vs H Q E h => by obtain ⟨v, d, rfl, _⟩ := h; rfl) (k__law_tuples T n)
end

end K53
namespace K53
open PySem PySem.Spec PyProof.Rows L2
/-! ### the round told -/
abbrev N__law_is_round : List Str := ["_law_told", "_law_due"]
theorem sc__law_is_round : FnScope N__law_is_round ["_law_told", "_law_due"] (defScope s__law_is_round) := C8.fnScope_by (by decide +kernel)
def rndD (h t : Nat) (lot : List Nat) : PyData := .tuple [.int (h : Int), .int (t : Int), .tuple (ivD lot)]
theorem tupB_iv (lot : List Nat) (hz : lot.length ≤ 100000) (n : Nat) : tupB (n + 1) (.tuple (ivD lot)) = true := by
  show (decide ((ivD lot).length ≤ 100000) && (ivD lot).all (tupB n)) = true
  rw [decide_eq_true (by unfold ivD; rw [List.length_map]; exact hz), Bool.true_and, List.all_eq_true]
  intro d hd
  unfold ivD at hd
  obtain ⟨m, _, rfl⟩ := List.mem_map.mp hd
  cases n <;> rfl
theorem tupB_rnd (h t : Nat) (lot : List Nat) (hz : lot.length ≤ 100000) : tupB 2 (rndD h t lot) = true := by
  show (decide (3 ≤ 100000) && (tupB 1 (.int (h : Int)) && (tupB 1 (.int (t : Int)) && (tupB 1 (.tuple (ivD lot)) && true)))) = true
  rw [tupB_iv lot hz 0]
  rfl
theorem pl_rnd (h t : Nat) (lot : List Nat) : pl 2 (rndD h t lot) = true := by
  show plA 1 [.int (h : Int), .int (t : Int), .tuple (ivD lot)] = true
  refine plA_all fun d hd => ?_
  rcases List.mem_cons.mp hd with rfl | hd
  · rfl
  rcases List.mem_cons.mp hd with rfl | hd
  · rfl
  rw [List.mem_singleton.mp hd]
  exact pl1_ivT lot
def sp_lisr (K : PySem.W.Frag) : Sp := fun vs H Q _ => ∃ p u h t lot, vs = [.ref p, u] ∧ RouO K H p h t lot ∧ lot.length ≤ 100000 ∧ Hd H u (rndD h t lot) ∧ ∀ H', Same H H' → Q (.bl true) H'
section
variable {P : Program} {w : World} {K : PySem.W.Frag} {mg : Str → Option Value} {base : Heap}
theorem k__law_is_round (T : TX K mg) : Keeps (L2.CX P w) P w K mg base d__law_is_round N__law_is_round 3 (sp_lisr K) := by
  intro cdv A outer s H vs Q E hr hsp
  obtain ⟨p, u, h, t, lot, rfl, hR, hz, hu', q⟩ := hsp
  have c__law_tuples := fun (T : TX K mg) => c__law_tuples (P := P) (w := w) (base := base) T 2
  have nd := sc__law_is_round.nd
  have hu := hu_of hr
  have hu64 := hr.units
  refine ⟨_, (pss_cons (ps_if (PW.pt (pw_or (pt_not (pt_val (pe_callB (call_isiK1 (K := K) rfl) (by rfl) T.b_isinstance (by decide +kernel) (pa_cons (pv 0) (pa_cons (pe_glob (v := .ref (gA K "Round")) (by rfl) T.g_Round rfl) pa_nil))))) (pw_or1 (pt_not (pt_val (pe_cl (c__law_tuples T) hr (by decide) (pa_cons (pe_tup (pa_cons (pe_fldK (K := K) rfl (pv 0) (by rfl)) (pa_cons (pe_fldK (K := K) rfl (pv 0) (by rfl)) (pa_cons (pe_fldK (K := K) rfl (pv 0) (by rfl)) pa_nil)))) pa_nil) passL)))))) (pss_one (ps_ret pe_bl)) pss_nil)
  (pss_one (ps_ret (pe_cmpR (op_eqDK (K := K) rfl hu64) (pe_tup (pa_cons (pe_fldK (K := K) rfl (pv 0) (by rfl)) (pa_cons (pe_fldK (K := K) rfl (pv 0) (by rfl)) (pa_cons (pe_fldK (K := K) rfl (pv 0) (by rfl)) pa_nil)))) (pv 1) (nomark _))))), ?_⟩
  refine st_eq (σ := [some (.ref p), some (u)]) rfl ?_
  walk_at "s"
  have hRat := hR.at_
  obtain ⟨dx, fs, L0, b1, _⟩ := hRat
  refine s_isiO T (x := "Round") (by decide) (by decide) T.cl_Round b1 ?_
  walk_at "s"
  refine s_noN rfl ?_
  walk_at "s"
  refine s_head T hR ?_
  walk_at "s"
  refine s_turn T hR ?_
  walk_at "s"
  refine s_lot T hR fun L hL => ?_
  walk_at "s"
  refine s_tl (Nat.le_of_ble_eq_true rfl) fun a ha => ?_
  have s1 := L2.Same.up (o := HO.tup [.int (h : Int), .int (t : Int), .ref L]) ha
  have hd1 : Hd (upd H a (.tup [.int (h : Int), .int (t : Int), .ref L])) (.ref a) (rndD h t lot) := .tup upd_same (.cons (.int _) (.cons (.int _) (.cons (Hd.ivT (s1 _ _ hL)) .nil)))
  walk_at "s"
  refine ⟨_, _, rfl, hd1, tupB_rnd h t lot hz, fun H2 s2 => ?_⟩
  walk_at "s"
  have s12 := s1.trans s2
  have hR2 := hR.to s12
  refine s_head T hR2 ?_
  walk_at "s"
  refine s_turn T hR2 ?_
  walk_at "s"
  refine s_lot T hR2 fun L2' hL2 => ?_
  walk_at "s"
  refine s_tl (Nat.le_of_ble_eq_true rfl) fun b hb => ?_
  have s3 := L2.Same.up (o := HO.tup [.int (h : Int), .int (t : Int), .ref L2']) hb
  walk_at "s"
  refine s_eqPl (d := rndD h t lot) (e := rndD h t lot) 2 (by decide) (.tup upd_same (.cons (.int _) (.cons (.int _) (.cons (Hd.ivT (s3 _ _ hL2)) .nil)))) ((hu'.to s12).to s3) (pl_rnd h t lot) (pl_rnd h t lot) (fun _ => ?_) (fun e => absurd rfl e)
  exact q _ (s12.trans s3)
theorem c__law_is_round (T : TX K mg) : Cal (L2.CX P w) P w K mg base 4 "_law_is_round" (sp_lisr K) [] :=
  cal_mk T.f__law_is_round T.g__law_is_round ⟨rfl, rfl⟩ (fun _ _ _ _ _ _ us hl => match us, hl with | [_, _], _ => rfl) sc__law_is_round (fun vs H Q E h => by obtain ⟨p, u, h, t, lot, rfl, _⟩ := h; rfl) (k__law_is_round T)
end

end K53
namespace K53
open PySem PySem.Spec PyProof.Rows L2
/-! ### the house made -/
abbrev N__law_is_house : List Str := ["_law_made", "_law_house_here"]
theorem sc__law_is_house : FnScope N__law_is_house ["_law_made", "_law_house_here"] (defScope s__law_is_house) := C8.fnScope_by (by decide +kernel)
def houD (g : Hou) : PyData := .tuple [.int (g.hs : Int), .int (g.ls : Int), rowsD g]
theorem pl_rows (g : Hou) : pl 2 (rowsD g) = true := by
  show plA 1 (g.rows.map cpD) = true
  refine plA_all fun d hd => ?_
  obtain ⟨c, _, rfl⟩ := List.mem_map.mp hd
  exact pl_cp c
theorem pl_hou (g : Hou) : pl 3 (houD g) = true := by
  show plA 2 [.int (g.hs : Int), .int (g.ls : Int), rowsD g] = true
  refine plA_all fun d hd => ?_
  rcases List.mem_cons.mp hd with rfl | hd
  · rfl
  rcases List.mem_cons.mp hd with rfl | hd
  · rfl
  rw [List.mem_singleton.mp hd]
  exact pl_rows g
theorem tupB_cp (c : Nat × Nat) : tupB 1 (cpD c) = true := rfl
theorem tupB_rows (g : Hou) (o : g.Ok) : tupB 2 (rowsD g) = true := by
  show (decide ((g.rows.map cpD).length ≤ 100000) && (g.rows.map cpD).all (tupB 1)) = true
  rw [decide_eq_true (by rw [List.length_map, o.len]; have := o.n16; omega), Bool.true_and, List.all_eq_true]
  intro d hd
  obtain ⟨c, _, rfl⟩ := List.mem_map.mp hd
  exact tupB_cp c
theorem tupB_hou (g : Hou) (o : g.Ok) : tupB 3 (houD g) = true := by
  show (decide (3 ≤ 100000) && (tupB 2 (.int (g.hs : Int)) && (tupB 2 (.int (g.ls : Int)) && (tupB 2 (rowsD g) && true)))) = true
  rw [tupB_rows g o]
  rfl
def sp_lish (K : PySem.W.Frag) : Sp := fun vs H Q _ => ∃ p y g, vs = [.ref p, .ref y] ∧ HouO K H p g ∧ LHo H y g ∧ ∀ H', Same H H' → Q (.bl true) H'
section
variable {P : Program} {w : World} {K : PySem.W.Frag} {mg : Str → Option Value} {base : Heap}
theorem k__law_is_house (T : TX K mg) : Keeps (L2.CX P w) P w K mg base d__law_is_house N__law_is_house 4 (sp_lish K) := by
  intro cdv A outer s H vs Q E hr hsp
  obtain ⟨p, y, g, rfl, hR, hg, q⟩ := hsp
  have o := hR.ok
  have c__law_tuples := fun (T : TX K mg) => c__law_tuples (P := P) (w := w) (base := base) T 3
  have nd := sc__law_is_house.nd
  have hu := hu_of hr
  have hu64 := hr.units
  refine ⟨_, (pss_cons (ps_if (PW.pt (pw_or (pt_not (pt_val (pe_callB (call_isiK1 (K := K) rfl) (by rfl) T.b_isinstance (by decide +kernel) (pa_cons (pv 0) (pa_cons (pe_glob (v := .ref (gA K "House")) (by rfl) T.g_House rfl) pa_nil))))) (pw_or1 (pt_not (pt_val (pe_cl (c__law_tuples T) hr (by decide) (pa_cons (pe_tup (pa_cons (pe_fldK (K := K) rfl (pv 0) (by rfl)) (pa_cons (pe_fldK (K := K) rfl (pv 0) (by rfl)) (pa_cons (pe_fldK (K := K) rfl (pv 0) (by rfl)) pa_nil)))) pa_nil) passL)))))) (pss_one (ps_ret pe_bl)) pss_nil)
  (pss_one (ps_ret (pe_cmpR (op_eqDK (K := K) rfl hu64) (pe_tup (pa_cons (pe_fldK (K := K) rfl (pv 0) (by rfl)) (pa_cons (pe_fldK (K := K) rfl (pv 0) (by rfl)) (pa_cons (pe_fldK (K := K) rfl (pv 0) (by rfl)) pa_nil)))) (pe_tup (pa_cons (pe_ix (ix_listK (K := K) rfl) (pv 1) pe_int (fun _ _ => rfl)) (pa_cons (pe_ix (ix_listK (K := K) rfl) (pv 1) pe_int (fun _ _ => rfl)) (pa_cons (pe_tupleOfK (K := K) rfl (by rfl) T.b_tuple (pe_ix (ix_listK (K := K) rfl) (pv 1) pe_int (fun _ _ => rfl))) pa_nil)))) (nomark _))))), ?_⟩
  refine st_eq (σ := [some (.ref p), some (.ref y)]) rfl ?_
  walk_at "s"
  have hRat := hR.at_
  obtain ⟨dx, fs, L0, b1, _⟩ := hRat
  refine s_isiO T (x := "House") (by decide) (by decide) T.cl_House b1 ?_
  walk_at "s"
  refine s_noN rfl ?_
  walk_at "s"
  refine s_hs T hR ?_
  walk_at "s"
  refine s_ls T hR ?_
  walk_at "s"
  refine s_rows T hR fun L hL => ?_
  walk_at "s"
  refine s_tl (Nat.le_of_ble_eq_true rfl) fun a ha => ?_
  have s1 := L2.Same.up (o := HO.tup [.int (g.hs : Int), .int (g.ls : Int), .ref L]) ha
  have hd1 : Hd (upd H a (.tup [.int (g.hs : Int), .int (g.ls : Int), .ref L])) (.ref a) (houD g) := .tup upd_same (.cons (.int _) (.cons (.int _) (.cons (hL.to s1) .nil)))
  walk_at "s"
  refine ⟨_, _, rfl, hd1, tupB_hou g o, fun H2 s2 => ?_⟩
  walk_at "s"
  have s12 := s1.trans s2
  have hR2 := hR.to s12
  refine s_hs T hR2 ?_
  walk_at "s"
  refine s_ls T hR2 ?_
  walk_at "s"
  refine s_rows T hR2 fun L2' hL2 => ?_
  walk_at "s"
  refine s_tl (Nat.le_of_ble_eq_true rfl) fun b hb => ?_
  have s3 := L2.Same.up (o := HO.tup [.int (g.hs : Int), .int (g.ls : Int), .ref L2']) hb
  have hg3 := hg.to (s12.trans s3)
  walk_at "s"
  refine s_h0 hg3 ?_
  walk_at "s"
  refine s_h1 hg3 ?_
  walk_at "s"
  refine s_h2 hg3 fun R Rs r1 r2 r3 => ?_
  walk_at "s"
  refine s_kTupL r1 fun u hu' => ?_
  walk_at "s"
  refine s_tl (Nat.le_of_ble_eq_true rfl) fun z hz => ?_
  have s4 := L2.Same.up (o := HO.tup Rs) hu'
  have s5 := L2.Same.up (o := HO.tup [.int (g.hs : Int), .int (g.ls : Int), .ref u]) hz
  refine s_eqPl (d := houD g) (e := houD g) 3 (by decide) (.tup (s5 _ _ (s4 _ _ upd_same)) (.cons (.int _) (.cons (.int _) (.cons ((((hL2.to s3).to s4)).to s5) .nil)))) (.tup upd_same (.cons (.int _) (.cons (.int _) (.cons (.tup (s5 _ _ upd_same) ((r3.to s4).to s5)) .nil)))) (pl_hou g) (pl_hou g) (fun _ => ?_) (fun e => absurd rfl e)
  exact q _ (((s12.trans s3).trans s4).trans s5)
theorem c__law_is_house (T : TX K mg) : Cal (L2.CX P w) P w K mg base 5 "_law_is_house" (sp_lish K) [] :=
  cal_mk T.f__law_is_house T.g__law_is_house ⟨rfl, rfl⟩ (fun _ _ _ _ _ _ us hl => match us, hl with | [_, _], _ => rfl) sc__law_is_house (fun vs H Q E h => by obtain ⟨p, y, g, rfl, _⟩ := h; rfl) (k__law_is_house T)
end

end K53
namespace K53
open PySem PySem.Spec PyProof.Rows L2
/-! ### the law's word of a fault -/
abbrev N__law_fault_word : List Str := ["_law_house_here", "_law_h", "_law_before", "_law_again", "_law_couples", "_law_couple"]
theorem sc__law_fault_word : FnScope N__law_fault_word ["_law_house_here", "_law_h", "_law_before", "_law_again"] (defScope s__law_fault_word) := C8.fnScope_by (by decide +kernel)
def sp_lfw : Sp := fun vs H Q _ => ∃ y g, ∃ h : Nat, ∃ vd ve d e, vs = [.ref y, .int (h : Int), vd, ve] ∧ LHo H y g ∧ Hd H vd d ∧ Hd H ve e ∧ (seqD d).length ≤ 1000 ∧ (seqD e).length ≤ 1000 ∧
  ∀ v H', Same H H' → FaultV g h d e v → Q v H'
section
variable {P : Program} {w : World} {K : PySem.W.Frag} {mg : Str → Option Value} {base : Heap}
theorem k__law_fault_word (T : TX K mg) : Keeps (L2.CX P w) P w K mg base d__law_fault_word N__law_fault_word 3 sp_lfw := by
  intro cdv A outer s H vs Q E hr hsp
  obtain ⟨y, g, h, vd, ve, d, e, rfl, hg, hvd, hve, hzd, hze, q⟩ := hsp
  have o := hg.ok
  have nd := sc__law_fault_word.nd
  have hu := hu_of hr
  have hu64 := hr.units
  refine ⟨_, (pss_cons (ps_if (PW.pt (pw_or (pt_not (pt_val (pe_cl (c__law_are_couples T) hr (by decide) (pa_cons (pv 0) (pa_cons (pv 2) pa_nil)) passL))) (pw_or1 (pt_not (pt_val (pe_cl (c__law_are_couples T) hr (by decide) (pa_cons (pv 0) (pa_cons (pv 3) pa_nil)) passL)))))) (pss_one (ps_ret pe_str)) pss_nil)
  (pss_cons (ps_if (pt_cmpR op_eq (pe_callB (call_lenK (K := K) rfl) (by rfl) T.b_len PySem.boot_len (pa_cons (pv 3) pa_nil)) pe_int (nomark _)) (pss_one (ps_ret pe_str)) pss_nil)
  (pss_cons (ps_set (i := 4) nd rfl (Or.inl rfl) (pe_op op_cat (pe_lc (own := [("_law_couple", 5)]) (tt := tYes) rfl nd (pi_seqK (K := K) rfl (pv 2)) (blkOk_by (N := N__law_fault_word) (sc := (defScope s__law_fault_word)) (by decide +kernel)) (fun _ _ _ _ _ => (pg_name (i := 5) nd rfl (Or.inl rfl))) (fun _ _ _ _ _ => pts_nil) (fun _ _ _ _ _ => (pe_tupleOfK (K := K) rfl (by rfl) T.b_tuple (pv 5)))) (pe_lc (own := [("_law_couple", 5)]) (tt := tYes) rfl nd (pi_seqK (K := K) rfl (pv 3)) (blkOk_by (N := N__law_fault_word) (sc := (defScope s__law_fault_word)) (by decide +kernel)) (fun _ _ _ _ _ => (pg_name (i := 5) nd rfl (Or.inl rfl))) (fun _ _ _ _ _ => pts_nil) (fun _ _ _ _ _ => (pe_tupleOfK (K := K) rfl (by rfl) T.b_tuple (pv 5))))))
  (pss_cons (ps_if (pt_cmpR op_ne (pe_ix (ix_tupK (K := K) rfl) (pe_ix (ix_listK (K := K) rfl) (pv 4) pe_int (fun _ _ => rfl)) pe_int (fun _ _ => rfl)) (pv 1) (nomark _)) (pss_one (ps_ret pe_str)) pss_nil)
  (pss_one (ps_ret (pe_ifExp (pt_val (pe_cl (c__law_goes T) hr (by decide) (pa_cons (pv 0) (pa_cons (pe_op op_cat (pv 4) (pe_lst (pa_cons (pe_tupleOfK (K := K) rfl (by rfl) T.b_tuple (pe_ix (ix_seqK (K := K) rfl) (pv 3) pe_int (fun _ _ => rfl))) pa_nil))) pa_nil)) passL)) pe_non pe_str))))))), ?_⟩
  refine st_eq (σ := [some (.ref y), some (.int (h : Int)), some (vd), some (ve), none, none]) rfl ?_
  walk_at "s"
  refine ⟨y, g, vd, d, rfl, hg, hvd, by omega, fun H1 s1 => ?_⟩
  walk_at "s"
  refine s_iteN (fun c1 => ?_) (fun c1 => ?_)
  · walk_at "s"
    exact q _ _ s1 ⟨fun _ => rfl, fun z => by rw [c1] at z; cases z⟩
  walk_at "s"
  refine ⟨y, g, ve, e, rfl, hg.to s1, hve.to s1, by omega, fun H2 s2 => ?_⟩
  walk_at "s"
  refine s_iteN (fun c2 => ?_) (fun c2 => ?_)
  · walk_at "s"
    exact q _ _ (s1.trans s2) ⟨fun _ => rfl, fun _ z => by rw [c2] at z; cases z⟩
  obtain ⟨a1, a2⟩ := areC_all c1
  obtain ⟨b1, b2⟩ := areC_all c2
  have s12 := s1.trans s2
  obtain ⟨xe, hSe, hLe⟩ := (hve.to s12).seq (K := K) b1
  obtain ⟨xd, hSd, hLd⟩ := (hvd.to s12).seq (K := K) a1
  obtain ⟨asE, rfl, eE, hAE⟩ := hLe.zip
  obtain ⟨asD, rfl, eD, hAD⟩ := hLd.zip
  have lE : asE.length = (seqD e).length := by rw [eE, List.length_map]
  have lD : asD.length = (seqD d).length := by rw [eD, List.length_map]
  walk_at "s"
  refine s_len hSe ?_
  rw [List.length_map]
  walk_at "s"
  refine s_iteD (fun c3 => ?_) (fun c3 => ?_)
  · walk_at "s"
    have z : seqD e = [] := List.eq_nil_of_length_eq_zero (by omega)
    refine q _ _ s12 ⟨fun w => absurd ⟨c1, c2⟩ w, fun _ _ => ⟨fun _ => rfl, fun c0 hc0 => ?_⟩⟩
    unfold cpsD at hc0
    rw [z] at hc0
    cases hc0
  walk_at "s"
  refine s_iSc hSd fun J G W hG => ?_
  refine lc_tups asD W (by omega) hG hAD (fun p hp => a2 _ (by rw [eD]; exact List.mem_map.mpr ⟨p, hp, rfl⟩)) (Nat.lt_of_lt_of_le (by decide : 5 < 6) (Nat.le_of_ble_eq_true rfl)) fun L1 H3 ac1 hL1 s3 hL1' hH1 nh1 => ?_
  walk_at "s"
  refine s_iSc (hSe.to s3) fun J2 G2 W2 hG2 => ?_
  refine lc_tups asE W2 (by omega) hG2 (fun p hp => (hAE p hp).to s3) (fun p hp => b2 _ (by rw [eE]; exact List.mem_map.mpr ⟨p, hp, rfl⟩)) (Nat.lt_of_lt_of_le (by decide : 5 < 6) (Nat.le_of_ble_eq_true rfl)) fun L2' H4 ac2 hL2 s4 hL2' hH2 nh2 => ?_
  have z1 := hH1.len
  have z2 := hH2.len
  rw [List.length_map, List.length_map] at z1 z2
  refine ⟨L1, L2', _, _, rfl, rfl, s4 _ _ hL1', hL2', sz16 (by omega), fun L3 hL3 => ?_⟩
  have s5 := L2.Same.up (o := .lst (ac1 ++ ac2)) hL3
  have s15 := ((s12.trans s3).trans s4).trans s5
  have cD : asD.map (fun p => cpOf p.2) = cpsD d := by unfold cpsD; rw [eD, List.map_map]; rfl
  have cE : asE.map (fun p => cpOf p.2) = cpsD e := by unfold cpsD; rw [eE, List.map_map]; rfl
  rw [cD] at hH1
  rw [cE] at hH2
  have hH3 : HdL (upd H4 L3 (.lst (ac1 ++ ac2))) (ac1 ++ ac2) ((cpsD d ++ cpsD e).map cpD) := by
    rw [List.map_append]
    exact ((hH1.to s4).to s5).app (hH2.to s5)
  obtain ⟨c0, hc0⟩ : ∃ c, (cpsD e)[0]? = some c := ⟨_, List.getElem?_eq_getElem (by unfold cpsD; rw [List.length_map]; omega)⟩
  obtain ⟨c1', hc1⟩ : ∃ c, (cpsD d ++ cpsD e)[0]? = some c := ⟨_, List.getElem?_eq_getElem (by rw [List.length_append]; unfold cpsD; rw [List.length_map, List.length_map]; omega)⟩
  obtain ⟨v1, f1, g1⟩ := hH3.get (i := 0) (by rw [List.getElem?_map, hc1]; rfl)
  obtain ⟨r1, rfl, t1⟩ := g1.cp
  have fv : ∀ v, ((c1'.1 ≠ h → v = .str "hand") ∧ (c1'.1 = h → (chain g ((cpsD d ++ cpsD e) ++ [c0]) → v = .non) ∧ (¬ chain g ((cpsD d ++ cpsD e) ++ [c0]) → v = .str "step"))) → FaultV g h d e v := fun v hv =>
    ⟨fun w => absurd ⟨c1, c2⟩ w, fun _ _ => ⟨fun z => by rw [z] at lE; exact absurd (by rw [lE]; rfl) c3, fun c hc cs ecs c' hc' => by
      subst ecs
      rw [hc0] at hc
      rw [hc1] at hc'
      cases hc
      cases hc'
      exact hv⟩⟩
  walk_at "s"
  refine s_ixL (i := 0) (SqL.of upd_same) f1 ?_
  walk_at "s"
  refine s_ixT0 (SqT.of t1) ?_
  walk_at "s"
  refine s_iteND (fun c4 => ?_) (fun c4 => ?_)
  · walk_at "s"
    exact q _ _ s15 (fv _ ⟨fun _ => rfl, fun z => absurd z c4⟩)
  walk_at "s"
  obtain ⟨ve0, u1, u2⟩ := ((hLe.to s3).to s4).to s5 |>.get (i := 0) (d := (seqD e)[0]'(by omega)) (List.getElem?_eq_getElem (by omega))
  have hin0 : isCpl g.hs g.ls ((seqD e)[0]'(by omega)) = true := b2 _ (List.getElem_mem _)
  refine s_ixS (i := 0) (((hSe.to s3).to s4).to s5) u1 ?_
  refine s_kTupC u2 hin0 fun r6 H6 s6 hr6 => ?_
  walk_at "s"
  refine s_tl (Nat.le_of_ble_eq_true rfl) fun L7 hL7 => ?_
  have s7 := L2.Same.up (o := .lst [.ref r6]) hL7
  have ec0 : c0 = cpOf ((seqD e)[0]'(by omega)) := by
    unfold cpsD at hc0
    rw [List.getElem?_map, List.getElem?_eq_getElem (by omega)] at hc0
    exact (Option.some.inj hc0).symm
  refine ⟨L3, L7, _, _, rfl, rfl, s7 _ _ (s6 _ _ upd_same), upd_same, sz16 (by rw [List.length_append]; show _ + 1 ≤ _; omega), fun L8 hL8 => ?_⟩
  have s8 := L2.Same.up (o := .lst ((ac1 ++ ac2) ++ [.ref r6])) hL8
  have hH8 : HdL (upd (upd H6 L7 (.lst [.ref r6])) L8 (.lst ((ac1 ++ ac2) ++ [.ref r6]))) ((ac1 ++ ac2) ++ [.ref r6]) (((cpsD d ++ cpsD e) ++ [c0]).map cpD) := by
    rw [List.map_append]
    refine HdL.app (((hH3.to s6).to s7).to s8) (.cons ?_ .nil)
    rw [ec0]
    exact Hd.cpI (s8 _ _ (s7 _ _ hr6))
  have hrng : ∀ c ∈ (cpsD d ++ cpsD e) ++ [c0], inR g c := fun c hc => by
    have one : ∀ x, (∀ y ∈ seqD x, isCpl g.hs g.ls y = true) → ∀ c ∈ cpsD x, inR g c := fun x hx c hc => by
      obtain ⟨y, hy, rfl⟩ := List.mem_map.mp hc
      have := isCpl_cp (hx y hy)
      exact ⟨this.2.2.1, this.2.2.2⟩
    rcases List.mem_append.mp hc with hc | hc
    · rcases List.mem_append.mp hc with hc | hc
      · exact one d a2 c hc
      · exact one e b2 c hc
    · rw [List.mem_singleton.mp hc]
      exact one e b2 c0 (List.mem_of_getElem? hc0)
  have s68 := ((s15.trans s6).trans s7).trans s8
  walk_at "s"
  refine ⟨y, g, .ref L8, _, _, rfl, hg.to s68, ⟨L8, rfl, .inl (SqL.of upd_same)⟩, hH8, hrng, by simp, by rw [List.length_append, List.length_append]; unfold cpsD; rw [List.length_map, List.length_map]; show _ + 1 ≤ _; omega, fun hch H9 s9 => ?_, fun hch H9 s9 => ?_⟩
  · walk_at "s"
    exact q _ _ (s68.trans s9) (fv _ ⟨fun z => absurd c4 z, fun _ => ⟨fun _ => rfl, fun z => absurd hch z⟩⟩)
  · walk_at "s"
    exact q _ _ (s68.trans s9) (fv _ ⟨fun z => absurd c4 z, fun _ => ⟨fun z => absurd z hch, fun _ => rfl⟩⟩)
theorem c__law_fault_word (T : TX K mg) : Cal (L2.CX P w) P w K mg base 4 "_law_fault_word" sp_lfw [] :=
  cal_mk T.f__law_fault_word T.g__law_fault_word ⟨rfl, rfl⟩ (fun _ _ _ _ _ _ us hl => match us, hl with | [_, _, _, _], _ => rfl) sc__law_fault_word (fun vs H Q E h => by obtain ⟨y, g, h, vd, ve, d, e, rfl, _⟩ := h; rfl) (k__law_fault_word T)
end

end K53
namespace K53
open PySem PySem.Spec PyProof.Rows L2
/-! ### lists of truths by == -/
def bD (bs : List Bool) : List PyData := bs.map PyData.bool
theorem eqvAllB : ∀ as bs : List Bool, PyData.eqvAll (bD as) (bD bs) = decide (as = bs)
  | [], [] => by rfl
  | [], _ :: _ => by rfl
  | _ :: _, [] => by rfl
  | a :: as, b :: bs => by
    show PyData.eqvAll (.bool a :: bD as) (.bool b :: bD bs) = _
    rw [PyData.eqvAll, eqvAllB as bs]
    cases a <;> cases b <;> simp [PyData.eqv]
theorem eqvB (as bs : List Bool) : PyData.eqv (.list (bD as)) (.list (bD bs)) = decide (as = bs) := by
  rw [PyData.eqv, eqvAllB]
theorem layAllB : ∀ bs : List Bool, PyData.canLayAll0 (bD bs) = true ∧ PyData.depthAll (bD bs) ≤ 0
  | [] => ⟨by show PyData.canLayAll0 [] = true; rw [PyData.canLayAll0], by show PyData.depthAll [] ≤ 0; rw [PyData.depthAll]; exact Nat.le_refl _⟩
  | b :: bs => by
    have q := layAllB bs
    show PyData.canLayAll0 (.bool b :: bD bs) = true ∧ PyData.depthAll (.bool b :: bD bs) ≤ 0
    refine ⟨by rw [PyData.canLayAll0, q.1]; rfl, ?_⟩
    rw [PyData.depthAll]
    exact Nat.max_le.mpr ⟨Nat.le_refl _, q.2⟩
theorem layB (bs : List Bool) : (PyData.list (bD bs)).canLay0 = true := by rw [PyData.canLay0]; exact (layAllB bs).1
theorem shapedB (bs : List Bool) : SeqAt.shaped (.list (bD bs)) = true := by
  unfold SeqAt.shaped
  rw [layB, decide_eq_true (by rw [PyData.depth]; have := (layAllB bs).2; omega)]
  rfl
/-- == of two lists of truths -/
theorem s_eqB {K : PySem.W.Frag} {H : Hp} {x y : V} {as bs : List Bool} {Q : VK} (hx : Hd H x (.list (bD as))) (hy : Hd H y (.list (bD bs))) (q : Q (.bl (decide (as = bs))) H) : rEqD K x y H Q :=
  ⟨_, _, hx.dp K _ _ (layB as), hy.dp K _ _ (layB bs), shapedB as, shapedB bs, by rw [eqvB]; exact q⟩
theorem nhB : ∀ bs : List Bool, nh (bs.map V.bl) = true
  | [] => rfl
  | _ :: _ => rfl
theorem hdLB {H : Hp} : ∀ bs : List Bool, HdL H (bs.map V.bl) (bD bs)
  | [] => .nil
  | b :: bs => .cons (.bl b) (hdLB bs)
theorem hdB {H : Hp} {a : Addr} {bs : List Bool} (h : H a = some (.lst (bs.map V.bl))) : Hd H (.ref a) (.list (bD bs)) := .lst h (nhB bs) (hdLB bs)

end K53
namespace K53
open PySem PySem.Spec PyProof.Rows L2
/-! ### the law's round, told -/
theorem sIx_nat {n d i : Nat} (h : i ≤ n) : HT.sIx n d (some (i : Int)) = i := by
  unfold HT.sIx
  dsimp only
  split
  · omega
  · omega
theorem s_slice {K : PySem.W.Frag} {H : Hp} {Q : VK} {a : Addr} {xs : List V} {lo : Nat} (h : H a = some (.lst xs)) (hl : lo ≤ xs.length) (q : ∀ p, H p = none → Q (.ref p) (upd H p (.lst (xs.drop lo)))) : rSlL K (.ref a) (some (lo : Int)) none H Q :=
  ⟨a, xs, rfl, SqL.of h, fun p hp => by
    have e : cutV xs (some (lo : Int)) none = xs.drop lo := by
      unfold cutV
      rw [sIx_nat hl]
      show (xs.drop lo).take (xs.length - lo) = _
      exact List.take_of_length_le (by rw [List.length_drop]; omega)
    rw [e]
    exact q p hp⟩
theorem s_slice2 {K : PySem.W.Frag} {H : Hp} {Q : VK} {a : Addr} {xs : List V} {lo n : Nat} (h : H a = some (.lst xs)) (hl : lo + n ≤ xs.length) (q : ∀ p, H p = none → Q (.ref p) (upd H p (.lst ((xs.drop lo).take n)))) : rSlL K (.ref a) (some (lo : Int)) (some ((lo + n : Nat) : Int)) H Q :=
  ⟨a, xs, rfl, SqL.of h, fun p hp => by
    have e : cutV xs (some (lo : Int)) (some ((lo + n : Nat) : Int)) = (xs.drop lo).take n := by
      unfold cutV
      rw [sIx_nat (show lo ≤ xs.length by omega), sIx_nat hl, Nat.add_sub_cancel_left]
    rw [e]
    exact q p hp⟩
def blw (f : Nat → Bool) (lo n : Nat) : List Bool := (List.range n).map fun i => f (lo + i)
theorem blv_add (f : Nat → Bool) (a b : Nat) : blv f (a + b) = blv f a ++ (blw f a b).map V.bl := by
  unfold blv blw
  rw [List.range_add, List.map_append, List.map_map, List.map_map]
  rfl
theorem blv_drop (f : Nat → Bool) (a b : Nat) : (blv f (a + b)).drop a = (blw f a b).map V.bl := by
  rw [blv_add, List.drop_left' (blv_len f a)]
theorem blw_take (f : Nat → Bool) (lo n k : Nat) (h : n ≤ k) : (blw f lo k).take n = blw f lo n := by
  unfold blw
  rw [← List.map_take, List.take_range, Nat.min_eq_left h]
theorem blv_cut (f : Nat → Bool) {lo n N : Nat} (h : lo + n ≤ N) : ((blv f N).drop lo).take n = (blw f lo n).map V.bl := by
  have e : N = lo + (N - lo) := by omega
  rw [e, blv_drop, ← List.map_take, blw_take f lo n (N - lo) (by omega)]
theorem blw_per {f : Nat → Bool} {m t : Nat} (hp : ∀ k, m ≤ k → f (k + t) = f k) (a : Nat) (ha : m ≤ a) : blw f (a + t) t = blw f a t := by
  unfold blw
  refine List.map_congr_left fun i _ => ?_
  rw [show a + t + i = (a + i) + t by omega]
  exact hp _ (by omega)
theorem far_eq {f : Nat → Bool} {m t : Nat} (hp : ∀ k, m ≤ k → f (k + t) = f k) : blv f (m + t) ++ (blv f (m + t)).drop m ++ (blv f (m + t)).drop m = blv f (m + t + t + t) := by
  rw [blv_add f (m + t + t), blv_add f (m + t), blv_drop, blw_per hp (m + t) (by omega), blw_per hp m (Nat.le_refl _)]
theorem blw_eq {f : Nat → Bool} {a b n : Nat} : blw f a n = blw f b n ↔ ∀ i, i < n → f (a + i) = f (b + i) := by
  unfold blw
  constructor
  · intro h i hi
    have := congrArg (·[i]?) h
    rw [List.getElem?_map, List.getElem?_map, List.getElem?_range hi] at this
    exact Option.some.inj this
  · intro h
    exact List.map_congr_left fun i hi => h i (List.mem_range.mp hi)

end K53
namespace K53
open PySem PySem.Spec PyProof.Rows L2
/-! ### the round told: the walk -/
abbrev N__law_told_round : List Str := ["_law_truths", "_law_head", "_law_turn", "_law_far_here", "_law_least", "_law_part", "_law_step", "_law_at"]
theorem sc__law_told_round : FnScope N__law_told_round ["_law_truths", "_law_head"] (defScope s__law_told_round) := C8.fnScope_by (by decide +kernel)
def sp_ltr : Sp := fun vs H Q _ => ∃ t f, ∃ m tn : Nat, vs = [.ref t, .int (m : Int)] ∧ H t = some (.lst (blv f (m + tn))) ∧ 1 ≤ tn ∧ m + tn ≤ 2000 ∧ (∀ k, m ≤ k → f (k + tn) = f k) ∧
  ∀ u h p H', Same H H' → IsRnd f h p → h ≤ 2000 → p ≤ 2000 → Hd H' u (rndD h p (rlot f h p)) → Q u H'
section
variable {P : Program} {w : World} {K : PySem.W.Frag} {mg : Str → Option Value} {base : Heap}
theorem k__law_told_round (T : TX K mg) : Keeps (L2.CX P w) P w K mg base d__law_told_round N__law_told_round 0 sp_ltr := by
  intro cdv A outer s H vs Q E hr hsp
  obtain ⟨t, f, m, tn, rfl, ht, ht1, hz, hper, q⟩ := hsp
  have nd := sc__law_told_round.nd
  have hu := hu_of hr
  have hu64 := hr.units
  refine ⟨_, (pss_cons (ps_set (i := 2) nd rfl (Or.inl rfl) (pe_op op_sub (pe_callB (call_lenK (K := K) rfl) (by rfl) T.b_len PySem.boot_len (pa_cons (pv 0) pa_nil)) (pv 1)))
  (pss_cons (ps_set (i := 3) nd rfl (Or.inr rfl) (pe_op op_cat (pe_op op_cat (pv 0) (pe_slice (sl_listK (K := K) rfl) (pv 0) (po_some (pv 1)) po_none)) (pe_slice (sl_listK (K := K) rfl) (pv 0) (po_some (pv 1)) po_none)))
  (pss_cons (ps_set (i := 4) nd rfl (Or.inl rfl) (pv 2))
  (C8.pss_cut (ps_for (passes_of rfl) rfl (pi_range2 (by rfl) T.b_range (pa_cons pe_int (pa_cons (pe_op op_add (pv 2) pe_int) pa_nil))) (pg_name (i := 5) nd rfl (Or.inl rfl)) (pss_one (ps_if (pt_cmpR (op_eqDK (K := K) rfl hu64) (pe_slice (sl_listK (K := K) rfl) (pv 3) (po_some (pv 1)) (po_some (pe_op op_add (pv 1) (pv 2)))) (pe_slice (sl_listK (K := K) rfl) (pv 3) (po_some (pe_op op_add (pv 1) (pv 5))) (po_some (pe_op op_add (pe_op op_add (pv 1) (pv 5)) (pv 2)))) (nomark _)) (pss_cons (ps_set (i := 4) nd rfl (Or.inl rfl) (pv 5))
  (pss_one ps_break)) pss_nil)))
  (C8.pss_cut (ps_for (passes_of rfl) rfl (pi_range1 (by rfl) T.b_range (pa_cons (pv 1) pa_nil)) (pg_name (i := 6) nd rfl (Or.inl rfl)) (pss_cons (ps_if (pt_cmpR op_ne (pe_ix (ix_listK (K := K) rfl) (pv 3) (pe_op op_sub (pv 1) pe_int) (fun _ _ => rfl)) (pe_ix (ix_listK (K := K) rfl) (pv 3) (pe_op op_add (pe_op op_sub (pv 1) pe_int) (pv 4)) (fun _ _ => rfl)) (nomark _)) (pss_one ps_break) pss_nil)
  (pss_one (ps_set (i := 1) nd rfl (Or.inl rfl) (pe_op op_sub (pv 1) pe_int)))))
  (pss_one (ps_ret (pe_tup (pa_cons (pv 1) (pa_cons (pv 4) (pa_cons (pe_tupleOfK (K := K) rfl (by rfl) T.b_tuple (pe_lc (own := [("_law_at", 7)]) rfl nd (pi_range1 (by rfl) T.b_range (pa_cons (pe_op op_add (pv 1) (pv 4)) pa_nil)) (blkOk_by (N := N__law_told_round) (sc := (defScope s__law_told_round)) (by decide +kernel)) (fun _ _ _ _ _ => (pg_name (i := 7) nd rfl (Or.inl rfl))) (fun _ _ _ _ _ => (pts_one (pt_val (pe_ix (ix_listK (K := K) rfl) (pv 3) (pv 7) (fun _ _ => rfl))))) (fun _ _ _ _ _ => (pv 7)))) pa_nil))))))))))), ?_⟩
  refine st_eq (σ := [some (.ref t), some (.int (m : Int)), none, none, none, none, none, none]) rfl ?_
  walk_at "s"
  refine s_lenL ht ?_
  rw [blv_len]
  walk_at "s"
  rw [show (((m + tn : Nat) : Int) - (m : Int)) = (tn : Int) by omega]
  refine s_slice ht (by rw [blv_len]; omega) fun p1 hp1 => ?_
  have s1 := L2.Same.up (o := HO.lst ((blv f (m + tn)).drop m)) hp1
  have e1 := s1 _ _ ht
  have l1 : ((blv f (m + tn)).drop m).length = tn := by rw [List.length_drop, blv_len]; omega
  refine ⟨t, p1, _, _, rfl, rfl, e1, upd_same, sz16 (by rw [blv_len, l1]; omega), fun p2 hp2 => ?_⟩
  walk_at "s"
  have s2 := L2.Same.up (o := HO.lst (blv f (m + tn) ++ (blv f (m + tn)).drop m)) hp2
  refine s_slice (s2 _ _ e1) (by rw [blv_len]; omega) fun p3 hp3 => ?_
  have s3 := L2.Same.up (o := HO.lst ((blv f (m + tn)).drop m)) hp3
  refine ⟨p2, p3, _, _, rfl, rfl, s3 _ _ upd_same, upd_same, sz16 (by rw [List.length_append, blv_len, l1]; omega), fun F hF => ?_⟩
  rw [far_eq hper]
  have s4 := L2.Same.up (o := HO.lst (blv f (m + tn + tn + tn))) hF
  have s14 := ((s1.trans s2).trans s3).trans s4
  have e5 : (upd (upd (upd (upd H p1 (.lst ((blv f (m + tn)).drop m))) p2 (.lst (blv f (m + tn) ++ (blv f (m + tn)).drop m))) p3 (.lst ((blv f (m + tn)).drop m))) F (.lst (blv f (m + tn + tn + tn)))) F = some (.lst (blv f (m + tn + tn + tn))) := upd_same
  generalize (upd (upd (upd (upd H p1 (.lst ((blv f (m + tn)).drop m))) p2 (.lst (blv f (m + tn) ++ (blv f (m + tn)).drop m))) p3 (.lst ((blv f (m + tn)).drop m))) F (.lst (blv f (m + tn + tn + tn)))) = H5 at s14 e5
  clear s4 hF s3 hp3 s2 hp2 e1 s1 hp1
  walk_at "s"
  refine s_cut (fun σ H6 => ∃ (l : Nat) (x : Option V), σ = [some (.ref t), some (.int (m : Int)), some (.int (tn : Int)), some (.ref F), some (.int (l : Int)), x, none, none] ∧ Same H5 H6 ∧ 1 ≤ l ∧ l ≤ tn ∧ (∀ k, m ≤ k → f (k + l) = f k) ∧ ∀ r, 1 ≤ r → r < l → ¬ ∀ k, m ≤ k → f (k + r) = f k) ?_ (fun σ H6 hM => ?_)
  · walk_at "s"
    refine s_i2f (i := 1) (n := tn + 1) (by omega) (by omega) ?_
    refine for_f (List.range (tn + 1 - 1)) walk_r1 List.length_range.symm (fun i σ H6 => ∃ x, σ = [some (.ref t), some (.int (m : Int)), some (.int (tn : Int)), some (.ref F), some (.int (tn : Int)), x, none, none] ∧ Same H5 H6 ∧ ∀ r, 1 ≤ r → r ≤ i → ¬ ∀ k, m ≤ k → f (k + r) = f k)
      ⟨_, rfl, L2.Same.refl _, fun r h1 h2 => by omega⟩ (fun _ _ _ _ => trivial) (fun i k σ H6 hi hP => ?_) (fun σ H6 hP => ?_)
    · obtain ⟨x, rfl, sm, hno⟩ := hP
      have hi2 : i < tn + 1 - 1 := by
        have := (List.getElem?_eq_some_iff.mp hi).1
        rwa [List.length_range] at this
      rw [List.getElem?_range hi2] at hi
      cases hi
      walk_at "s"
      refine s_slice2 (sm _ _ e5) (by rw [blv_len]; omega) fun a ha => ?_
      rw [blv_cut f (by omega)]
      have sa := L2.Same.up (o := HO.lst ((blw f m tn).map V.bl)) ha
      walk_at "s"
      refine s_slice2 (sa _ _ (sm _ _ e5)) (by rw [blv_len]; omega) fun b hb => ?_
      rw [blv_cut f (by omega)]
      have sb := L2.Same.up (o := HO.lst ((blw f (m + (1 + i)) tn).map V.bl)) hb
      refine s_eqB (hdB (sb _ _ upd_same)) (hdB upd_same) ?_
      walk_at "s"
      refine s_iteD (fun e => ?_) (fun e => ?_)
      · walk_at "s"
        exact ⟨1 + i, _, rfl, (sm.trans sa).trans sb, by omega, by omega, (stretch_iff ht1 hper).mp (blw_eq.mp e), fun r h1 h2 => hno r h1 (by omega)⟩
      · walk_at "s"
        refine ⟨_, rfl, (sm.trans sa).trans sb, fun r h1 h2 h3 => ?_⟩
        by_cases er : r = i + 1
        · subst er
          exact e (blw_eq.mpr ((stretch_iff ht1 hper).mpr (by rw [show 1 + i = i + 1 by omega]; exact h3)))
        · exact hno r h1 (by omega) h3
    · obtain ⟨x, rfl, sm, hno⟩ := hP
      rw [List.length_range] at hno
      exact absurd hper (hno tn ht1 (by omega))
  obtain ⟨l, x, rfl, sm, l1', l2', lp, lno⟩ := hM
  have e6 := sm _ _ e5
  refine s_cut (fun σ H7 => ∃ (g : Nat) (x y : Option V), σ = [some (.ref t), some (.int (g : Int)), some (.int (tn : Int)), some (.ref F), some (.int (l : Int)), x, y, none] ∧ H7 = H6 ∧ g ≤ m ∧ (∀ i, g ≤ i → i < m → f i = f (i + l)) ∧ (g = 0 ∨ f (g - 1) ≠ f (g - 1 + l))) ?_ (fun σ H7 hM => ?_)
  · walk_at "s"
    refine s_i1f (n := m) (by omega) ?_
    refine for_f (u := fun (n : Nat) => V.int (n : Int)) (List.range m) walk_r List.length_range.symm (fun i σ H7 => ∃ y, σ = [some (.ref t), some (.int ((m - i : Nat) : Int)), some (.int (tn : Int)), some (.ref F), some (.int (l : Int)), x, y, none] ∧ H7 = H6 ∧ i ≤ m ∧ (∀ j, m - i ≤ j → j < m → f j = f (j + l)))
      ⟨_, rfl, rfl, Nat.zero_le _, fun j h1 h2 => by omega⟩ (fun _ _ _ _ => trivial) (fun i k σ H7 hi hP => ?_) (fun σ H7 hP => ?_)
    · obtain ⟨y, rfl, rfl, him, hbk⟩ := hP
      have hi2 : i < m := by
        have := (List.getElem?_eq_some_iff.mp hi).1
        rwa [List.length_range] at this
      walk_at "s"
      rw [show (((m - i : Nat) : Int) - 1) = ((m - i - 1 : Nat) : Int) by omega]
      refine s_ixL (SqL.of e6) (blv_at (by omega)) ?_
      walk_at "s"
      rw [show ((((m - i : Nat) : Int) - 1) + (l : Int)) = ((m - i - 1 + l : Nat) : Int) by omega]
      refine s_ixL (SqL.of e6) (blv_at (by omega)) ?_
      refine s_ne rfl ?_
      walk_at "s"
      refine s_iteND (fun e => ?_) (fun e => ?_)
      · walk_at "s"
        exact ⟨m - i, _, _, rfl, rfl, by omega, hbk, .inr fun z => e (by rw [z])⟩
      · walk_at "s"
        rw [show (((m - i : Nat) : Int) - 1) = ((m - (i + 1) : Nat) : Int) by omega]
        refine ⟨_, rfl, rfl, by omega, fun j h1 h2 => ?_⟩
        by_cases ej : j = m - i - 1
        · subst ej
          injection e
        · exact hbk j (by omega) h2
    · obtain ⟨y, rfl, rfl, _, hbk⟩ := hP
      rw [List.length_range] at *
      exact ⟨m - m, _, _, rfl, rfl, by omega, fun j h1 h2 => hbk j h1 h2, .inl (by omega)⟩
  · obtain ⟨g, x1, y1, rfl, rfl, hg, hbk, hst⟩ := hM
    have rnd : IsRnd f g l := isRnd_of ht1 hper l1' lp (fun r h1 h2 _ => lno r h1 h2) hg hbk hst
    walk_at "s"
    refine s_i1c (n := g + l) (by omega) ?_
    refine lc_f (u := fun (n : Nat) => V.int (n : Int)) (List.range (g + l)) (fun i => if f i = true then some (.int (i : Int)) else none) walk_r List.length_range.symm (by rw [List.length_range]; omega) (fun _ _ => trivial) (fun D i a H8 c => ?_) (fun D H8 hD s8 e8 => ?_)
    · have ha : a < g + l := List.mem_range.mp (List.mem_of_getElem? c.ai)
      walk_at "s"
      refine ⟨rfl, ?_⟩
      walk_at "s"
      refine s_ixL (SqL.of (c.sm _ _ e6)) (blv_at (by omega)) ?_
      walk_at "s"
      refine s_ite (fun e => ?_) (fun e => ?_)
      · walk_at "s"
        exact lc_yes c (L2.Same.refl _) (by rw [e]; rfl)
      · exact lc_no c (L2.Same.refl _) (by rw [e]; rfl)
    · rw [fm_if f (fun i => V.int (i : Int))] at e8
      refine s_kTupL e8 fun u hu' => ?_
      walk_at "s"
      refine s_tl (Nat.le_of_ble_eq_true rfl) fun z hz' => ?_
      have s9 := (L2.Same.up (o := HO.tup (((List.range (g + l)).filter f).map fun (i : Nat) => V.int (i : Int))) hu')
      have s10 := (L2.Same.up (o := HO.tup [.int (g : Int), .int (l : Int), .ref u]) hz')
      refine q _ g l _ ((((s14.trans sm).trans s8).trans s9).trans s10) rnd (by omega) (by omega) (.tup upd_same (.cons (.int _) (.cons (.int _) (.cons (Hd.ivT (s10 _ _ upd_same)) .nil))))
theorem c__law_told_round (T : TX K mg) : Cal (L2.CX P w) P w K mg base 1 "_law_told_round" sp_ltr [] :=
  cal_mk T.f__law_told_round T.g__law_told_round ⟨rfl, rfl⟩ (fun _ _ _ _ _ _ us hl => match us, hl with | [_, _], _ => rfl) sc__law_told_round (fun vs H Q E h => by obtain ⟨t, f, m, tn, rfl, _⟩ := h; rfl) (k__law_told_round T)
end

end K53
namespace K53
open PySem PySem.Spec PyProof.Rows L2
/-! ### a story without an end, unrolled -/
structure Ring (g : Hou) (h : Nat) (B A : List (Nat × Nat)) : Prop where
  ne : 1 ≤ A.length
  sz : B.length + A.length ≤ 16
  rng : ∀ c ∈ B ++ A, inR g c
  hd : ∀ c, (B ++ A)[0]? = some c → c.1 = h
  st : ∀ i a b, (B ++ A)[i]? = some a → (B ++ A)[i + 1]? = some b → g.stC a b = true
  bk : ∀ a b, (B ++ A)[B.length + A.length - 1]? = some a → (B ++ A)[B.length]? = some b → g.stC a b = true
def rix (B A : List (Nat × Nat)) (i : Nat) : Nat := if i < B.length then i else B.length + (i - B.length) % A.length
def unr (B A : List (Nat × Nat)) (i : Nat) : Nat × Nat := (B ++ A).getD (rix B A i) (0, 0)
section
variable {g : Hou} {h : Nat} {B A : List (Nat × Nat)}
theorem rix_lt (hA : 1 ≤ A.length) (i : Nat) : rix B A i < (B ++ A).length := by
  unfold rix
  rw [List.length_append]
  split
  · omega
  · have := Nat.mod_lt (i - B.length) (show 0 < A.length by omega)
    omega
theorem unr_at (hA : 1 ≤ A.length) (i : Nat) : (B ++ A)[rix B A i]? = some (unr B A i) := by
  unfold unr
  rw [List.getD_eq_getElem?_getD, List.getElem?_eq_getElem (rix_lt hA i)]
  rfl
theorem rix_succ (hA : 1 ≤ A.length) (i : Nat) : rix B A (i + 1) = rix B A i + 1 ∨ (rix B A i = B.length + A.length - 1 ∧ rix B A (i + 1) = B.length) := by
  unfold rix
  by_cases h1 : i + 1 < B.length
  · rw [if_pos h1, if_pos (by omega)]
    exact .inl rfl
  · rw [if_neg h1]
    by_cases h2 : i < B.length
    · rw [if_pos h2, show i + 1 - B.length = 0 by omega, Nat.zero_mod]
      exact .inl (by omega)
    · rw [if_neg h2, show i + 1 - B.length = (i - B.length) + 1 by omega]
      have hl := Nat.mod_lt (i - B.length) (show 0 < A.length by omega)
      have e : ((i - B.length) + 1) % A.length = ((i - B.length) % A.length + 1) % A.length := by rw [Nat.mod_add_mod]
      rw [e]
      by_cases h3 : (i - B.length) % A.length + 1 < A.length
      · rw [Nat.mod_eq_of_lt h3]
        exact .inl (by omega)
      · have h4 : (i - B.length) % A.length + 1 = A.length := by omega
        rw [h4, Nat.mod_self]
        exact .inr ⟨by omega, by omega⟩
theorem Ring.step (r : Ring g h B A) (i : Nat) : g.stC (unr B A i) (unr B A (i + 1)) = true := by
  have a1 := unr_at (B := B) r.ne i
  have a2 := unr_at (B := B) r.ne (i + 1)
  rcases rix_succ (B := B) r.ne i with e | ⟨e1, e2⟩
  · rw [e] at a2
    exact r.st _ _ _ a1 a2
  · rw [e1] at a1
    rw [e2] at a2
    exact r.bk _ _ a1 a2
theorem Ring.inr (r : Ring g h B A) (i : Nat) : inR g (unr B A i) := r.rng _ (List.mem_of_getElem? (unr_at r.ne i))
theorem Ring.first (r : Ring g h B A) : (unr B A 0).1 = h := by
  refine r.hd _ ?_
  have := unr_at (B := B) r.ne 0
  have e : rix B A 0 = 0 := by
    unfold rix
    split
    · rfl
    · rw [Nat.zero_sub, Nat.zero_mod]
      omega
  rw [e] at this
  exact this
/-- a list that stands in the unrolled story from its o-th place on -/
def Agr (B A : List (Nat × Nat)) (o : Nat) (L : List (Nat × Nat)) : Prop := ∀ i c, L[i]? = some c → c = unr B A (o + i)
theorem agrB (hA : 1 ≤ A.length) : Agr B A 0 B := fun i c hc => by
  have hi := (List.getElem?_eq_some_iff.mp hc).1
  have := unr_at (B := B) hA (0 + i)
  have e : rix B A (0 + i) = i := by
    unfold rix
    rw [Nat.zero_add, if_pos hi]
  rw [e, List.getElem?_append_left hi, hc] at this
  exact Option.some.inj this
theorem agrA (hA : 1 ≤ A.length) (j : Nat) {o : Nat} (ho : o = B.length + j * A.length) : Agr B A o A := fun i c hc => by
  have hi := (List.getElem?_eq_some_iff.mp hc).1
  have := unr_at (B := B) hA (o + i)
  have e : rix B A (o + i) = B.length + i := by
    unfold rix
    rw [if_neg (by omega), show o + i - B.length = i + A.length * j by rw [ho, Nat.mul_comm]; omega, Nat.add_mul_mod_self_left, Nat.mod_eq_of_lt hi]
  rw [e, List.getElem?_append_right (by omega), Nat.add_sub_cancel_left, hc] at this
  exact Option.some.inj this
theorem Agr.app {o : Nat} {L M : List (Nat × Nat)} (h1 : Agr B A o L) {o2 : Nat} (ho : o2 = o + L.length) (h2 : Agr B A o2 M) : Agr B A o (L ++ M) := fun i c hc => by
  by_cases hi : i < L.length
  · rw [List.getElem?_append_left hi] at hc
    exact h1 i c hc
  · rw [List.getElem?_append_right (by omega)] at hc
    have := h2 _ c hc
    rw [ho, show o + L.length + (i - L.length) = o + i by omega] at this
    exact this
theorem Agr.take {o : Nat} {L : List (Nat × Nat)} (h1 : Agr B A o L) (n : Nat) : Agr B A o (L.take n) := fun i c hc => by
  rw [List.getElem?_take] at hc
  split at hc
  · exact h1 i c hc
  · cases hc
theorem Agr.drop {o : Nat} {L : List (Nat × Nat)} (h1 : Agr B A o L) (n : Nat) {o2 : Nat} (ho : o2 = o + n) : Agr B A o2 (L.drop n) := fun i c hc => by
  rw [List.getElem?_drop] at hc
  have := h1 _ c hc
  rw [ho, show o + n + i = o + (n + i) by omega]
  exact this
theorem Agr.chain (r : Ring g h B A) {o : Nat} {L : List (Nat × Nat)} (a : Agr B A o L) : K53.chain g L := fun i x y h1 h2 => by
  rw [a i x h1, a (i + 1) y h2]
  exact r.step (o + i)
theorem Agr.rng (r : Ring g h B A) {o : Nat} {L : List (Nat × Nat)} (a : Agr B A o L) : ∀ c ∈ L, inR g c := fun c hc => by
  obtain ⟨i, hi, e⟩ := List.getElem_of_mem hc
  have := a i c (by rw [List.getElem?_eq_getElem hi, e])
  rw [this]
  exact r.inr _
theorem Agr.first (r : Ring g h B A) {L : List (Nat × Nat)} (a : Agr B A 0 L) : ∀ c, L[0]? = some c → c.1 = h := fun c hc => by
  rw [a 0 c hc]
  exact r.first
/-! the fault's word is one -/
theorem faultV_uniq {g : Hou} {h : Nat} {d e : PyData} {v v' : V} (f : FaultV g h d e v) (f' : FaultV g h d e v') : v = v' ∧ (v = .non ∨ ∃ s, v = .str s) := by
  by_cases c : areC g d = true ∧ areC g e = true
  · obtain ⟨a1, a2⟩ := f.2 c.1 c.2
    obtain ⟨b1, b2⟩ := f'.2 c.1 c.2
    by_cases z : seqD e = []
    · rw [a1 z, b1 z]
      exact ⟨rfl, .inr ⟨_, rfl⟩⟩
    · have hl : 0 < (cpsD e).length := by
        unfold cpsD
        rw [List.length_map]
        exact List.length_pos_iff.mpr z
      have hl2 : 0 < (cpsD d ++ cpsD e).length := by rw [List.length_append]; omega
      obtain ⟨x1, x2⟩ := a2 _ (List.getElem?_eq_getElem hl) _ rfl _ (List.getElem?_eq_getElem hl2)
      obtain ⟨y1, y2⟩ := b2 _ (List.getElem?_eq_getElem hl) _ rfl _ (List.getElem?_eq_getElem hl2)
      by_cases u : ((cpsD d ++ cpsD e)[0]'hl2).1 = h
      · obtain ⟨x3, x4⟩ := x2 u
        obtain ⟨y3, y4⟩ := y2 u
        by_cases w : K53.chain g ((cpsD d ++ cpsD e) ++ [(cpsD e)[0]'hl])
        · rw [x3 w, y3 w]
          exact ⟨rfl, .inl rfl⟩
        · rw [x4 w, y4 w]
          exact ⟨rfl, .inr ⟨_, rfl⟩⟩
      · rw [x1 u, y1 u]
        exact ⟨rfl, .inr ⟨_, rfl⟩⟩
  · rw [f.1 c, f'.1 c]
    exact ⟨rfl, .inr ⟨_, rfl⟩⟩
theorem areC_mkS {g : Hou} {cs : List (Nat × Nat)} {d : PyData} (hs : isSeqD d = true) (e : seqD d = cs.map cpD) (h : ∀ c ∈ cs, inR g c) : areC g d = true := by
  unfold areC
  rw [hs, e, Bool.true_and, List.all_eq_true]
  intro x hx
  obtain ⟨c, hc, rfl⟩ := List.mem_map.mp hx
  exact isCpl_cpD (h c hc).1 (h c hc).2
/-- what is told by the unrolled story has no fault -/
theorem fault_none {v : V} {d e : PyData} {D E : List (Nat × Nat)} (r : Ring g h B A) (hs : isSeqD d = true) (ht : isSeqD e = true) (ed : seqD d = D.map cpD) (ee : seqD e = E.map cpD) (hE : 1 ≤ E.length) (a : Agr B A 0 (D ++ E ++ E.take 1)) (f : FaultV g h d e v) : v = .non := by
  have a1 : Agr B A 0 (D ++ E) := by
    have := a.take (D ++ E).length
    rw [List.take_left'  rfl] at this
    exact this
  have rg := a1.rng r
  have c1 := areC_mkS (g := g) hs ed fun c hc => rg c (List.mem_append_left _ hc)
  have c2 := areC_mkS (g := g) ht ee fun c hc => rg c (List.mem_append_right _ hc)
  have f2 := (f.2 c1 c2).2
  have cd : cpsD d = D := by unfold cpsD; rw [ed, cpsD_mk]
  have ce : cpsD e = E := by unfold cpsD; rw [ee, cpsD_mk]
  rw [cd, ce] at f2
  have hl2 : 0 < (D ++ E).length := by rw [List.length_append]; omega
  obtain ⟨_, x2⟩ := f2 (E[0]'hE) (List.getElem?_eq_getElem hE) _ rfl _ (List.getElem?_eq_getElem hl2)
  refine (x2 (a1.first r _ (List.getElem?_eq_getElem hl2))).1 ?_
  have e1 : E.take 1 = [E[0]'hE] := by
    cases E with
    | nil => cases hE
    | cons x xs => rfl
  rw [← e1]
  exact a.chain r
theorem len_take1 {L : List (Nat × Nat)} (h : 1 ≤ L.length) : (L.take 1).length = 1 := by rw [List.length_take]; omega
theorem Ring.f1 {v : V} (r : Ring g h B A) (f : FaultV g h (.tuple (B.map cpD)) (.tuple (A.map cpD)) v) : v = .non :=
  fault_none (D := B) (E := A) r rfl rfl rfl rfl r.ne (((agrB r.ne).app (o2 := B.length) (by omega) (agrA r.ne 0 (by omega))).app (o2 := B.length + A.length) (by rw [List.length_append]; omega) ((agrA r.ne 1 (by omega)).take 1)) f
theorem Ring.f2 {v : V} (r : Ring g h B A) (f : FaultV g h (.list ((B ++ A.take 1).map cpD)) (.tuple ((A.drop 1 ++ A.take 1).map cpD)) v) : v = .non := by
  have ne := r.ne
  have l1 := len_take1 ne
  have ld : (A.drop 1).length = A.length - 1 := List.length_drop
  refine fault_none (D := B ++ A.take 1) (E := A.drop 1 ++ A.take 1) r rfl rfl rfl rfl (by rw [List.length_append]; omega) ?_ f
  have p1 : Agr B A 0 (B ++ A.take 1) := (agrB ne).app (o2 := B.length) (by omega) ((agrA ne 0 (o := B.length) (by omega)).take 1)
  have p2 : Agr B A (B.length + 1) (A.drop 1 ++ A.take 1) := ((agrA ne 0 (o := B.length) (by omega)).drop 1 rfl).app (o2 := B.length + A.length) (by omega) ((agrA ne 1 (by omega)).take 1)
  have p3 : Agr B A (B.length + A.length + 1) ((A.drop 1 ++ A.take 1).take 1) := by
    have : Agr B A (B.length + A.length + 1) (A.drop 1 ++ A.take 1) := ((agrA ne 1 (o := B.length + A.length) (by omega)).drop 1 rfl).app (o2 := B.length + 2 * A.length) (by omega) ((agrA ne 2 (by omega)).take 1)
    exact this.take 1
  refine (p1.app (by rw [List.length_append]; omega) p2).app (o2 := B.length + A.length + 1) ?_ p3
  rw [List.length_append, List.length_append, List.length_append]
  omega
theorem Ring.f3 {v : V} (r : Ring g h B A) (f : FaultV g h (.tuple ((B ++ A).map cpD)) (.list ((A ++ A).map cpD)) v) : v = .non := by
  have ne := r.ne
  refine fault_none (D := B ++ A) (E := A ++ A) r rfl rfl rfl rfl (by rw [List.length_append]; omega) ?_ f
  have p1 : Agr B A 0 (B ++ A) := (agrB ne).app (o2 := B.length) (by omega) (agrA ne 0 (by omega))
  have p2 : Agr B A (B.length + A.length) (A ++ A) := (agrA ne 1 (by omega)).app (o2 := B.length + 2 * A.length) (by omega) (agrA ne 2 (by omega))
  have p3 : Agr B A (B.length + 3 * A.length) ((A ++ A).take 1) := ((agrA ne 3 (by omega)).app (o2 := B.length + 4 * A.length) (by omega) (agrA ne 4 (by omega))).take 1
  refine (p1.app (by rw [List.length_append]; omega) p2).app (o2 := B.length + 3 * A.length) ?_ p3
  rw [List.length_append, List.length_append, List.length_append]
  omega
theorem Ring.agr4 (r : Ring g h B A) : Agr B A 0 (B ++ A ++ A ++ A) := by
  have ne := r.ne
  refine (((agrB ne).app (o2 := B.length) (by omega) (agrA ne 0 (by omega))).app (o2 := B.length + A.length) (by rw [List.length_append]; omega) (agrA ne 1 (by omega))).app (o2 := B.length + 2 * A.length) ?_ (agrA ne 2 (by omega))
  rw [List.length_append, List.length_append]
  omega
end
theorem stC_stp (g : Hou) (a b : Nat) : g.stC (a / g.ls, a % g.ls) (b / g.ls, b % g.ls) = g.stp a b := rfl
theorem WkP.ring {g : Hou} {h : Nat} {p : List Nat} {k : Nat} (o : g.Ok) (w : WkP g h p k) : Ring g h ((p.take k).map fun n => (n / g.ls, n % g.ls)) ((p.drop k).map fun n => (n / g.ls, n % g.ls)) := by
  have kl := w.kl
  have sz := w.sz
  have eA : (p.take k).map (fun n => (n / g.ls, n % g.ls)) ++ (p.drop k).map (fun n => (n / g.ls, n % g.ls)) = p.map fun n => (n / g.ls, n % g.ls) := by rw [← List.map_append, List.take_append_drop]
  have l1 : ((p.take k).map fun n => (n / g.ls, n % g.ls)).length = k := by rw [List.length_map, List.length_take]; omega
  have l2 : ((p.drop k).map fun n => (n / g.ls, n % g.ls)).length = p.length - k := by rw [List.length_map, List.length_drop]
  have back : ∀ {i : Nat} {c : Nat × Nat}, (p.map fun n => (n / g.ls, n % g.ls))[i]? = some c → ∃ n, p[i]? = some n ∧ c = (n / g.ls, n % g.ls) := fun {i c} hc => by
    rw [List.getElem?_map] at hc
    cases e : p[i]? with
    | none => rw [e] at hc; cases hc
    | some n => rw [e] at hc; exact ⟨n, rfl, (Option.some.inj hc).symm⟩
  refine ⟨by omega, by omega, fun c hc => ?_, fun c hc => ?_, fun i a b ha hb => ?_, fun a b ha hb => ?_⟩
  · rw [eA] at hc
    obtain ⟨n, hn, rfl⟩ := List.mem_map.mp hc
    exact ⟨Hou.div_lt o (w.lt n hn), Hou.mod_lt o n⟩
  · rw [eA] at hc
    obtain ⟨n, hn, rfl⟩ := back hc
    obtain ⟨x, e1, e2⟩ := w.hd
    rw [hn] at e1
    cases e1
    exact e2
  · rw [eA] at ha hb
    obtain ⟨n, hn, rfl⟩ := back ha
    obtain ⟨m, hm, rfl⟩ := back hb
    rw [stC_stp]
    exact w.st i n m hn hm
  · rw [l1, l2, eA] at ha
    rw [l1, eA] at hb
    obtain ⟨n, hn, rfl⟩ := back ha
    obtain ⟨m, hm, rfl⟩ := back hb
    rw [stC_stp]
    refine w.bk n m ?_ hm
    rw [show p.length - 1 = k + (p.length - k) - 1 by omega]
    exact hn

end K53
namespace K53
open PySem PySem.Spec PyProof.Rows L2
/-! ### own operators, as the law uses them -/
theorem nf_same {K : PySem.W.Frag} {C : Addr} : PySem.W.notFirst K C (.ref C) = true := by
  unfold PySem.W.notFirst
  simp
section
variable {X : Cx} {K : PySem.W.Frag} {mg : Str → Option Value}
theorem op_inRd (hK : X.K = K) (hm : X.mg = mg) (T : TX K mg) (hr : Room 2 X.A) : OpR X (compareOp .In) (rOIn (gA K "Round") (sp_Round__contains__ K)) := by
  subst hK
  subst hm
  exact op_inO rfl (f_inR T) T.me_Round__contains__.at_ T.me_Round__contains__.fn hr
theorem op_orRd (hK : X.K = K) (hm : X.mg = mg) (T : TX K mg) (hr : Room 5 X.A) : OpR X (binaryOp .BitOr) (rOOr (gA K "Round") (sp_Round__or__ K)) := by
  subst hK
  subst hm
  exact op_orO rfl (f_orR T) T.m7 T.me_Round__or__.at_ T.me_Round__or__.fn hr
theorem op_neRd (hK : X.K = K) (hm : X.mg = mg) (T : TX K mg) (hr : Room 2 X.A) : OpR X (compareOp .NotEq) (rONe K (gA K "Round") (sp_Round__eq__ K)) := by
  subst hK
  subst hm
  exact op_neO rfl (f_eqR T) T.me_Round__eq__.at_ T.me_Round__eq__.fn (T.m2 (x := "Round") (by decide)).hm (T.m6 (x := "Round") (by decide)) hr
theorem op_eqLs (hK : X.K = K) (hm : X.mg = mg) (T : TX K mg) (hr : Room 1 X.A) : OpR X (compareOp .Eq) (rOEq K (gA K "Endless") (sp_Endless__eq__ K)) := by
  subst hK
  subst hm
  exact op_eqO rfl (f_eqL T) T.me_Endless__eq__.at_ T.me_Endless__eq__.fn hr
theorem op_neLs (hK : X.K = K) (hm : X.mg = mg) (T : TX K mg) (hr : Room 2 X.A) : OpR X (compareOp .NotEq) (rONe K (gA K "Endless") (sp_Endless__eq__ K)) := by
  subst hK
  subst hm
  exact op_neO rfl (f_eqL T) T.me_Endless__eq__.at_ T.me_Endless__eq__.fn (T.m2 (x := "Endless") (by decide)).hm (T.m6 (x := "Endless") (by decide)) hr
theorem op_eqEs (hK : X.K = K) (hm : X.mg = mg) (T : TX K mg) (hr : Room 1 X.A) : OpR X (compareOp .Eq) (rOEq K (gA K "Ends") (sp_Ends__eq__ K)) := by
  subst hK
  subst hm
  exact op_eqO rfl (f_eqE T) T.me_Ends__eq__.at_ T.me_Ends__eq__.fn hr
theorem op_neEs (hK : X.K = K) (hm : X.mg = mg) (T : TX K mg) (hr : Room 2 X.A) : OpR X (compareOp .NotEq) (rONe K (gA K "Ends") (sp_Ends__eq__ K)) := by
  subst hK
  subst hm
  exact op_neO rfl (f_eqE T) T.me_Ends__eq__.at_ T.me_Ends__eq__.fn (T.m2 (x := "Ends") (by decide)).hm (T.m6 (x := "Ends") (by decide)) hr
end
section
variable {K : PySem.W.Frag} {mg : Str → Option Value} {H : Hp} {Q : VK} {p p2 : Addr} {d e d2 e2 : PyData} {i j : Int} {f f2 : Nat → Bool}
theorem nf_of (T : TX K mg) {x y : Str} (hx : x ∈ clsN) (hy : y ∈ clsN) (h : decide (x = y) = false) : PySem.W.notFirst K (gA K y) (.ref (gA K x)) = true := kit_sub (by rw [T.m3 hx hy, h])
theorem nf_int (T : TX K mg) {y : Str} (hy : y ∈ clsN) : PySem.W.notFirst K (gA K y) (.type "int") = true := kit_sub (T.m4 (by decide) hy)
theorem s_inRd {k : Nat} (hR : RndO K H p f) (q : Q (.bl (f k)) H) : rOIn (gA K "Round") (sp_Round__contains__ K) (.int (k : Int)) (.ref p) H Q := by
  obtain ⟨h, t, h1, h2, h3, ro⟩ := id hR
  obtain ⟨dx, fs, L0, b1, _⟩ := ro.at_
  exact ⟨p, dx, fs, rfl, b1, f, k, p, rfl, hR, f k, rfl, q⟩
theorem s_orRd {D m : Nat} (hR : RndO K H p f) (hR2 : RndO K H p2 f2) (h1 : 1 ≤ D) (h2 : D ≤ 2000) (e1 : ∀ k, m ≤ k → f (k + D) = f k) (e2 : ∀ k, m ≤ k → f2 (k + D) = f2 k) (q : ∀ r H', Same H H' → RndO K H' r (fun k => f k || f2 k) → Q (.ref r) H') :
    rOOr (gA K "Round") (sp_Round__or__ K) (.ref p) (.ref p2) H Q := by
  obtain ⟨_, _, _, _, _, ro⟩ := id hR
  obtain ⟨dx, fs, L0, b1, _⟩ := ro.at_
  obtain ⟨_, _, _, _, _, ro2⟩ := id hR2
  obtain ⟨dx2, fs2, L2', b2, _⟩ := ro2.at_
  exact ⟨p, dx, fs, p2, dx2, fs2, rfl, b1, rfl, b2, f, f2, D, m, p, p2, rfl, hR, hR2, h1, h2, e1, e2, q⟩
theorem s_neRd {h t h2 t2 : Nat} {l l2 : List Nat} (ro : RouO K H p h t l) (ro2 : RouO K H p2 h2 t2 l2) (q : ∀ H', Same H H' → Q (.bl (!decide (h = h2 ∧ t = t2 ∧ l = l2))) H') : rONe K (gA K "Round") (sp_Round__eq__ K) (.ref p) (.ref p2) H Q := by
  obtain ⟨dx, fs, L0, b1, _⟩ := ro.at_
  obtain ⟨dx2, fs2, L2', b2, _⟩ := ro2.at_
  exact ⟨p, dx, fs, rfl, b1, .inl ⟨p2, _, dx2, fs2, rfl, b2, nf_same⟩, h, t, h2, t2, l, l2, p, p2, rfl, ro, ro2, fun H' s => ⟨_, rfl, q H' s⟩⟩
theorem s_eqLL (x : EndlO K H p d e) (y : EndlO K H p2 d2 e2) (a1 : pl 8 d = true) (a2 : pl 8 e = true) (a3 : pl 8 d2 = true) (a4 : pl 8 e2 = true) (q1 : d = d2 → e = e2 → Q (.bl true) H) (q2 : ¬ (d = d2 ∧ e = e2) → Q (.bl false) H) :
    rOEq K (gA K "Endless") (sp_Endless__eq__ K) (.ref p) (.ref p2) H Q := by
  obtain ⟨dx, fs, v, u, h1, _⟩ := x.at_
  obtain ⟨dx2, fs2, v2, u2, h2, _⟩ := y.at_
  exact ⟨p, dx, fs, rfl, h1, .inl ⟨p2, _, dx2, fs2, rfl, h2, nf_same⟩, p, .ref p2, d, e, rfl, x, a1, a2, .inl ⟨p2, d2, e2, rfl, y, a3, a4, q1, q2⟩⟩
theorem s_neLL (x : EndlO K H p d e) (y : EndlO K H p2 d2 e2) (a1 : pl 8 d = true) (a2 : pl 8 e = true) (a3 : pl 8 d2 = true) (a4 : pl 8 e2 = true) (q1 : d = d2 → e = e2 → Q (.bl false) H) (q2 : ¬ (d = d2 ∧ e = e2) → Q (.bl true) H) :
    rONe K (gA K "Endless") (sp_Endless__eq__ K) (.ref p) (.ref p2) H Q := by
  obtain ⟨dx, fs, v, u, h1, _⟩ := x.at_
  obtain ⟨dx2, fs2, v2, u2, h2, _⟩ := y.at_
  exact ⟨p, dx, fs, rfl, h1, .inl ⟨p2, _, dx2, fs2, rfl, h2, nf_same⟩, p, .ref p2, d, e, rfl, x, a1, a2, .inl ⟨p2, d2, e2, rfl, y, a3, a4, fun z z2 => ⟨true, rfl, q1 z z2⟩, fun z => ⟨false, rfl, q2 z⟩⟩⟩
theorem s_eqLE (T : TX K mg) (x : EndlO K H p d e) (y : EndsO K H p2 d2) (a1 : pl 8 d = true) (a2 : pl 8 e = true) (q : Q (.bl false) H) : rOEq K (gA K "Endless") (sp_Endless__eq__ K) (.ref p) (.ref p2) H Q := by
  obtain ⟨dx, fs, v, u, h1, _⟩ := x.at_
  obtain ⟨dx2, fs2, v2, h2, _⟩ := y.at_
  exact ⟨p, dx, fs, rfl, h1, .inl ⟨p2, _, dx2, fs2, rfl, h2, nf_of T (by decide) (by decide) (by decide)⟩, p, .ref p2, d, e, rfl, x, a1, a2, .inr ⟨.inl ⟨p2, dx2, fs2, rfl, h2⟩, q⟩⟩
theorem s_eqLi (T : TX K mg) (x : EndlO K H p d e) (a1 : pl 8 d = true) (a2 : pl 8 e = true) (q : Q (.bl false) H) : rOEq K (gA K "Endless") (sp_Endless__eq__ K) (.ref p) (.int i) H Q := by
  obtain ⟨dx, fs, v, u, h1, _⟩ := x.at_
  exact ⟨p, dx, fs, rfl, h1, .inr ⟨i, rfl, nf_int T (by decide)⟩, p, .int i, d, e, rfl, x, a1, a2, .inr ⟨.inr ⟨i, rfl⟩, q⟩⟩
theorem s_eqEE (x : EndsO K H p (.int i)) (y : EndsO K H p2 (.int j)) (q : Q (.bl (decide (i = j))) H) : rOEq K (gA K "Ends") (sp_Ends__eq__ K) (.ref p) (.ref p2) H Q := by
  obtain ⟨dx, fs, v, h1, _⟩ := x.at_
  obtain ⟨dx2, fs2, v2, h2, _⟩ := y.at_
  exact ⟨p, dx, fs, rfl, h1, .inl ⟨p2, _, dx2, fs2, rfl, h2, nf_same⟩, p, .ref p2, i, rfl, x, .inl ⟨p2, j, rfl, y, q⟩⟩
theorem s_neEE (x : EndsO K H p (.int i)) (y : EndsO K H p2 (.int j)) (q : Q (.bl (!decide (i = j))) H) : rONe K (gA K "Ends") (sp_Ends__eq__ K) (.ref p) (.ref p2) H Q := by
  obtain ⟨dx, fs, v, h1, _⟩ := x.at_
  obtain ⟨dx2, fs2, v2, h2, _⟩ := y.at_
  exact ⟨p, dx, fs, rfl, h1, .inl ⟨p2, _, dx2, fs2, rfl, h2, nf_same⟩, p, .ref p2, i, rfl, x, .inl ⟨p2, j, rfl, y, _, rfl, q⟩⟩
theorem s_eqEL (T : TX K mg) (x : EndsO K H p (.int i)) (y : EndlO K H p2 d e) (q : Q (.bl false) H) : rOEq K (gA K "Ends") (sp_Ends__eq__ K) (.ref p) (.ref p2) H Q := by
  obtain ⟨dx, fs, v, h1, _⟩ := x.at_
  obtain ⟨dx2, fs2, v2, u2, h2, _⟩ := y.at_
  exact ⟨p, dx, fs, rfl, h1, .inl ⟨p2, _, dx2, fs2, rfl, h2, nf_of T (by decide) (by decide) (by decide)⟩, p, .ref p2, i, rfl, x, .inr ⟨.inl ⟨p2, dx2, fs2, rfl, h2⟩, q⟩⟩
theorem s_eqEi (T : TX K mg) (x : EndsO K H p (.int i)) (q : Q (.bl false) H) : rOEq K (gA K "Ends") (sp_Ends__eq__ K) (.ref p) (.int j) H Q := by
  obtain ⟨dx, fs, v, h1, _⟩ := x.at_
  exact ⟨p, dx, fs, rfl, h1, .inr ⟨j, rfl, nf_int T (by decide)⟩, p, .int j, i, rfl, x, .inr ⟨.inr ⟨j, rfl⟩, q⟩⟩
end
theorem isW_int {i lo hi : Int} (h1 : lo ≤ i) (h2 : i ≤ hi) : isW (.int i) (some lo) (some hi) = true := by
  unfold isW
  simp [h1, h2]
theorem isW_h {h n : Nat} (hl : h < n) : isW (.int (h : Int)) (some 0) (some ((n : Int) - 1)) = true := isW_int (by omega) (by omega)
theorem RndO.toS {K : PySem.W.Frag} {H H' : Hp} {p : Addr} {f : Nat → Bool} (x : RndO K H p f) (s : SameS H H') : RndO K H' p f := by
  obtain ⟨h, t, a, b, c, ro⟩ := x
  exact ⟨h, t, a, b, c, ro.toS s⟩
theorem RndO.to {K : PySem.W.Frag} {H H' : Hp} {p : Addr} {f : Nat → Bool} (x : RndO K H p f) (s : Same H H') : RndO K H' p f := RndO.toS x s.toS

end K53
namespace K53
open PySem PySem.Spec PyProof.Rows L2
/-! ### try with several clauses «except X as name», one name (slot i) for all of them -/
abbrev SuT := Addr → Value → Option Addr → TS
abbrev asEnds (i : Nat) (D : L2.Ends) : L2.Ends := { nx := fun σ1 H1 => D.nx (σ1.set i none) H1, rt := D.rt, bk := fun σ1 H1 => D.bk (σ1.set i none) H1, ct := fun σ1 H1 => D.ct (σ1.set i none) H1 }
def wAsM (K : PySem.W.Frag) (Wo : WX) (D : L2.Ends) (i : Nat) : List (Value × SuT) → WX
  | [] => Wo
  | p :: r => fun cls d σ H => ∃ b, PySem.W.exmOne K cls p.1 = some b ∧ (b = true → ∀ a, H a = none → p.2 a cls d (asEnds i D) (σ.set i (some (.ref a))) H) ∧ (b = false → wAsM K Wo D i r cls d σ H)
inductive AsOk (X : Cx) (n : Str) : List ExceptHandler → List (Value × SuT) → Prop
  | nil : AsOk X n [] []
  | cons {x : Str} {c : Value} {ts : SuT} {b0 : Stmt} {su : List Stmt} {p1 p2 : Pos} {hd : List ExceptHandler} {l : List (Value × SuT)} (hc : Names X x c)
      (hsu : ∀ (a : Addr) (oe : Obj) (cls : Value) (d : Option Addr) (pn : List (Addr × Obj)), Zc cls d oe → (∃ vs, oe.data = .fields vs) → PSs (X.suite a ((a, oe) :: pn)) (b0 :: su) (ts a cls d)) (r : AsOk X n hd l) :
      AsOk X n (.ExceptHandler (some (.Name x p1)) (some n) (b0 :: su) p2 :: hd) ((c, ts) :: l)
section
variable {X : Cx} {n : Str} {i : Nat} {body : List Stmt} {h0 : ExceptHandler} {hd : List ExceptHandler} {l : List (Value × SuT)} {pos : Pos} {tb : WX → TS} {Wo : WX}
theorem ps_try_asM (hs : X.stack = X.env :: X.outer) (hf : X.env.frame = some X.env.locals) (hN : X.N.Nodup) (hi : X.N[i]? = some n) (hln : X.env.kindOf n = some .local) (tk : Takes X Wo)
    (hb : ∀ (W : WX) (pn : List (Addr × Obj)) (xe : Value → Shared → Prop), Takes (X.tr pn xe) W → PassesOwn (model X.prog X.w) X.A X.env xe → PSs (X.tr pn xe) body (tb W))
    (hh : AsOk X n (h0 :: hd) l) : PS X (.Try body (h0 :: hd) [] [] pos) (fun D σ H => tb (wAsM X.K Wo D i l) D σ H) := by
  refine ⟨fun pins s σ H D I h => ?_⟩
  have ok := I.ok
  have frm : X.A.frames = some (X.env :: X.outer) := by rw [ok.frames, hs]
  refine wpAny_Try_except ?_

  refine wpAny_mono ((hb (wAsM X.K Wo D i l) (X.pn ++ pins) (fun e s1 => wpAny (model X.prog X.w) X.A (noteFrame e X.env) (fun _ s2 => wpAny (model X.prog X.w) X.A (setFlight e none) (fun _ s3 => wpAny (model X.prog X.w) X.A (handleBy e X.env (h0 :: hd)) (SP X pins D) X.xe s3) X.xe s2) X.xe s1) (fun u s1 got => ?_) PassesOwn.looking).run [] s σ H D (I.toTry _) h) (fun f s1 q => ?_) (fun e s1 he => he)
  · obtain ⟨a, B, sI, pins', σ1, H1, cls, d, rfl, JT, nb, up, sky, na, os, ag, w⟩ := got
    have J : Inv X pins σ1 H1 sI := JT.ofTry ok
    have sky1 : Sky B (X.env :: X.outer) a (Zc cls d) X.env.locals s1.heap := by rw [← hs]; exact sky
    show wpAny (model X.prog X.w) X.A (noteFrame (.ref a) X.env) _ _ _
    refine Sky.land Zc.steady frm hf sky1 fun h3 fl up3 => ?_
    have Jh : Inv X pins σ1 H1 { s1 with heap := h3 } := J.landed nb fl.1 (up.trans up3) os ag
    obtain ⟨oe, vs, geA, zA, dA⟩ := fl.there
    have out : a ∉ frs (X.env :: X.outer) := fun hm => by
      obtain ⟨_, o2, g2, nofr⟩ := fl.2.2.1.mem hm
      rw [geA] at g2
      cases g2
      exact nofr _ dA
    have nL : a ≠ X.env.locals := fun z => out (List.mem_filterMap.mpr ⟨X.env, List.mem_cons_self, by rw [hf, z]⟩)
    have nF : a ∉ X.fs := fun hm => by
      obtain ⟨e, he, q⟩ := List.mem_filterMap.mp hm
      exact out (List.mem_filterMap.mpr ⟨e, List.mem_cons_of_mem _ he, q⟩)
    have Sh := Jh.suite geA dA na nL nF
    have go : ∀ {hd2 : List ExceptHandler} {l2 : List (Value × SuT)}, AsOk X n hd2 l2 → wAsM X.K Wo D i l2 cls d σ1 H1 → wpAny (model X.prog X.w) X.A (handleBy (.ref a) X.env hd2) (SP X pins D) X.xe { s1 with heap := h3 } := by
      intro hd2 l2 hk
      induction hk with
      | nil =>
        intro w
        refine wpAny_handleBy_nil ?_
        obtain ⟨_, _, _, oe1, vs1, T1, oT1, ts1, g1, z1, d1, t1, _⟩ := id fl
        unfold PySem.passOn
        refine wpAny_bind (wpAny_field g1 d1 t1 ?_)
        rw [if_neg (show ¬ ((Value.ref T1 == Value.none) = true) from by simp)]
        have thrown : wpAny (model X.prog X.w) X.A (setFlight (.ref a) X.env.frame) (fun _ s4 => wpAny (model X.prog X.w) X.A (throw (.ref a) : Sem Flow) (SP X pins D) X.xe s4) X.xe { s1 with heap := h3 } := by
          rw [hf]
          refine HandSPX.setFlight_upZ fl fun h4 hh4 up4 => wpAny_throw (tk _ _ ?_)
          exact ⟨a, B, sI, pins, σ1, H1, cls, d, rfl, J, nb, (up.trans up3).trans up4, .inr (.inr (by rw [hs]; exact hh4)), na, os, ag, w⟩
        first
          | exact wpAny_bind (wpAny_pure (wpAny_bind thrown))
          | exact wpAny_bind thrown
      | @cons x c ts b0 su p1 p2 hd3 l3 hc hsu r ih =>
        intro w
        obtain ⟨b, m, yes, no⟩ := w
        refine wpAny_handleBy_cons (codeAny_handlers_test ?_) (by intro q; cases q)
        have LT : PySem.W.Looks (model X.prog X.w) h3 (typeOf (.ref a)) cls := fun A Q E s k q => wpAny_typeOf_ref (k _ _ geA) (by rw [zA.1]; exact q)
        have LM := PySem.W.exm_one (M := model X.prog X.w) Jh.kIn LT m
        have named : ∀ {Q : Value → Shared → Prop} {E : Value → Shared → Prop}, Q c { s1 with heap := h3 } → wpAny (model X.prog X.w) (X.A.mark (some (.ref a))) (eval (.Name x p1) X.env) Q E { s1 with heap := h3 } := fun {Q E} q => by
          obtain ⟨hg, hdb, hm | ⟨hm, hv, hnn⟩⟩ := hc
          · exact ld_glob (X := X.suite a ((a, oe) :: (X.pn ++ pins))) Sh hg hm q hdb
          · exact ld_blt (X := X.suite a ((a, oe) :: (X.pn ++ pins))) Sh hg hm hv q hnn hdb
        refine named (LM.here ?_)
        cases b with
        | true =>
          refine codeAny_handlers_suite_as ?_
          refine HandSPX.lands_againZ fl fun h4 fl4 up4 => ?_
          have J4 : Inv X pins σ1 H1 { s1 with heap := h4 } := J.landed nb fl4.1 ((up.trans up3).trans up4) os ag
          obtain ⟨oe4, vs4, g4, z4, d4⟩ := fl4.there
          refine store_ok (X := X.suite a ((a, oe4) :: (X.pn ++ pins))) (v := .ref a) (J4.suite g4 d4 na nL nF) hN hi (.inl hln) rfl (fun s5 S5 => ?_) (.inr hln)
          refine wpAny_mono ((hsu a oe4 cls d (X.pn ++ pins) z4 ⟨_, d4⟩).run [] s5 _ H1 _ S5 (yes rfl a na)) (fun f s6 q => ?_) (fun _ _ z => False.elim z)
          have ends : ∀ {σ6 : L2.St} {H6 : Hp} {Q : Shared → Prop}, Inv (X.suite a ((a, oe4) :: (X.pn ++ pins))) [] σ6 H6 s6 → (∀ s7, Inv X pins (σ6.set i none) H6 s7 → Q s7) →
              wpAny (model X.prog X.w) X.A (do bindName X.env n .none; unbindBehindTheSuite X.env n p2) (fun _ s7 => Q s7) X.xe s6 := fun {σ6 H6 Q} S6 hq => gone_ok (S6.unsuite ok) hN hi hln hq
          cases f with
          | next => obtain ⟨σ6, H6, S6, q6⟩ := q; exact ends S6 fun s7 J7 => ⟨_, _, J7, q6⟩
          | brk => obtain ⟨σ6, H6, S6, q6⟩ := q; exact ends S6 fun s7 J7 => ⟨_, _, J7, q6⟩
          | cont => obtain ⟨σ6, H6, S6, q6⟩ := q; exact ends S6 fun s7 J7 => ⟨_, _, J7, q6⟩
          | ret u => obtain ⟨v6, σ6, H6, S6, r6, q6⟩ := q; exact ends S6 fun s7 J7 => ⟨_, _, _, J7, r6, q6⟩
        | false =>
          show wpAny _ X.A (handleBy (.ref a) X.env hd3) _ _ _
          exact ih (no rfl)
    exact go hh w
  · cases f with
    | next => obtain ⟨σ1, H1, J1, q1⟩ := q; exact wpAny_execs_nil ⟨σ1, H1, J1.ofTry ok, q1⟩
    | brk => obtain ⟨σ1, H1, J1, q1⟩ := q; exact ⟨σ1, H1, J1.ofTry ok, q1⟩
    | cont => obtain ⟨σ1, H1, J1, q1⟩ := q; exact ⟨σ1, H1, J1.ofTry ok, q1⟩
    | ret u => obtain ⟨v, σ1, H1, J1, r1, q1⟩ := q; exact ⟨v, σ1, H1, J1.ofTry ok, r1, q1⟩
end
section
variable {X : Cx} {k j : Nat} {x : Str} {sp : Sp} {p pos : Pos} {e : Expr} {es : List Expr} {t : TA} {CX : CXT} {E : L2.St → XK}
theorem pe_clS (c : Cal CX X.prog X.w X.K X.mg X.base k x sp []) (hr : Room j X.A) (hk : k ≤ j) (ha : PA X (e :: es) t) (hx : ∀ σ, PassesAt CX X σ (E σ)) (hg : Gl X x := by rfl)
    (hdb : (x == ("__debug__" : Str)) = false := by decide) (he : starEach (e :: es) X.env = (false, eval e X.env) :: starEach es X.env := by rfl) (hpl : (backTo pos (starEach es X.env)).any (·.1) = false := by rfl) :
    PE X (.Call (.Name x p) (e :: es) [] pos) (tCallS sp E t) := by
  obtain ⟨f, fd, ps, ds, F, hm, kp, b, d⟩ := c.ex
  cases d
  exact pe_callS F (hr.mono hk) hg hm kp b hx ha hdb he hpl
end
theorem s_callS {sp : Sp} {E : L2.St → XK} {tA : TA} {σ : L2.St} {H : Hp} {Q : VK} (h : tA σ H fun vs H1 => sp vs H1 Q (E σ)) : tCallS sp E tA σ H Q := h
section
variable {K : PySem.W.Frag} {Wo : WX} {D : L2.Ends} {i : Nat} {c cls : Value} {ts : SuT} {r : List (Value × SuT)} {d : Option Addr} {σ : L2.St} {H : Hp}
theorem wAsM_hit (m : PySem.W.exmOne K cls c = some true) (h : ∀ a, H a = none → ts a cls d (asEnds i D) (σ.set i (some (.ref a))) H) : wAsM K Wo D i ((c, ts) :: r) cls d σ H := ⟨true, m, fun _ => h, nofun⟩
theorem wAsM_pass (m : PySem.W.exmOne K cls c = some false) (h : wAsM K Wo D i r cls d σ H) : wAsM K Wo D i ((c, ts) :: r) cls d σ H := ⟨false, m, nofun, fun _ => h⟩
theorem s_xf {a C : Addr} {f : Str} {te : TE} {Q : VK} (h : te σ H fun x H1 => x = .ref a ∧ cls = .ref C ∧ ∃ (dd : Addr) (fs : List (Str × V)) (v : V), d = some dd ∧ H1 dd = some (.xd fs) ∧ fs.lookup f = some v ∧ Q v H1) : tXf a cls d C f te σ H Q := h
end

end K53
namespace K53
open PySem PySem.Spec PyProof.Rows L2
/-! ### couples spoilt -/
def tTruK (K : PySem.W.Frag) (ta : TE) : TT := fun σ H Q => ta σ H fun x H' => ∃ k, TruV K x H' k ∧ Q k H'
theorem pt_truthK {X : Cx} {K : PySem.W.Frag} {a : Expr} {ta : TE} (hK : X.K = K) (ha : PE X a ta) (he : ∀ whole, isTrue a X.env whole = (do let v ← whole; standAt a.pos; holding [v] (truthy v))) : PT X a (tTruK K ta) := by subst hK; exact pt_truth ha he
theorem s_truK {K : PySem.W.Frag} {ta : TE} {σ : L2.St} {H : Hp} {QT : Bool → Hp → Prop} (h : ta σ H fun x H' => ∃ k, TruV K x H' k ∧ QT k H') : tTruK K ta σ H QT := h
def noI (vs : List V) : Prop := ∀ v ∈ vs, ∀ i, v ≠ V.int i
theorem noI.nh {vs : List V} (h : noI vs) : K53.nh vs = true := by
  unfold K53.nh
  split
  · rename_i a b c d
    exact absurd rfl (h (.int b) (by simp) b)
  · rfl
theorem noI.app {vs ws : List V} (h : noI vs) (k : noI ws) : noI (vs ++ ws) := fun v hv => by
  rcases List.mem_append.mp hv with hv | hv
  · exact h v hv
  · exact k v hv
theorem noI.sub {vs ws : List V} (h : noI ws) (k : ∀ v ∈ vs, v ∈ ws) : noI vs := fun v hv => h v (k v hv)
theorem noI_refs (ts : List Addr) : noI (ts.map V.ref) := fun v hv i e => by
  obtain ⟨t, _, rfl⟩ := List.mem_map.mp hv
  cases e
structure SpP (H : Hp) (D : Addr) (i : Nat) : Prop where
  at_ : ∃ ts : List Addr, H D = some (.lst (ts.map V.ref)) ∧ ts.length = i ∧ ∀ t ∈ ts, t ≠ D ∧ ∃ a b : Nat, H t = some (.tup [.int (a : Int), .int (b : Int)]) ∨ H t = some (.lst [.int (a : Int), .int (b : Int)])
theorem SpP.toS {H H' : Hp} {D : Addr} {i : Nat} (h : SpP H D i) (s : SameS H H') : SpP H' D i := by
  obtain ⟨ts, a, b, c⟩ := h.at_
  refine ⟨ts, s _ (.lst (ts.map V.ref)) (nh_refs ts) a, b, fun t ht => ?_⟩
  obtain ⟨e1, x, y, e2⟩ := c t ht
  exact ⟨e1, x, y, e2.imp (fun e => s _ _ rfl e) (fun e => s _ (.lst [.int (x : Int), .int (y : Int)]) rfl e)⟩
theorem SpP.put {H : Hp} {D t : Addr} {i a b : Nat} (h : SpP H D i) (hi : i < 10000) (ht : H t = some (.tup [.int (a : Int), .int (b : Int)]) ∨ H t = some (.lst [.int (a : Int), .int (b : Int)])) (htD : t ≠ D) : ∃ acc, H D = some (.lst acc) ∧ acc.length = i ∧ SpP (upd H D (.lst (acc ++ [.ref t]))) D (i + 1) := by
  obtain ⟨ts, h1, h2, h3⟩ := h.at_
  refine ⟨_, h1, by rw [List.length_map, h2], ⟨ts ++ [t], by rw [upd_same, List.map_append]; rfl, by rw [List.length_append, h2]; rfl, fun u hu => ?_⟩⟩
  rcases List.mem_append.mp hu with hu | hu
  · obtain ⟨e1, x, y, e2⟩ := h3 u hu
    exact ⟨e1, x, y, by rw [upd_ne e1]; exact e2⟩
  · rw [List.mem_singleton.mp hu]
    exact ⟨htD, a, b, by rw [upd_ne htD]; exact ht⟩
theorem hdL_ex {H : Hp} : ∀ {ts : List Addr}, (∀ t ∈ ts, ∃ d, Hd H (.ref t) d) → ∃ ds, HdL H (ts.map V.ref) ds
  | [], _ => ⟨[], .nil⟩
  | t :: ts, h => by
    obtain ⟨d, hd⟩ := h t (List.mem_cons_self ..)
    obtain ⟨ds, hds⟩ := hdL_ex (ts := ts) fun u hu => h u (List.mem_cons_of_mem _ hu)
    exact ⟨d :: ds, .cons hd hds⟩
theorem SpP.hdl {H : Hp} {D : Addr} {i : Nat} (h : SpP H D i) : ∃ xs ds, H D = some (.lst xs) ∧ xs.length = i ∧ HdL H xs ds ∧ noI xs := by
  obtain ⟨ts, h1, h2, h3⟩ := h.at_
  obtain ⟨ds, hds⟩ := hdL_ex (H := H) (ts := ts) fun t ht => by
    obtain ⟨_, a, b, e | e⟩ := h3 t ht
    · exact ⟨_, .tup e (.cons (.int _) (.cons (.int _) .nil))⟩
    · exact ⟨_, .lst e rfl (.cons (.int _) (.cons (.int _) .nil))⟩
  exact ⟨_, ds, h1, by rw [List.length_map, h2], hds, noI_refs ts⟩
theorem s_slF {K : PySem.W.Frag} {H : Hp} {Q : VK} {a : Addr} {xs : List V} {lo : Nat} (h : H a = some (.lst xs)) (q : ∀ p, H p = none → Q (.ref p) (upd H p (.lst (xs.drop lo)))) : rSlL K (.ref a) (some (lo : Int)) none H Q :=
  ⟨a, xs, rfl, SqL.of h, fun p hp => by
    have e : cutV xs (some (lo : Int)) none = xs.drop lo := by
      unfold cutV
      rw [HT.sIx_nat, HT.sIx_none]
      rcases Nat.le_total lo xs.length with z | z
      · rw [Nat.min_eq_left z]
        exact List.take_of_length_le (by rw [List.length_drop]; omega)
      · rw [Nat.min_eq_right z, List.drop_length, List.take_nil, List.drop_eq_nil_of_le z]
    rw [e]
    exact q p hp⟩
theorem s_slT {K : PySem.W.Frag} {H : Hp} {Q : VK} {a : Addr} {xs : List V} {n : Nat} (h : H a = some (.lst xs)) (q : ∀ p, H p = none → Q (.ref p) (upd H p (.lst (xs.take n)))) : rSlL K (.ref a) none (some (n : Int)) H Q :=
  ⟨a, xs, rfl, SqL.of h, fun p hp => by
    have e : cutV xs none (some (n : Int)) = xs.take n := by
      unfold cutV
      rw [HT.sIx_nat, HT.sIx_none, List.drop_zero, Nat.sub_zero]
      rcases Nat.le_total n xs.length with z | z
      · rw [Nat.min_eq_left z]
      · rw [Nat.min_eq_right z, List.take_length, List.take_of_length_le z]
    rw [e]
    exact q p hp⟩
abbrev N__law_spoilt : List Str := ["_law_hand_here", "_law_house_here", "_law_couples", "_law_out", "_law_couple", "_law_kind", "_law_at", "_law_odd_here"]
theorem sc__law_spoilt : FnScope N__law_spoilt ["_law_hand_here", "_law_house_here", "_law_couples"] (defScope s__law_spoilt) := C8.fnScope_by (by decide +kernel)
def sp_spoilt : Sp := fun vs H Q _ => ∃ x c y g a ts cs, vs = [.ref x, .ref y, .ref a] ∧ HandO H x c ∧ LHo H y g ∧ H a = some (.tup ts) ∧ TupsAt H ts cs ∧ cs.length ≤ 900 ∧
  ∀ v d H', Hd H' v d → (seqD d).length ≤ 1000 → SameS H H' → HandO H' x c → Q v H'
section
variable {P : Program} {w : World} {K : PySem.W.Frag} {mg : Str → Option Value} {base : Heap}
theorem k__law_spoilt (T : TX K mg) : Keeps (L2.CX P w) P w K mg base d__law_spoilt N__law_spoilt 3 sp_spoilt := by
  intro cdv A outer s H vs Q E hr hsp
  obtain ⟨x, c, y, g, a, ts, cs, rfl, hh, hg, ha, hT, hz, q⟩ := hsp
  have nd := sc__law_spoilt.nd
  have hu := hu_of hr
  have hu64 := hr.units
  refine ⟨_, (pss_cons (ps_setLc (i := 3) (own := [("_law_couple", 4)]) (tt := tYes) rfl nd rfl rfl (sw_true rfl rfl rfl (by decide +kernel)) (pi_tupK (K := K) rfl (pv 2)) (blkOk_by (N := N__law_spoilt) (sc := (defScope s__law_spoilt)) (by decide +kernel)) (fun _ _ _ _ _ => (pg_name (i := 4) nd rfl (Or.inl rfl))) (fun _ _ _ _ _ => pts_nil) (fun _ _ _ _ _ => (pe_ifExp (pt_cmpR op_eq (pe_cl (c__law_take T) hr (by decide) (pa_cons (pv 0) (pa_cons pe_int pa_nil)) passL) pe_int (nomark _)) (pe_callTy (call_list_ofK (K := K) rfl) (by rfl) T.b_list (by decide +kernel) (pa_cons (pv 4) pa_nil)) (pv 4))))
  (pss_cons (ps_set (i := 5) nd rfl (Or.inl rfl) (pe_cl (c__law_take T) hr (by decide) (pa_cons (pv 0) (pa_cons pe_int pa_nil)) passL))
  (C8.pss_cut (ps_set (i := 6) nd rfl (Or.inl rfl) (pe_ifExp (pt_truthK (K := K) rfl (pv 3) (fun _ => rfl)) (pe_cl (c__law_take T) hr (by decide) (pa_cons (pv 0) (pa_cons (pe_callB (call_lenK (K := K) rfl) (by rfl) T.b_len PySem.boot_len (pa_cons (pv 3) pa_nil)) pa_nil)) passL) pe_int))
  (pss_cons (ps_if (pt_cmpR op_eq (pv 5) pe_int (nomark _)) (pss_one (ps_ret (pe_op op_cat (pv 3) (pe_lst (pa_cons (pe_tup (pa_cons (pe_cl (c__law_take T) hr (by decide) (pa_cons (pv 0) (pa_cons (pe_ix (ix_listK (K := K) rfl) (pv 1) pe_int (fun _ _ => rfl)) pa_nil)) passL) (pa_cons (pe_cl (c__law_take T) hr (by decide) (pa_cons (pv 0) (pa_cons (pe_ix (ix_listK (K := K) rfl) (pv 1) pe_int (fun _ _ => rfl)) pa_nil)) passL) pa_nil))) pa_nil))))) pss_nil)
  (pss_cons (ps_if (pt_cmpR op_eq (pv 5) pe_int (nomark _)) (pss_one (ps_ret (pe_op op_cat (pe_slice (sl_listK (K := K) rfl) (pv 3) po_none (po_some (pv 6))) (pe_slice (sl_listK (K := K) rfl) (pv 3) (po_some (pe_op op_add (pv 6) pe_int)) po_none)))) pss_nil)
  (pss_cons (ps_if (pt_cmpR op_eq (pv 5) pe_int (nomark _)) (pss_one (ps_ret (pe_cl (c__law_rid T) hr (by decide) (pa_cons (pv 0) pa_nil) passL))) pss_nil)
  (C8.pss_cut (ps_set (i := 7) nd rfl (Or.inl rfl) (pe_ix (ix_tupK (K := K) rfl) (pe_tup (pa_cons pe_non (pa_cons (pe_tup (pa_cons pe_int pa_nil)) (pa_cons (pe_tup (pa_cons pe_int (pa_cons pe_int (pa_cons pe_int pa_nil)))) (pa_cons (pe_tup (pa_cons (pe_ix (ix_listK (K := K) rfl) (pv 1) pe_int (fun _ _ => rfl)) (pa_cons pe_int pa_nil))) (pa_cons (pe_tup (pa_cons pe_int (pa_cons (pe_ix (ix_listK (K := K) rfl) (pv 1) pe_int (fun _ _ => rfl)) pa_nil))) (pa_cons (pe_tup (pa_cons pe_bl (pa_cons pe_int pa_nil))) (pa_cons (pe_tup (pa_cons pe_int (pa_cons (pe_un un_neg pe_int) pa_nil))) (pa_cons pe_str pa_nil))))))))) (pe_cl (c__law_take T) hr (by decide) (pa_cons (pv 0) (pa_cons pe_int pa_nil)) passL) (fun _ _ => rfl)))
  (pss_cons (ps_if (pt_cmpR op_eq (pv 5) pe_int (nomark _)) (pss_one (ps_ret (pe_op op_cat (pe_op op_cat (pe_slice (sl_listK (K := K) rfl) (pv 3) po_none (po_some (pv 6))) (pe_lst (pa_cons (pv 7) pa_nil))) (pe_slice (sl_listK (K := K) rfl) (pv 3) (po_some (pe_op op_add (pv 6) pe_int)) po_none)))) pss_nil)
  (pss_cons (ps_if (pt_cmpR op_eq (pv 5) pe_int (nomark _)) (pss_one (ps_ret (pe_tupleOfK (K := K) rfl (by rfl) T.b_tuple (pv 3)))) pss_nil)
  (pss_one (ps_ret (pe_op op_cat (pe_op op_cat (pe_slice (sl_listK (K := K) rfl) (pv 3) po_none (po_some (pv 6))) (pe_lst (pa_cons (pe_tup (pa_cons (pe_cl (c__law_take T) hr (by decide) (pa_cons (pv 0) (pa_cons (pe_ix (ix_listK (K := K) rfl) (pv 1) pe_int (fun _ _ => rfl)) pa_nil)) passL) (pa_cons (pe_cl (c__law_take T) hr (by decide) (pa_cons (pv 0) (pa_cons (pe_ix (ix_listK (K := K) rfl) (pv 1) pe_int (fun _ _ => rfl)) pa_nil)) passL) pa_nil))) pa_nil))) (pe_slice (sl_listK (K := K) rfl) (pv 3) (po_some (pe_op op_add (pv 6) pe_int)) po_none))))))))))))), ?_⟩
  refine st_eq (σ := [some (.ref x), some (.ref y), some (.ref a), none, none, none, none, none]) rfl ?_
  have hlen := hT.1
  walk_at "s"
  refine s_iTc (SqT.of ha) ?_
  refine lc_g walk_tup (fun D i acc H1 => SameS H H1 ∧ HandO H1 x c ∧ SpP H1 D i ∧ H D = none) (fun D hD => ⟨(L2.Same.up hD).toS, hh.upN hD, ⟨[], upd_same, rfl, fun _ h => by cases h⟩, hD⟩) (fun D i acc H1 h => SqT.of (h.1 _ _ rfl ha)) (fun D i v acc H1 H2 hD hi e hl hA hy => ?_) (fun D acc H1 hD e hl hA => ?_)
  · obtain ⟨sS, hh1, hSp, hDn⟩ := hA
    obtain ⟨rfl, hx⟩ := hy
    have hi2 : i < cs.length := by omega
    obtain ⟨tc, f1, f2⟩ := hT.2 i cs[i] (List.getElem?_eq_getElem hi2)
    rw [f1] at hx
    have hx := Option.some.inj hx
    subst hx
    walk_at "s"
    refine ⟨rfl, ?_⟩
    walk_at "s"
    refine ⟨x, c, 2, rfl, hh1, by decide, by decide, fun r H3 hr3 s3 hh3 => ?_⟩
    have hSp3 := hSp.toS s3
    have sS3 := sS.trans s3
    have f3 := sS3 _ _ rfl f2
    walk_at "s"
    refine s_ite (fun _ => ?_) (fun _ => ?_)
    · walk_at "s"
      refine s_lstOf ⟨_, rfl, .inr (SqT.of f3)⟩ fun l hl => ?_
      have s4 := L2.Same.up (o := HO.lst [.int (cs[i].1 : Int), .int (cs[i].2 : Int)]) hl
      have hlD : l ≠ D := fun e => by
        obtain ⟨ts', h1, _⟩ := hSp3.at_
        rw [← e, hl] at h1
        cases h1
      obtain ⟨acc', k1, k2, k3⟩ := (hSp3.toS s4.toS).put (t := l) (a := cs[i].1) (b := cs[i].2) (by omega) (.inr upd_same) hlD
      refine ⟨acc', k1, sz16l (by omega), acc' ++ [.ref l], upd_same, by rw [List.length_append, k2]; exact Nat.le_refl _, fun p o n h => ?_, (hh3.upN hl).up (hh.ne hDn).1 (hh.ne hDn).2, k3, hDn⟩
      rw [upd_ne (ne_of_none h hDn)]
      exact s4 _ _ (sS3 p o n h)
    · walk_at "s"
      have htD : tc ≠ D := fun e => by rw [e, hDn] at f2; cases f2
      obtain ⟨acc', k1, k2, k3⟩ := hSp3.put (t := tc) (a := cs[i].1) (b := cs[i].2) (by omega) (.inl f3) htD
      refine ⟨acc', k1, sz16l (by omega), acc' ++ [.ref tc], upd_same, by rw [List.length_append, k2]; exact Nat.le_refl _, fun p o n h => ?_, hh3.up (hh.ne hDn).1 (hh.ne hDn).2, k3, hDn⟩
      rw [upd_ne (ne_of_none h hDn)]
      exact sS3 p o n h
  · obtain ⟨sS, hh1, hSp, _⟩ := hA
    obtain ⟨xs, ds, e1, e2, e3, e4⟩ := hSp.hdl
    rw [e] at e1
    cases e1
    have hl9 : acc.length ≤ 900 := by omega
    walk_at "s"
    refine ⟨x, c, 9, rfl, hh1, by decide, by decide, fun k H2 hk s2 hh2 => ?_⟩
    have eD := s2 _ (.lst acc) e4.nh e
    refine s_cut (fun σ H3 => ∃ b : Nat, σ = [some (.ref x), some (.ref y), some (.ref a), some (.ref D), none, some (.int (k : Int)), some (.int (b : Int)), none] ∧ SameS H2 H3 ∧ HandO H3 x c) ?_ (fun σ H3 hM => ?_)
    · walk_at "s"
      refine s_truK ?_
      walk_at "s"
      refine s_tru (.inl ⟨acc, SqL.of eD, rfl⟩) ?_
      refine s_iteN (fun ne => ?_) (fun _ => ?_)
      · walk_at "s"
        refine s_lenL eD ?_
        have hpos : 0 < acc.length := by
          cases acc with
          | nil => cases ne
          | cons _ _ => exact Nat.succ_pos _
        refine ⟨x, c, acc.length, rfl, hh2, hpos, by omega, fun r H3 hr3 s3 hh3 => ?_⟩
        exact ⟨r, rfl, s3, hh3⟩
      · walk_at "s"
        exact ⟨0, rfl, SameS.refl _, hh2⟩
    obtain ⟨b, rfl, s3, hh3⟩ := hM
    have eD3 := s3 _ (.lst acc) e4.nh eD
    have sS3 := (sS.trans s2).trans s3
    have hL3 := (e3.toS s2).toS s3
    have hlen3 := e3.len
    have o := hg.ok
    have o2 := o.h2
    have o4 := o.h4
    have l2 := o.l2
    have l4 := o.l4
    have fin : ∀ (H4 : Hp) (p : Addr) (zs : List V) (es : List PyData), H4 p = none → HdL H4 zs es → noI zs → zs.length ≤ 1000 → SameS H3 H4 → HandO H4 x c → Q (.ref p) (upd H4 p (.lst zs)) := fun H4 p zs es hp hz2 hn hlz s4 hh4 =>
      q _ (.list es) _ (.lst upd_same hn.nh (hz2.to (L2.Same.up hp))) (by show es.length ≤ 1000; rw [← hz2.len]; exact hlz) ((sS3.trans s4).trans (L2.Same.up hp).toS) (hh4.upN hp)
    have nref : ∀ t : Addr, noI [V.ref t] := fun t v hv i e => by
      rw [List.mem_singleton.mp hv] at e
      cases e
    walk_at "s"
    refine s_ite (fun _ => ?_) (fun _ => ?_)
    · walk_at "s"
      refine s_h0 (hg.toS sS3) ?_
      refine ⟨x, c, g.hs, rfl, hh3, by omega, by omega, fun r1 H4 hr4 s4 hh4 => ?_⟩
      walk_at "s"
      refine s_h1 (hg.toS (sS3.trans s4)) ?_
      refine ⟨x, c, g.ls, rfl, hh4, by omega, by omega, fun r2 H5 hr5 s5 hh5 => ?_⟩
      walk_at "s"
      refine s_tl (Nat.le_of_ble_eq_true rfl) fun t ht => ?_
      walk_at "s"
      refine s_tl (Nat.le_of_ble_eq_true rfl) fun l hl' => ?_
      have s6 := L2.Same.up (o := HO.tup [.int (r1 : Int), .int (r2 : Int)]) ht
      have s7 := L2.Same.up (o := HO.lst [.ref t]) hl'
      have s45 := s4.trans s5
      refine ⟨D, l, acc, _, rfl, rfl, s7 _ _ (s6 _ _ (s45 _ (.lst acc) e4.nh eD3)), upd_same, sz16 (by show acc.length + 1 ≤ _; omega), fun p hp => ?_⟩
      refine fin _ p _ _ hp ((((hL3.toS s45).to s6).to s7).app (.cons (.tup (s7 _ _ upd_same) (.cons (.int _) (.cons (.int _) .nil))) .nil)) (e4.app (nref t)) (by rw [List.length_append]; show acc.length + 1 ≤ _; omega) ((s45.trans s6.toS).trans s7.toS) ((hh5.to s6).to s7)
    walk_at "s"
    refine s_ite (fun _ => ?_) (fun _ => ?_)
    · walk_at "s"
      refine s_slT eD3 fun p1 hp1 => ?_
      have s4 := L2.Same.up (o := HO.lst (acc.take b)) hp1
      walk_at "s"
      refine s_slF (s4 _ _ eD3) fun p2 hp2 => ?_
      have s5 := L2.Same.up (o := HO.lst (acc.drop (b + 1))) hp2
      have l1 : (acc.take b).length ≤ 900 := by rw [List.length_take]; omega
      have l2' : (acc.drop (b + 1)).length ≤ 900 := by rw [List.length_drop]; omega
      refine ⟨p1, p2, _, _, rfl, rfl, s5 _ _ upd_same, upd_same, sz16 (by omega), fun p hp => ?_⟩
      refine fin _ p _ _ hp (((((hL3.take b).to s4).to s5)).app (((hL3.drop (b + 1)).to s4).to s5)) ((e4.sub fun v hv => List.mem_of_mem_take hv).app (e4.sub fun v hv => List.mem_of_mem_drop hv)) (by rw [List.length_append, List.length_take, List.length_drop]; omega) (s4.trans s5).toS ((hh3.to s4).to s5)
    walk_at "s"
    refine s_ite (fun _ => ?_) (fun _ => ?_)
    · walk_at "s"
      refine ⟨x, c, rfl, hh3, fun v d H4 hd hv s4 hh4 => ?_⟩
      refine q v d H4 hv ?_ (sS3.trans s4) hh4
      cases d <;> first | exact Nat.zero_le _ | cases hd
    walk_at "s"
    refine s_cut (fun σ H4 => ∃ vo od, σ = [some (.ref x), some (.ref y), some (.ref a), some (.ref D), none, some (.int (k : Int)), some (.int (b : Int)), some vo] ∧ Hd H4 vo od ∧ noI [vo] ∧ SameS H3 H4 ∧ HandO H4 x c) ?_ (fun σ H4 hM => ?_)
    · have hg3 := hg.toS sS3
      walk_at "s"
      refine s_tl (Nat.le_of_ble_eq_true rfl) fun t1 ht1 => ?_
      have s1 := L2.Same.up (o := HO.tup [.int 0]) ht1
      walk_at "s"
      refine s_tl (Nat.le_of_ble_eq_true rfl) fun t2 ht2 => ?_
      have s2 := L2.Same.up (o := HO.tup [.int 0, .int 0, .int 0]) ht2
      walk_at "s"
      refine s_h0 (hg3.to (s1.trans s2)) ?_
      walk_at "s"
      refine s_tl (Nat.le_of_ble_eq_true rfl) fun t3 ht3 => ?_
      have s3 := L2.Same.up (o := HO.tup [.int (g.hs : Int), .int 0]) ht3
      walk_at "s"
      refine s_h1 (hg3.to ((s1.trans s2).trans s3)) ?_
      walk_at "s"
      refine s_tl (Nat.le_of_ble_eq_true rfl) fun t4 ht4 => ?_
      have s4 := L2.Same.up (o := HO.tup [.int 0, .int (g.ls : Int)]) ht4
      walk_at "s"
      refine s_tl (Nat.le_of_ble_eq_true rfl) fun t5 ht5 => ?_
      have s5 := L2.Same.up (o := HO.tup [.bl true, .int 0]) ht5
      walk_at "s"
      refine s_tl (Nat.le_of_ble_eq_true rfl) fun t6 ht6 => ?_
      have s6 := L2.Same.up (o := HO.tup [.int 0, .int (-1)]) ht6
      walk_at "s"
      refine s_tl (Nat.le_of_ble_eq_true rfl) fun t7 ht7 => ?_
      have s7 := L2.Same.up (o := HO.tup [.non, .ref t1, .ref t2, .ref t3, .ref t4, .ref t5, .ref t6, .str "00"]) ht7
      have b6 := s6.trans s7
      have b5 := s5.trans b6
      have b4 := s4.trans b5
      have b3 := s3.trans b4
      have b2 := s2.trans b3
      have sA := s1.trans b2
      walk_at "s"
      refine ⟨x, c, 8, rfl, hh3.to sA, by decide, by decide, fun j H4 hj s8 hh4 => ?_⟩
      have hL := HdL.toS (H := upd (upd (upd (upd (upd (upd (upd H3 t1 (.tup [.int 0])) t2 (.tup [.int 0, .int 0, .int 0])) t3 (.tup [.int (g.hs : Int), .int 0])) t4 (.tup [.int 0, .int (g.ls : Int)])) t5 (.tup [.bl true, .int 0])) t6 (.tup [.int 0, .int (-1)])) t7 (.tup [.non, .ref t1, .ref t2, .ref t3, .ref t4, .ref t5, .ref t6, .str "00"]))
        (.cons .non (.cons (.tup (b2 _ _ upd_same) (.cons (.int 0) .nil)) (.cons (.tup (b3 _ _ upd_same) (.cons (.int 0) (.cons (.int 0) (.cons (.int 0) .nil)))) (.cons (.tup (b4 _ _ upd_same) (.cons (.int (g.hs : Int)) (.cons (.int 0) .nil))) (.cons (.tup (b5 _ _ upd_same) (.cons (.int 0) (.cons (.int (g.ls : Int)) .nil))) (.cons (.tup (b6 _ _ upd_same) (.cons (.bl true) (.cons (.int 0) .nil))) (.cons (.tup (s7 _ _ upd_same) (.cons (.int 0) (.cons (.int (-1)) .nil))) (.cons (.str "00") .nil)))))))) s8
      obtain ⟨v, e1, e2⟩ := hL.get (i := j) (List.getElem?_eq_getElem hj)
      refine s_ixT (SqT.of (s8 _ _ rfl upd_same)) e1 ?_
      walk_at "s"
      refine ⟨v, _, rfl, e2, fun u hu' i ei => ?_, sA.toS.trans s8, hh4⟩
      rw [List.mem_singleton.mp hu'] at ei
      have := List.mem_of_getElem? e1
      rw [ei] at this
      simp at this
    obtain ⟨vo, od, rfl, hvo, nvo, s4, hh4⟩ := hM
    have eD4 := s4 _ (.lst acc) e4.nh eD3
    have hL4 := hL3.toS s4
    have l1 : (acc.take b).length ≤ 900 := by rw [List.length_take]; omega
    have l2' : (acc.drop (b + 1)).length ≤ 900 := by rw [List.length_drop]; omega
    have l12 : (acc.take b).length + (acc.drop (b + 1)).length ≤ 900 := by rw [List.length_take, List.length_drop]; omega
    walk_at "s"
    refine s_ite (fun _ => ?_) (fun _ => ?_)
    · walk_at "s"
      refine s_slT eD4 fun p1 hp1 => ?_
      have s5 := L2.Same.up (o := HO.lst (acc.take b)) hp1
      walk_at "s"
      refine s_tl (Nat.le_of_ble_eq_true rfl) fun p2 hp2 => ?_
      have s6 := L2.Same.up (o := HO.lst [vo]) hp2
      refine ⟨p1, p2, _, _, rfl, rfl, s6 _ _ upd_same, upd_same, sz16 (by show _ + 1 ≤ _; omega), fun p3 hp3 => ?_⟩
      have s7 := L2.Same.up (o := HO.lst (acc.take b ++ [vo])) hp3
      have s57 := (s5.trans s6).trans s7
      walk_at "s"
      refine s_slF (s57 _ _ eD4) fun p4 hp4 => ?_
      have s8 := L2.Same.up (o := HO.lst (acc.drop (b + 1))) hp4
      have s58 := s57.trans s8
      refine ⟨p3, p4, _, _, rfl, rfl, s8 _ _ upd_same, upd_same, sz16 (by rw [List.length_append]; show _ + 1 + _ ≤ _; omega), fun p5 hp5 => ?_⟩
      exact fin _ p5 _ _ hp5 ((((hL4.take b).to s58).app (.cons (hvo.to s58) .nil)).app ((hL4.drop (b + 1)).to s58)) (((e4.sub fun v hv => List.mem_of_mem_take hv).app nvo).app (e4.sub fun v hv => List.mem_of_mem_drop hv))
        (by rw [List.length_append, List.length_append]; show _ + 1 + _ ≤ _; omega) (s4.trans s58.toS) (hh4.to s58)
    walk_at "s"
    refine s_ite (fun _ => ?_) (fun _ => ?_)
    · walk_at "s"
      refine s_kTupL eD4 fun p1 hp1 => ?_
      have s5 := L2.Same.up (o := HO.tup acc) hp1
      exact q _ (.tuple ds) _ (.tup upd_same (hL4.to s5)) (by show ds.length ≤ 1000; omega) ((sS3.trans s4).trans s5.toS) (hh4.to s5)
    walk_at "s"
    refine s_slT eD4 fun p1 hp1 => ?_
    have s5 := L2.Same.up (o := HO.lst (acc.take b)) hp1
    walk_at "s"
    have sS5 := (sS3.trans s4).trans s5.toS
    refine s_h0 (hg.toS sS5) ?_
    refine ⟨x, c, g.hs, rfl, hh4.to s5, by omega, by omega, fun r1 H6 hr6 s6 hh6 => ?_⟩
    walk_at "s"
    refine s_h1 (hg.toS (sS5.trans s6)) ?_
    refine ⟨x, c, g.ls, rfl, hh6, by omega, by omega, fun r2 H7 hr7 s7 hh7 => ?_⟩
    walk_at "s"
    refine s_tl (Nat.le_of_ble_eq_true rfl) fun t ht => ?_
    have s8 := L2.Same.up (o := HO.tup [.int (r1 : Int), .int (r2 : Int)]) ht
    walk_at "s"
    refine s_tl (Nat.le_of_ble_eq_true rfl) fun p2 hp2 => ?_
    have s9 := L2.Same.up (o := HO.lst [.ref t]) hp2
    have nT := e4.sub (vs := acc.take b) fun v hv => List.mem_of_mem_take hv
    have nDr := e4.sub (vs := acc.drop (b + 1)) fun v hv => List.mem_of_mem_drop hv
    have s69 := ((s6.trans s7).trans s8.toS).trans s9.toS
    refine ⟨p1, p2, _, _, rfl, rfl, s69 _ (.lst (acc.take b)) nT.nh upd_same, upd_same, sz16 (by show _ + 1 ≤ _; omega), fun p3 hp3 => ?_⟩
    have sA := L2.Same.up (o := HO.lst (acc.take b ++ [.ref t])) hp3
    walk_at "s"
    have s5A := (s5.toS.trans s69).trans sA.toS
    refine s_slF (s5A _ (.lst acc) e4.nh eD4) fun p4 hp4 => ?_
    have sB := L2.Same.up (o := HO.lst (acc.drop (b + 1))) hp4
    have s5B := s5A.trans sB.toS
    refine ⟨p3, p4, _, _, rfl, rfl, sB _ _ upd_same, upd_same, sz16 (by rw [List.length_append]; show _ + 1 + _ ≤ _; omega), fun p5 hp5 => ?_⟩
    have s9B := (s9.trans sA).trans sB
    exact fin _ p5 _ _ hp5 ((((hL4.take b).toS s5B).app (.cons (.tup (s9B _ _ upd_same) (.cons (.int (r1 : Int)) (.cons (.int (r2 : Int)) .nil))) .nil)).app ((hL4.drop (b + 1)).toS s5B)) ((nT.app (nref t)).app nDr)
      (by rw [List.length_append, List.length_append]; show _ + 1 + _ ≤ _; omega) (s4.trans s5B) ((hh7.to s8).to s9B)
theorem c__law_spoilt (T : TX K mg) : Cal (L2.CX P w) P w K mg base 4 "_law_spoilt" sp_spoilt [] :=
  cal_mk T.f__law_spoilt T.g__law_spoilt ⟨rfl, rfl⟩ (fun _ _ _ _ _ _ us hl => match us, hl with | [_, _, _], _ => rfl) sc__law_spoilt (fun vs H Q E h => by obtain ⟨x, c, y, g, a, ts, cs, rfl, _⟩ := h; rfl) (k__law_spoilt T)
end

end K53
namespace K53
open PySem PySem.Spec PyProof.Rows L2
/-! ### far days by doubling -/
theorem bnd_lt {g : Hou} {k x : Nat} (hx : x < g.n) : ∀ a ∈ g.bnd k x, a < g.n := Hou.lot_lt (fun z hz => by rw [List.mem_singleton.mp hz]; exact hx) k
theorem bnd_len {g : Hou} (o : g.Ok) : ∀ k x, (g.bnd k x).length ≤ 16
  | 0, x => by show [x].length ≤ 16; exact Nat.le_of_ble_eq_true rfl
  | k + 1, x => by
    show ((List.range g.n).filter _).length ≤ 16
    refine Nat.le_trans (List.length_filter_le _ _) ?_
    rw [List.length_range]
    exact o.n16
theorem unF_bnd {g : Hou} {k m x : Nat} (hx : x < g.n) (hm : 1 ≤ m) : unF (g.bnd m) (g.bnd k x) g.n = g.bnd (k + m) x := by
  rw [← Hou.jn_bnd hx hm]
  unfold unF Hou.jn
  refine List.filter_congr fun b _ => ?_
  rw [Bool.eq_iff_iff, List.any_eq_true, List.any_eq_true]
  have e : ∀ a, a < g.n → ((List.range g.n).map (g.bnd m)).getD a [] = g.bnd m a := fun a ha => by
    rw [List.getD_eq_getElem?_getD, List.getElem?_map, List.getElem?_range ha]
    rfl
  constructor
  · rintro ⟨a, ha, hd⟩
    exact ⟨a, ha, by rw [e a (bnd_lt hx a ha)]; exact hd⟩
  · rintro ⟨a, ha, hd⟩
    exact ⟨a, ha, by rw [e a (bnd_lt hx a ha)] at hd; exact hd⟩
theorem lots_mk {α : Type} {as : List α} {ob : α → HO} {acc : List V} {H : Hp} {D : Addr} {f : Nat → List Nat} (e : H D = some (.lst acc)) (hl : acc.length = as.length)
    (hE : ∀ (j : Nat) (a : α), as[j]? = some a → ∃ y, acc[j]? = some y ∧ ElO ob D a y H) (hf : ∀ (j : Nat) (a : α), as[j]? = some a → ob a = .lst (ivs (f j))) : LotsP H D f as.length := by
  obtain ⟨ts, rfl⟩ := refs_of hl hE
  rw [List.length_map] at hl
  refine ⟨ts, e, hl, fun j hj => ?_⟩
  obtain ⟨y, y1, p, y2, y3, y4⟩ := hE j as[j] (List.getElem?_eq_getElem hj)
  have hj2 : j < ts.length := by omega
  rw [List.getElem?_map, List.getElem?_eq_getElem hj2, y2] at y1
  have y1 := Option.some.inj y1
  injection y1 with y1
  rw [hf j as[j] (List.getElem?_eq_getElem hj)] at y4
  exact ⟨p, by rw [List.getElem?_eq_getElem hj2, y1], y3, y4⟩
theorem LotsP.zip {H : Hp} {D : Addr} {f : Nat → List Nat} {i : Nat} (h : LotsP H D f i) : ∃ as : List (Addr × Nat), H D = some (.lst (as.map fun p => V.ref p.1)) ∧ as.length = i ∧ ∀ (j : Nat) (p : Addr × Nat), as[j]? = some p → p.2 = j ∧ j < i ∧ H p.1 = some (.lst (ivs (f j))) := by
  obtain ⟨ts, a, b, c⟩ := h.at_
  refine ⟨ts.zipIdx, ?_, by rw [List.length_zipIdx, b], fun j p hp => ?_⟩
  · rw [a]
    congr 2
    apply List.ext_getElem?
    intro j
    rw [List.getElem?_map, List.getElem?_map, List.getElem?_zipIdx, Option.map_map]
    rfl
  · rw [List.getElem?_zipIdx] at hp
    have hj : j < ts.length := by
      apply Nat.lt_of_not_le
      intro z
      rw [List.getElem?_eq_none z] at hp
      cases hp
    obtain ⟨t, e1, e2, e3⟩ := c j (by omega)
    rw [e1] at hp
    have hp : (t, 0 + j) = p := Option.some.inj hp
    subst hp
    exact ⟨Nat.zero_add j, by omega, e3⟩
theorem LotsP.arg {H : Hp} {D : Addr} {f : Nat → List Nat} {i : Nat} (h : LotsP H D f i) : ∃ xs, H D = some (.lst xs) ∧ ∀ a, a < i → ∃ q, xs[a]? = some (.ref q) ∧ H q = some (.lst (ivs (f a))) := by
  obtain ⟨ts, a, b, c⟩ := h.at_
  refine ⟨_, a, fun k hk => ?_⟩
  obtain ⟨t, e1, _, e3⟩ := c k hk
  exact ⟨t, by rw [List.getElem?_map, e1]; rfl, e3⟩
abbrev N__law_powered : List Str := ["_law_ahead_here", "_law_days", "_law_rows", "_law_at", "_law_base", "_law_row", "_law_rest", "_law_step"]
theorem sc__law_powered : FnScope N__law_powered ["_law_ahead_here", "_law_days"] (defScope s__law_powered) := C8.fnScope_by (by decide +kernel)
def sp_powered : Sp := fun vs H Q _ => ∃ L g, ∃ d : Nat, vs = [.ref L, .int (d : Int)] ∧ Hou.Ok g ∧ AhP H L g g.n ∧ d ≤ 1000000000000000000000000000000 ∧ ∀ R H', Same H H' → LotsP H' R (g.bnd d) g.n → Q (.ref R) H'
section
variable {P : Program} {w : World} {K : PySem.W.Frag} {mg : Str → Option Value} {base : Heap}
theorem k__law_powered (T : TX K mg) : Keeps (L2.CX P w) P w K mg base d__law_powered N__law_powered 1 sp_powered := by
  intro cdv A outer s H vs Q E hr hsp
  obtain ⟨L, g, d, rfl, o, hA, hd, q⟩ := hsp
  have n16 := o.n16
  have PA : LotsP H L g.ahead g.n := ⟨hA.at_⟩
  obtain ⟨asA, eA, lA, fA⟩ := PA.zip
  have nd := sc__law_powered.nd
  have hu := hu_of hr
  have hu64 := hr.units
  refine ⟨_, (pss_cons (ps_setLc (i := 2) (own := [("_law_at", 3)]) (tt := tYes) rfl nd rfl rfl (sw_true rfl rfl rfl (by decide +kernel)) (pi_range1 (by rfl) T.b_range (pa_cons (pe_callB (call_lenK (K := K) rfl) (by rfl) T.b_len PySem.boot_len (pa_cons (pv 0) pa_nil)) pa_nil)) (blkOk_by (N := N__law_powered) (sc := (defScope s__law_powered)) (by decide +kernel)) (fun _ _ _ _ _ => (pg_name (i := 3) nd rfl (Or.inl rfl))) (fun _ _ _ _ _ => pts_nil) (fun _ _ _ _ _ => (pe_lst (pa_cons (pv 3) pa_nil))))
  (pss_cons (ps_set (i := 4) nd rfl (Or.inr rfl) (pe_lc (own := [("_law_row", 5)]) (tt := tYes) rfl nd (pi_listK (K := K) rfl (pv 0)) (blkOk_by (N := N__law_powered) (sc := (defScope s__law_powered)) (by decide +kernel)) (fun _ _ _ _ _ => (pg_name (i := 5) nd rfl (Or.inl rfl))) (fun _ _ _ _ _ => pts_nil) (fun _ _ _ _ _ => (pe_callTy (call_list_ofK (K := K) rfl) (by rfl) T.b_list (by decide +kernel) (pa_cons (pv 5) pa_nil)))))
  (pss_cons (ps_set (i := 6) nd rfl (Or.inl rfl) (pv 1))
  (pss_cons (ps_for (passes_of rfl) rfl (pi_range1 (by rfl) T.b_range (pa_cons pe_int pa_nil)) (pg_name (i := 7) nd rfl (Or.inl rfl)) (pss_cons (ps_if (pt_cmpR op_eq (pv 6) pe_int (nomark _)) (pss_one ps_break) pss_nil)
  (C8.pss_cut (ps_if (pt_cmpR op_eq (pe_op op_mod (pe_callTy call_int1K (by rfl) T.b_int (by decide +kernel) (pa_cons (pv 6) pa_nil)) pe_int) pe_int (nomark _)) (pss_one (ps_setLc (i := 2) (own := [("_law_row", 5)]) (tt := tYes) rfl nd rfl rfl (sw_true rfl rfl rfl (by decide +kernel)) (pi_listK (K := K) rfl (pv 2)) (blkOk_by (N := N__law_powered) (sc := (defScope s__law_powered)) (by decide +kernel)) (fun _ _ _ _ _ => (pg_name (i := 5) nd rfl (Or.inl rfl))) (fun _ _ _ _ _ => pts_nil) (fun _ _ _ _ _ => (pe_cl (c__law_next T) hr (by decide) (pa_cons (pv 4) (pa_cons (pv 5) pa_nil)) passL)))) pss_nil)
  (pss_cons (ps_set (i := 4) nd rfl (Or.inr rfl) (pe_lc (own := [("_law_row", 5)]) (tt := tYes) rfl nd (pi_listK (K := K) rfl (pv 4)) (blkOk_by (N := N__law_powered) (sc := (defScope s__law_powered)) (by decide +kernel)) (fun _ _ _ _ _ => (pg_name (i := 5) nd rfl (Or.inl rfl))) (fun _ _ _ _ _ => pts_nil) (fun _ _ _ _ _ => (pe_cl (c__law_next T) hr (by decide) (pa_cons (pv 4) (pa_cons (pv 5) pa_nil)) passL))))
  (pss_one (ps_set (i := 6) nd rfl (Or.inl rfl) (pe_op op_fdivW (pv 6) pe_int)))))))
  (pss_one (ps_ret (pv 2))))))), ?_⟩
  refine st_eq (σ := [some (.ref L), some (.int (d : Int)), none, none, none, none, none, none]) rfl ?_
  walk_at "s"
  refine s_lenL eA ?_
  rw [List.length_map, lA]
  refine s_i1c (by omega) ?_
  refine lc_e (List.range g.n) (u := fun (a : Nat) => V.int (a : Int)) (ElO fun a => .lst (ivs [a])) walk_r List.length_range.symm (by rw [List.length_range]; omega) (fun _ _ => trivial) (fun D i a acc H1 c => ?_) (fun D0 acc H1 hD0 s1 e1 l1 hE1 => ?_)
  · walk_at "s"
    refine ⟨rfl, ?_⟩
    walk_at "s"
    refine s_tl (Nat.le_of_ble_eq_true rfl) fun l hl => ?_
    refine lce_yes elO_st c (L2.Same.up hl) ⟨l, rfl, fun z => ?_, upd_same⟩
    have := c.hd
    rw [← z, hl] at this
    cases this
  have P0 : LotsP H1 D0 (g.bnd 0) g.n := by
    have := lots_mk (f := g.bnd 0) e1 l1 hE1 (fun j a hj => by
      obtain ⟨h1, h2⟩ := List.getElem?_eq_some_iff.mp hj
      rw [List.getElem_range] at h2
      subst h2
      rfl)
    rw [List.length_range] at this
    exact this
  walk_at "s"
  have eA1 := s1 _ _ eA
  refine s_iLc (SqL.of eA1) ?_
  refine lc_e asA (u := fun p => V.ref p.1) (ElO fun p => .lst (ivs (g.ahead p.2))) walk_list (List.length_map ..) (by omega) (fun H' s' => SqL.of (s' _ _ eA1)) (fun D i a acc H2 c => ?_) (fun D1 acc2 H2 hD1 s2 e2 l2 hE2 => ?_)
  · walk_at "s"
    refine ⟨rfl, ?_⟩
    walk_at "s"
    obtain ⟨z1, z2, z4⟩ := fA i a c.ai
    refine s_lstOf ⟨_, rfl, .inl (SqL.of (c.sm _ _ (s1 _ _ z4)))⟩ fun l hl => ?_
    refine lce_yes elO_st c (L2.Same.up hl) ⟨l, rfl, fun z => ?_, by show _ = some (HO.lst (ivs (g.ahead a.2))); rw [z1]; exact upd_same⟩
    have := c.hd
    rw [← z, hl] at this
    cases this
  have P1 : LotsP H2 D1 (g.bnd 1) g.n := by
    have := lots_mk (f := g.bnd 1) e2 l2 hE2 (fun j a hj => by
      obtain ⟨z1, _⟩ := fA j a hj
      show HO.lst (ivs (g.ahead a.2)) = _
      rw [z1, Hou.bnd_one])
    rw [lA] at this
    exact this
  walk_at "s"
  refine s_i1f (n := 110) (by decide) ?_
  refine for_f (u := fun (n : Nat) => V.int (n : Int)) (List.range 110) walk_r List.length_range.symm (fun i σ H3 => ∃ (R B : Addr) (x : Option V), σ = [some (.ref L), some (.int (d : Int)), some (.ref R), none, some (.ref B), none, some (.int ((d / 2 ^ i : Nat) : Int)), x] ∧ Same H H3 ∧ LotsP H3 R (g.bnd (d % 2 ^ i)) g.n ∧ LotsP H3 B (g.bnd (2 ^ i)) g.n)
    ⟨D0, D1, none, by rw [Nat.pow_zero, Nat.div_one]; rfl, s1.trans s2, by rw [Nat.pow_zero, Nat.mod_one]; exact P0.to s2, P1⟩ (fun _ _ _ _ => trivial) (fun i k σ H3 hi hP => ?_) (fun σ H3 hP => ?_)
  · obtain ⟨R, B, x, rfl, s3, PR, PB⟩ := hP
    have pw : 1 ≤ 2 ^ i := Nat.one_le_two_pow
    walk_at "s"
    refine s_iteD (fun e => ?_) (fun e => ?_)
    · walk_at "s"
      have hlt : d < 2 ^ i := (Nat.div_eq_zero_iff_lt (by omega)).mp e
      rw [Nat.mod_eq_of_lt hlt] at PR
      exact q R H3 s3 PR
    walk_at "s"
    refine s_cut (fun σ H4 => ∃ R2 : Addr, σ = [some (.ref L), some (.int (d : Int)), some (.ref R2), none, some (.ref B), none, some (.int ((d / 2 ^ i : Nat) : Int)), some (.int (k : Int))] ∧ Same H3 H4 ∧ LotsP H4 R2 (g.bnd (d % 2 ^ (i + 1))) g.n) ?_ (fun σ H4 hM => ?_)
    · walk_at "s"
      refine s_modN (b := 2) (by decide) ?_
      walk_at "s"
      refine s_ite (fun e1 => ?_) (fun e1 => ?_)
      · have e1 : d / 2 ^ i % 2 = 1 := by
          have := of_decide_eq_true e1
          omega
        walk_at "s"
        obtain ⟨as, ea, la, fa⟩ := PR.zip
        refine s_iLc (SqL.of ea) ?_
        refine lc_e as (u := fun p => V.ref p.1) (ElO fun p => .lst (ivs (g.bnd (d % 2 ^ i + 2 ^ i) p.2))) walk_list (List.length_map ..) (by omega) (fun H' s' => SqL.of (s' _ _ ea)) (fun D j a acc H4 c => ?_) (fun D2 acc3 H4 hD2 s4 e4 l4 hE4 => ?_)
        · walk_at "s"
          refine ⟨rfl, ?_⟩
          walk_at "s"
          obtain ⟨z1, z2, z4⟩ := fa j a c.ai
          obtain ⟨xs, b1, b2⟩ := (PB.to c.sm).arg
          refine ⟨B, a.1, xs, _, g.bnd (2 ^ i), g.n, rfl, b1, c.sm _ _ z4, n16, fun b hb => ?_, fun D' H' s' hn e' => ?_⟩
          · have hbn := bnd_lt z2 b hb
            obtain ⟨qq, c1, c2⟩ := b2 b hbn
            exact ⟨qq, c1, c2, Nat.le_trans (bnd_len o _ _) (by decide), bnd_lt hbn⟩
          · rw [unF_bnd z2 pw, ← z1] at e'
            refine lce_yes elO_st c s' ⟨D', rfl, fun z => ?_, e'⟩
            have := c.hd
            rw [← z, hn] at this
            cases this
        · walk_at "s"
          refine ⟨D2, rfl, s4, ?_⟩
          rw [Nat.mod_pow_succ, e1, Nat.mul_one, ← la]
          exact lots_mk e4 l4 hE4 fun j a hj => by
            obtain ⟨z1, _⟩ := fa j a hj
            show HO.lst (ivs (g.bnd (d % 2 ^ i + 2 ^ i) a.2)) = _
            rw [z1]
      · have e1 : d / 2 ^ i % 2 = 0 := by
          have := of_decide_eq_false e1
          omega
        walk_at "s"
        refine ⟨R, rfl, L2.Same.refl _, ?_⟩
        rw [Nat.mod_pow_succ, e1, Nat.mul_zero, Nat.add_zero]
        exact PR
    obtain ⟨R2, rfl, s4, PR2⟩ := hM
    have PB4 := PB.to s4
    obtain ⟨as, ea, la, fa⟩ := PB4.zip
    walk_at "s"
    refine s_iLc (SqL.of ea) ?_
    refine lc_e as (u := fun p => V.ref p.1) (ElO fun p => .lst (ivs (g.bnd (2 ^ i + 2 ^ i) p.2))) walk_list (List.length_map ..) (by omega) (fun H' s' => SqL.of (s' _ _ ea)) (fun D j a acc H5 c => ?_) (fun D2 acc3 H5 hD2 s5 e5 l5 hE5 => ?_)
    · walk_at "s"
      refine ⟨rfl, ?_⟩
      walk_at "s"
      obtain ⟨z1, z2, z4⟩ := fa j a c.ai
      obtain ⟨xs, b1, b2⟩ := (PB4.to c.sm).arg
      refine ⟨B, a.1, xs, _, g.bnd (2 ^ i), g.n, rfl, b1, c.sm _ _ z4, n16, fun b hb => ?_, fun D' H' s' hn e' => ?_⟩
      · have hbn := bnd_lt z2 b hb
        obtain ⟨qq, c1, c2⟩ := b2 b hbn
        exact ⟨qq, c1, c2, Nat.le_trans (bnd_len o _ _) (by decide), bnd_lt hbn⟩
      · rw [unF_bnd z2 pw, ← z1] at e'
        refine lce_yes elO_st c s' ⟨D', rfl, fun z => ?_, e'⟩
        have := c.hd
        rw [← z, hn] at this
        cases this
    · walk_at "s"
      refine s_divN (b := 2) (by decide) (by decide) ?_
      walk_at "s"
      have ed : d / 2 ^ i / 2 = d / 2 ^ (i + 1) := by rw [Nat.div_div_eq_div_mul, Nat.pow_succ]
      rw [ed]
      refine ⟨R2, D2, _, rfl, (s3.trans s4).trans s5, PR2.to s5, ?_⟩
      rw [Nat.pow_succ, Nat.mul_two, ← la]
      exact lots_mk e5 l5 hE5 fun j a hj => by
        obtain ⟨z1, _⟩ := fa j a hj
        show HO.lst (ivs (g.bnd (2 ^ i + 2 ^ i) a.2)) = _
        rw [z1]
  · obtain ⟨R, B, x, rfl, s3, PR, PB⟩ := hP
    rw [List.length_range, Nat.mod_eq_of_lt (Nat.lt_of_le_of_lt hd (by decide))] at PR
    walk_at "s"
    exact q R H3 s3 PR
theorem c__law_powered (T : TX K mg) : Cal (L2.CX P w) P w K mg base 2 "_law_powered" sp_powered [] :=
  cal_mk T.f__law_powered T.g__law_powered ⟨rfl, rfl⟩ (fun _ _ _ _ _ _ us hl => match us, hl with | [_, _], _ => rfl) sc__law_powered (fun vs H Q E h => by obtain ⟨L, g, d, rfl, _⟩ := h; rfl) (k__law_powered T)
end

end K53
namespace K53
open PySem PySem.Spec PyProof.Rows L2
/-! ### the program asked; what it refuses -/
abbrev N__law_asked : List Str := ["_law_way", "_law_made", "_law_days", "_law_h", "_law_blank", "raised"]
theorem sc__law_asked : FnScope N__law_asked ["_law_way", "_law_made", "_law_days", "_law_h", "_law_blank"] (defScope s__law_asked) := C8.fnScope_by (by decide +kernel)
/-- which end is due: 0 the days, 1 the hand, 2 the letter, 3 the word "couple", 4 some answer -/
def dueK (way : Nat) (wD wH wB : Bool) : Nat := if way = 0 ∧ wD = false then 0 else if wH = false then 1 else if way < 2 ∧ wB = false then 2 else if way = 3 then 3 else 4
def AskV (k : Nat) (vd vh vb : V) (s : Str) (v : V) : Prop := (k = 0 → s = "days" ∧ v = vd) ∧ (k = 1 → s = "hand" ∧ v = vh) ∧ (k = 2 → s = "letter" ∧ v = vb) ∧ (k = 3 → s = "told" ∧ v = .str "couple") ∧ (k = 4 → s = "told")
theorem askV0 {vd vh vb v : V} (h : v = vd) : AskV 0 vd vh vb "days" v := ⟨fun _ => ⟨rfl, h⟩, nofun, nofun, nofun, nofun⟩
theorem askV1 {vd vh vb v : V} (h : v = vh) : AskV 1 vd vh vb "hand" v := ⟨nofun, fun _ => ⟨rfl, h⟩, nofun, nofun, nofun⟩
theorem askV2 {vd vh vb v : V} (h : v = vb) : AskV 2 vd vh vb "letter" v := ⟨nofun, nofun, fun _ => ⟨rfl, h⟩, nofun, nofun⟩
theorem askV3 {vd vh vb v : V} (h : v = .str "couple") : AskV 3 vd vh vb "told" v := ⟨nofun, nofun, nofun, fun _ => ⟨rfl, h⟩, nofun⟩
theorem askV4 {vd vh vb v : V} : AskV 4 vd vh vb "told" v := ⟨nofun, nofun, nofun, nofun, fun _ => rfl⟩
abbrev tenD : Int := 1000000000000000000000000000000
def sp_asked (K : PySem.W.Frag) : Sp := fun vs H Q _ => ∃ (p : Addr) (g : Hou) (way : Nat) (vd vh vb : V) (dd dh db : PyData), vs = [.int (way : Int), .ref p, vd, vh, vb] ∧ way < 4 ∧ HouO K H p g ∧ Hd H vd dd ∧ Hd H vh dh ∧ Hd H vb db ∧ isSeqD dd = false ∧
  ∀ r H' s v, Same H H' → AskV (dueK way (isW dd (some 0) (some tenD)) (isW dh (some 0) (some ((g.hs : Int) - 1))) (isW db (some 0) (some ((g.ls : Int) - 1)))) vd vh vb s v → H' r = some (.lst [.str s, v]) → Q (.ref r) H'
section
variable {P : Program} {w : World} {K : PySem.W.Frag} {mg : Str → Option Value} {base : Heap}
theorem k__law_asked (T : TX K mg) : Keeps (L2.CX P w) P w K mg base d__law_asked N__law_asked 5 (sp_asked K) := by
  intro cdv A outer s H vs Q E hr hsp
  obtain ⟨p, g, way, vd, vh, vb, dd, dh, db, rfl, hw, hO, hd, hh, hb, hsd, q⟩ := hsp
  have nd := sc__law_asked.nd
  have hu := hu_of hr
  have hu64 := hr.units
  refine ⟨_, (pss_one (ps_try_asM (i := 5) rfl rfl nd rfl rfl takes_none5 (fun W pn xe tk _ => (pss_cons (ps_if (pt_cmpR op_eq (pv 0) pe_int (nomark _)) (pss_one (ps_ret (pe_lst (pa_cons pe_str (pa_cons (pe_clS (c_has_story T) hr (by decide) (pa_cons (pv 1) (pa_cons (pv 2) (pa_cons (pv 3) (pa_cons (pv 4) pa_nil)))) (fun σ => passAt tk σ)) pa_nil))))) pss_nil)
  (pss_cons (ps_if (pt_cmpR op_eq (pv 0) pe_int (nomark _)) (pss_one (ps_ret (pe_lst (pa_cons pe_str (pa_cons (pe_clS (c_days_with_story T) hr (by decide) (pa_cons (pv 1) (pa_cons (pv 3) (pa_cons (pv 4) pa_nil))) (fun σ => passAt tk σ)) pa_nil))))) pss_nil)
  (pss_cons (ps_if (pt_cmpR op_eq (pv 0) pe_int (nomark _)) (pss_one (ps_ret (pe_lst (pa_cons pe_str (pa_cons (pe_clS (c_endless_story T) hr (by decide) (pa_cons (pv 1) (pa_cons (pv 3) pa_nil)) (fun σ => passAt tk σ)) pa_nil))))) pss_nil)
  (pss_one (ps_ret (pe_lst (pa_cons pe_str (pa_cons (pe_clS (c_endless_fault T) hr (by decide) (pa_cons (pv 1) (pa_cons (pv 3) (pa_cons (pe_lst pa_nil) (pa_cons (pv 2) pa_nil)))) (fun σ => passAt tk σ)) pa_nil))))))))) (.cons ⟨rfl, by decide, .inl T.g_BadDays⟩ (fun a oe cls d pn hz hf => (pss_one (ps_ret (pe_lst (pa_cons pe_str (pa_cons (pe_xf T.xDays.xf T.xDays.no hz hf (pv 5)) pa_nil)))))) (.cons ⟨rfl, by decide, .inl T.g_BadHand⟩ (fun a oe cls d pn hz hf => (pss_one (ps_ret (pe_lst (pa_cons pe_str (pa_cons (pe_xf T.xHand.xf T.xHand.no hz hf (pv 5)) pa_nil)))))) (.cons ⟨rfl, by decide, .inl T.g_BadLetter⟩ (fun a oe cls d pn hz hf => (pss_one (ps_ret (pe_lst (pa_cons pe_str (pa_cons (pe_xf T.xLetter.xf T.xLetter.no hz hf (pv 5)) pa_nil)))))) .nil))))), ?_⟩
  refine st_eq (σ := [some (.int (way : Int)), some (.ref p), some (vd), some (vh), some (vb), none]) rfl ?_
  walk_at "s"
  refine s_iteD (fun e0 => ?_) (fun e0 => ?_)
  · subst e0
    walk_at "s"
    refine s_callS ?_
    walk_at "s"
    refine ⟨p, g, vd, vh, vb, dd, dh, db, rfl, hO, hd, hh, hb, fun e1 dx H1 s1 _ hx => ?_, fun e1 e2 dx H1 s1 _ hx => ?_, fun e1 e2 e3 dx H1 s1 _ hx => ?_, fun k h b e1 e2 e3 l1 l2 l3 H1 s1 => ?_⟩
    · refine wAsM_hit T.xm_BadDays_BadDays fun a ha => ?_
      walk_at "s"
      refine s_xf ?_
      walk_at "s"
      refine ⟨rfl, rfl, dx, _, vd, rfl, hx, rfl, ?_⟩
      walk_at "s"
      refine s_tl (Nat.le_of_ble_eq_true rfl) fun r hr => q r _ _ _ (s1.upT hr) ?_ upd_same
      rw [e1]
      exact askV0 rfl
    · refine wAsM_pass T.xm_BadHand_BadDays (wAsM_hit T.xm_BadHand_BadHand fun a ha => ?_)
      walk_at "s"
      refine s_xf ?_
      walk_at "s"
      refine ⟨rfl, rfl, dx, _, vh, rfl, hx, rfl, ?_⟩
      walk_at "s"
      refine s_tl (Nat.le_of_ble_eq_true rfl) fun r hr => q r _ _ _ (s1.upT hr) ?_ upd_same
      rw [e1, e2]
      exact askV1 rfl
    · refine wAsM_pass T.xm_BadLetter_BadDays (wAsM_pass T.xm_BadLetter_BadHand (wAsM_hit T.xm_BadLetter_BadLetter fun a ha => ?_))
      walk_at "s"
      refine s_xf ?_
      walk_at "s"
      refine ⟨rfl, rfl, dx, _, vb, rfl, hx, rfl, ?_⟩
      walk_at "s"
      refine s_tl (Nat.le_of_ble_eq_true rfl) fun r hr => q r _ _ _ (s1.upT hr) ?_ upd_same
      rw [e1, e2, e3]
      exact askV2 rfl
    · walk_at "s"
      refine s_tl (Nat.le_of_ble_eq_true rfl) fun r hr => q r _ _ _ (s1.upT hr) ?_ upd_same
      subst e1 e2 e3
      rw [isW_int (by omega) (by omega), isW_int (by omega) (by omega), isW_int (by omega) (by omega)]
      exact askV4
  walk_at "s"
  refine s_iteD (fun e1 => ?_) (fun e1 => ?_)
  · have e1 : way = 1 := by omega
    subst e1
    walk_at "s"
    refine s_callS ?_
    walk_at "s"
    refine ⟨p, g, vh, vb, dh, db, rfl, hO, hh, hb, fun e2 dx H1 s1 _ hx => ?_, fun e2 e3 dx H1 s1 _ hx => ?_, fun h b e2 e3 l2 l3 r0 H1 s1 hR => ?_⟩
    · refine wAsM_pass T.xm_BadHand_BadDays (wAsM_hit T.xm_BadHand_BadHand fun a ha => ?_)
      walk_at "s"
      refine s_xf ?_
      walk_at "s"
      refine ⟨rfl, rfl, dx, _, vh, rfl, hx, rfl, ?_⟩
      walk_at "s"
      refine s_tl (Nat.le_of_ble_eq_true rfl) fun r hr => q r _ _ _ (s1.upT hr) ?_ upd_same
      rw [e2]
      exact askV1 rfl
    · refine wAsM_pass T.xm_BadLetter_BadDays (wAsM_pass T.xm_BadLetter_BadHand (wAsM_hit T.xm_BadLetter_BadLetter fun a ha => ?_))
      walk_at "s"
      refine s_xf ?_
      walk_at "s"
      refine ⟨rfl, rfl, dx, _, vb, rfl, hx, rfl, ?_⟩
      walk_at "s"
      refine s_tl (Nat.le_of_ble_eq_true rfl) fun r hr => q r _ _ _ (s1.upT hr) ?_ upd_same
      rw [e2, e3]
      exact askV2 rfl
    · walk_at "s"
      refine s_tl (Nat.le_of_ble_eq_true rfl) fun r hr => q r _ _ _ (s1.upT hr) ?_ upd_same
      subst e2 e3
      rw [isW_int (i := (h : Int)) (by omega) (by omega), isW_int (i := (b : Int)) (by omega) (by omega)]
      exact askV4
  walk_at "s"
  refine s_iteD (fun e2 => ?_) (fun e2 => ?_)
  · have e2 : way = 2 := by omega
    subst e2
    walk_at "s"
    refine s_callS ?_
    walk_at "s"
    refine ⟨p, g, vh, dh, rfl, hO, hh, fun e2 dx H1 s1 _ hx => ?_, fun h e2 l2 => ?_⟩
    · refine wAsM_pass T.xm_BadHand_BadDays (wAsM_hit T.xm_BadHand_BadHand fun a ha => ?_)
      walk_at "s"
      refine s_xf ?_
      walk_at "s"
      refine ⟨rfl, rfl, dx, _, vh, rfl, hx, rfl, ?_⟩
      walk_at "s"
      refine s_tl (Nat.le_of_ble_eq_true rfl) fun r hr => q r _ _ _ (s1.upT hr) ?_ upd_same
      rw [e2]
      exact askV1 rfl
    · have fin : ∀ (r0 : Addr) (H1 : Hp), Same H H1 → ∀ r, H1 r = none → Q (.ref r) (upd H1 r (.lst [.str "told", .ref r0])) := fun r0 H1 s1 r hr => by
        refine q r _ _ _ (s1.upT hr) ?_ upd_same
        subst e2
        rw [isW_int (i := (h : Int)) (by omega) (by omega)]
        exact askV4
      refine ⟨fun r0 H1 n s1 _ _ _ => ?_, fun r0 H1 pth n s1 _ _ _ => ?_⟩
      · walk_at "s"
        exact s_tl (Nat.le_of_ble_eq_true rfl) fun r hr => fin r0 H1 s1 r hr
      · walk_at "s"
        exact s_tl (Nat.le_of_ble_eq_true rfl) fun r hr => fin r0 H1 s1 r hr
  have e3 : way = 3 := by omega
  subst e3
  walk_at "s"
  refine s_callS ?_
  walk_at "s"
  refine s_tl (Nat.le_of_ble_eq_true rfl) fun L hL => ?_
  walk_at "s"
  have s0 := L2.Same.up (o := HO.lst []) hL
  have hsz : (seqD dd).length = 0 := by cases dd <;> first | rfl | cases hsd
  refine ⟨p, g, vh, dh, .ref L, vd, .list [], dd, rfl, hO.to s0, hh.to s0, .lst upd_same rfl .nil, hd.to s0, Nat.zero_le _, by omega, fun e2 dx H1 s1 _ hx => ?_, fun h e2 l2 v H1 s1 hF => ?_⟩
  · refine wAsM_pass T.xm_BadHand_BadDays (wAsM_hit T.xm_BadHand_BadHand fun a ha => ?_)
    walk_at "s"
    refine s_xf ?_
    walk_at "s"
    refine ⟨rfl, rfl, dx, _, vh, rfl, hx, rfl, ?_⟩
    walk_at "s"
    refine s_tl (Nat.le_of_ble_eq_true rfl) fun r hr => q r _ _ _ ((s0.trans s1).upT hr) ?_ upd_same
    rw [e2]
    exact askV1 rfl
  · walk_at "s"
    refine s_tl (Nat.le_of_ble_eq_true rfl) fun r hr => q r _ _ _ ((s0.trans s1).upT hr) ?_ upd_same
    subst e2
    rw [isW_int (i := (h : Int)) (by omega) (by omega)]
    refine askV3 (hF.1 fun z => ?_)
    have := z.2
    unfold areC at this
    rw [hsd] at this
    cases this
theorem c__law_asked (T : TX K mg) : Cal (L2.CX P w) P w K mg base 6 "_law_asked" (sp_asked K) [] :=
  cal_mk T.f__law_asked T.g__law_asked ⟨rfl, rfl⟩ (fun _ _ _ _ _ _ us hl => match us, hl with | [_, _, _, _, _], _ => rfl) sc__law_asked (fun vs H Q E h => by obtain ⟨p, g, way, vd, vh, vb, dd, dh, db, rfl, _⟩ := h; rfl) (k__law_asked T)
end

end K53
namespace K53
open PySem PySem.Spec PyProof.Rows L2
/-! ### what is refused -/
abbrev N__law_refusals_right : List Str := ["_law_hand_here", "_law_house_here", "_law_made", "_law_way", "_law_days", "_law_h", "_law_blank", "_law_told", "_law_due"]
theorem sc__law_refusals_right : FnScope N__law_refusals_right ["_law_hand_here", "_law_house_here", "_law_made"] (defScope s__law_refusals_right) := C8.fnScope_by (by decide +kernel)
/-- what stands beside a text in a list of two, by == -/
def ShD (d : PyData) : Prop := ∀ s : Str, PyData.strOk s = true → SeqAt.shaped (.list [.str s, d]) = true
def DayD (d : PyData) : Prop := (∃ i : Int, d = .int i) ∨ (∃ b, d = .bool b) ∨ d = .none ∨ d = .str "7"
theorem ok1 : PyData.strOk "1" = true := by decide +kernel
theorem ok00 : PyData.strOk "00" = true := by decide +kernel
theorem ok7 : PyData.strOk "7" = true := by decide +kernel
theorem shp_odd {d : PyData} (h : OddD d) : ShD d := fun s hs => by
  unfold SeqAt.shaped
  rcases h with ⟨i, rfl⟩ | ⟨b, rfl⟩ | rfl | rfl | rfl | rfl <;> simp [PyData.canLay0, PyData.canLayAll0, PyData.depth, PyData.depthAll, hs, ok1, ok00]
theorem shp_day {d : PyData} (h : DayD d) : ShD d := fun s hs => by
  unfold SeqAt.shaped
  rcases h with ⟨i, rfl⟩ | ⟨b, rfl⟩ | rfl | rfl <;> simp [PyData.canLay0, PyData.canLayAll0, PyData.depth, PyData.depthAll, hs, ok7]
theorem day_seq {d : PyData} (h : DayD d) : isSeqD d = false := by
  rcases h with ⟨i, rfl⟩ | ⟨b, rfl⟩ | rfl | rfl <;> rfl
theorem s_both {p : Prop} [Decidable p] {A B : Prop} (hB : B) (hA : p → B → A) : if decide p = true then A else B := s_iteD (fun e => hA e hB) fun _ => hB
def sp_refus (K : PySem.W.Frag) : Sp := fun vs H Q _ => ∃ x c y p g, vs = [.ref x, .ref y, .ref p] ∧ HandO H x c ∧ LHo H y g ∧ HouO K H p g ∧ ∀ H', SameS H H' → HandO H' x c → Q (.bl true) H'
section
variable {P : Program} {w : World} {K : PySem.W.Frag} {mg : Str → Option Value} {base : Heap}
theorem k__law_refusals_right (T : TX K mg) : Keeps (L2.CX P w) P w K mg base d__law_refusals_right N__law_refusals_right 6 (sp_refus K) := by
  intro cdv A outer s H vs Q E hr hsp
  obtain ⟨x, c, y, p, g, rfl, hh, hg, hO, q⟩ := hsp
  have nd := sc__law_refusals_right.nd
  have hu := hu_of hr
  have hu64 := hr.units
  refine ⟨_, (pss_cons (ps_for (passes_of rfl) rfl (pi_range1 (by rfl) T.b_range (pa_cons pe_int pa_nil)) (pg_name (i := 3) nd rfl (Or.inl rfl)) (C8.pss_cut (ps_set (i := 4) nd rfl (Or.inl rfl) (pe_ifExp (pt_cmpR op_eq (pe_cl (c__law_take T) hr (by decide) (pa_cons (pv 0) (pa_cons pe_int pa_nil)) passL) pe_int (nomark _)) (pe_ix (ix_tupK (K := K) rfl) (pe_tup (pa_cons (pe_op op_add (pe_op op_pow pe_int pe_int) pe_int) (pa_cons (pe_un un_neg pe_int) (pa_cons pe_bl (pa_cons pe_non (pa_cons pe_str pa_nil)))))) (pe_cl (c__law_take T) hr (by decide) (pa_cons (pv 0) (pa_cons pe_int pa_nil)) passL) (fun _ _ => rfl)) (pe_op op_pow pe_int pe_int)))
  (C8.pss_cut (ps_set (i := 5) nd rfl (Or.inl rfl) (pe_ifExp (pt_cmpR op_eq (pe_cl (c__law_take T) hr (by decide) (pa_cons (pv 0) (pa_cons pe_int pa_nil)) passL) pe_int (nomark _)) (pe_cl (c__law_odd T) hr (by decide) (pa_cons (pv 0) (pa_cons (pe_ix (ix_listK (K := K) rfl) (pv 1) pe_int (fun _ _ => rfl)) pa_nil)) passL) pe_int))
  (C8.pss_cut (ps_set (i := 6) nd rfl (Or.inl rfl) (pe_ifExp (pt_cmpR op_eq (pe_cl (c__law_take T) hr (by decide) (pa_cons (pv 0) (pa_cons pe_int pa_nil)) passL) pe_int (nomark _)) (pe_cl (c__law_odd T) hr (by decide) (pa_cons (pv 0) (pa_cons (pe_ix (ix_listK (K := K) rfl) (pv 1) pe_int (fun _ _ => rfl)) pa_nil)) passL) pe_int))
  (pss_cons (ps_set (i := 7) nd rfl (Or.inl rfl) (pe_cl (c__law_asked T) hr (by decide) (pa_cons (pv 3) (pa_cons (pv 2) (pa_cons (pv 4) (pa_cons (pv 5) (pa_cons (pv 6) pa_nil))))) passL))
  (pss_cons (ps_set (i := 8) nd rfl (Or.inl rfl) pe_non)
  (C8.pss_cut (ps_if (PW.pt (pw_and (pt_cmpR op_eq (pv 3) pe_int (nomark _)) (pw_and1 (pt_not (pt_val (pe_cl (c__law_whole T) hr (by decide) (pa_cons (pv 4) (pa_cons (pe_op op_add (pe_op op_pow pe_int pe_int) pe_int) pa_nil)) passL)))))) (pss_one (ps_set (i := 8) nd rfl (Or.inl rfl) (pe_lst (pa_cons pe_str (pa_cons (pv 4) pa_nil))))) (pss_one (ps_if (pt_not (pt_val (pe_cl (c__law_whole T) hr (by decide) (pa_cons (pv 5) (pa_cons (pe_ix (ix_listK (K := K) rfl) (pv 1) pe_int (fun _ _ => rfl)) pa_nil)) passL))) (pss_one (ps_set (i := 8) nd rfl (Or.inl rfl) (pe_lst (pa_cons pe_str (pa_cons (pv 5) pa_nil))))) (pss_one (ps_if (PW.pt (pw_and (pt_cmpR op_lt (pv 3) pe_int (nomark _)) (pw_and1 (pt_not (pt_val (pe_cl (c__law_whole T) hr (by decide) (pa_cons (pv 6) (pa_cons (pe_ix (ix_listK (K := K) rfl) (pv 1) pe_int (fun _ _ => rfl)) pa_nil)) passL)))))) (pss_one (ps_set (i := 8) nd rfl (Or.inl rfl) (pe_lst (pa_cons pe_str (pa_cons (pv 6) pa_nil))))) (pss_one (ps_if (pt_cmpR op_eq (pv 3) pe_int (nomark _)) (pss_one (ps_set (i := 8) nd rfl (Or.inl rfl) (pe_lst (pa_cons pe_str (pa_cons pe_str pa_nil))))) pss_nil)))))))
  (pss_one (ps_if (PW.pt (pw_or (PW.pt (pw_and (pt_cmp (pc_notN (pv 8))) (pw_and1 (pt_cmpR (op_neDK (K := K) rfl hu64) (pv 7) (pv 8) (nomark _))))) (pw_or1 (PW.pt (pw_and (pt_cmp (pc_isN (pv 8))) (pw_and1 (pt_cmpR op_ne (pe_ix (ix_listK (K := K) rfl) (pv 7) pe_int (fun _ _ => rfl)) pe_str (nomark _)))))))) (pss_one (ps_ret pe_bl)) pss_nil)))))))))
  (pss_one (ps_ret pe_bl))), ?_⟩
  refine st_eq (σ := [some (.ref x), some (.ref y), some (.ref p), none, none, none, none, none, none]) rfl ?_
  walk_at "s"
  refine s_i1f (n := 4) (by decide) ?_
  refine for_f (u := fun (n : Nat) => V.int (n : Int)) (List.range 4) walk_r List.length_range.symm (fun i σ H1 => ∃ a b d e f h : Option V, σ = [some (.ref x), some (.ref y), some (.ref p), a, b, d, e, f, h] ∧ SameS H H1 ∧ HandO H1 x c)
    ⟨_, _, _, _, _, _, rfl, SameS.refl _, hh⟩ (fun _ _ _ _ => trivial) (fun i k σ H1 hi hP => ?_) (fun σ H1 hP => ?_)
  · obtain ⟨a, b, d, e, f, h, rfl, s1, hh1⟩ := hP
    obtain ⟨hi4, rfl⟩ : ∃ _ : i < 4, k = i := by
      obtain ⟨h1, h2⟩ := List.getElem?_eq_some_iff.mp hi
      rw [List.getElem_range] at h2
      exact ⟨by rw [List.length_range] at h1; exact h1, h2.symm⟩
    walk_at "s"
    refine s_cut (fun σ H2 => ∃ vd dd, σ = [some (.ref x), some (.ref y), some (.ref p), some (.int (k : Int)), some vd, d, e, f, h] ∧ Hd H2 vd dd ∧ DayD dd ∧ SameS H1 H2 ∧ HandO H2 x c) ?_ (fun σ H2 hM => ?_)
    · walk_at "s"
      refine ⟨x, c, 3, rfl, hh1, by decide, by decide, fun r H2 hr2 s2 hh2 => ?_⟩
      walk_at "s"
      refine s_ite (fun _ => ?_) (fun _ => ?_)
      · walk_at "s"
        refine s_pow (a := 10) (b := 30) (by decide) (by decide) ?_
        walk_at "s"
        refine s_tl (Nat.le_of_ble_eq_true rfl) fun t ht => ?_
        walk_at "s"
        have s3 := L2.Same.up (o := HO.tup [.int ((10 ^ 30 + 1 : Nat) : Int), .int (-1), .bl true, .non, .str "7"]) ht
        refine ⟨x, c, 5, rfl, hh2.upN ht, by decide, by decide, fun j H4 hj s4 hh4 => ?_⟩
        have e4 := s4 _ _ rfl (upd_same (H := H2) (a := t) (o := HO.tup [.int ((10 ^ 30 + 1 : Nat) : Int), .int (-1), .bl true, .non, .str "7"]))
        have sS := (s2.trans s3.toS).trans s4
        have : j = 0 ∨ j = 1 ∨ j = 2 ∨ j = 3 ∨ j = 4 := by omega
        rcases this with z | z | z | z | z
        · rw [z]; refine s_ixT (i := 0) (SqT.of e4) rfl ?_; walk_at "s"; exact ⟨_, _, rfl, .int _, .inl ⟨_, rfl⟩, sS, hh4⟩
        · rw [z]; refine s_ixT (i := 1) (SqT.of e4) rfl ?_; walk_at "s"; exact ⟨_, _, rfl, .int _, .inl ⟨_, rfl⟩, sS, hh4⟩
        · rw [z]; refine s_ixT (i := 2) (SqT.of e4) rfl ?_; walk_at "s"; exact ⟨_, _, rfl, .bl _, .inr (.inl ⟨_, rfl⟩), sS, hh4⟩
        · rw [z]; refine s_ixT (i := 3) (SqT.of e4) rfl ?_; walk_at "s"; exact ⟨_, _, rfl, .non, .inr (.inr (.inl rfl)), sS, hh4⟩
        · rw [z]; refine s_ixT (i := 4) (SqT.of e4) rfl ?_; walk_at "s"; exact ⟨_, _, rfl, .str _, .inr (.inr (.inr rfl)), sS, hh4⟩
      · walk_at "s"
        refine s_pow (a := 10) (b := 30) (by decide) (by decide) ?_
        walk_at "s"
        exact ⟨_, _, rfl, .int _, .inl ⟨_, rfl⟩, s2, hh2⟩
    obtain ⟨vd, dd, rfl, hvd, hdd, s2, hh2⟩ := hM
    have s12 := s1.trans s2
    refine s_cut (fun σ H3 => ∃ vh dh, σ = [some (.ref x), some (.ref y), some (.ref p), some (.int (k : Int)), some vd, some vh, e, f, h] ∧ Hd H3 vh dh ∧ OddD dh ∧ SameS H2 H3 ∧ HandO H3 x c) ?_ (fun σ H3 hM => ?_)
    · walk_at "s"
      refine ⟨x, c, 3, rfl, hh2, by decide, by decide, fun r H3 hr3 s3 hh3 => ?_⟩
      walk_at "s"
      refine s_ite (fun _ => ?_) (fun _ => ?_)
      · walk_at "s"
        refine s_h0 (hg.toS (s12.trans s3)) ?_
        refine ⟨x, c, g.hs, rfl, hh3, fun v d H4 hd hv s4 hh4 => ?_⟩
        walk_at "s"
        exact ⟨v, d, rfl, hv, hd, s3.trans s4, hh4⟩
      · walk_at "s"
        exact ⟨_, _, rfl, .int 0, .inl ⟨_, rfl⟩, s3, hh3⟩
    obtain ⟨vh, dh, rfl, hvh, hdh, s3, hh3⟩ := hM
    have s13 := s12.trans s3
    refine s_cut (fun σ H4 => ∃ vb db, σ = [some (.ref x), some (.ref y), some (.ref p), some (.int (k : Int)), some vd, some vh, some vb, f, h] ∧ Hd H4 vb db ∧ OddD db ∧ SameS H3 H4 ∧ HandO H4 x c) ?_ (fun σ H4 hM => ?_)
    · walk_at "s"
      refine ⟨x, c, 3, rfl, hh3, by decide, by decide, fun r H4 hr4 s4 hh4 => ?_⟩
      walk_at "s"
      refine s_ite (fun _ => ?_) (fun _ => ?_)
      · walk_at "s"
        refine s_h1 (hg.toS (s13.trans s4)) ?_
        refine ⟨x, c, g.ls, rfl, hh4, fun v d H5 hd hv s5 hh5 => ?_⟩
        walk_at "s"
        exact ⟨v, d, rfl, hv, hd, s4.trans s5, hh5⟩
      · walk_at "s"
        exact ⟨_, _, rfl, .int 0, .inl ⟨_, rfl⟩, s4, hh4⟩
    obtain ⟨vb, db, rfl, hvb, hdb, s4, hh4⟩ := hM
    have s14 := s13.trans s4
    have hvh4 := hvh.toS s4
    have hvd4 := (hvd.toS s3).toS s4
    walk_at "s"
    refine ⟨p, g, k, vd, vh, vb, dd, dh, db, rfl, hi4, hO.toS s14, hvd4, hvh4, hvb, day_seq hdd, fun r H5 sw v s5 hA hr5 => ?_⟩
    have hg5 := (hg.toS s14).to s5
    have hvd5 := hvd4.to s5
    have hvh5 := hvh4.to s5
    have hvb5 := hvb.to s5
    walk_at "s"
    refine s_cut (fun σ H6 => Same H5 H6 ∧ ∃ u, σ = [some (.ref x), some (.ref y), some (.ref p), some (.int (k : Int)), some vd, some vh, some vb, some (.ref r), some u] ∧ ((u = .non ∧ sw = "told") ∨ ∃ D dv, u = .ref D ∧ H6 D = some (.lst [.str sw, v]) ∧ Hd H6 v dv ∧ SeqAt.shaped (.list [.str sw, dv]) = true)) ?_ (fun σ H6 hM => ?_)
    · have e30 : (((10 ^ 30 + 1 : Nat) : Int) - 1) = tenD := by decide
      unfold dueK at hA
      walk_at "s"
      have isb : isBd dd (10 ^ 30 + 1) = isW dd (some 0) (some tenD) := by
        unfold isBd
        rw [e30]
      by_cases zA : k = 0 ∧ isW dd (some 0) (some tenD) = false
      · rw [if_pos zA] at hA
        obtain ⟨rfl, rfl⟩ := hA.1 rfl
        refine s_yesD zA.1 ?_
        walk_at "s"
        refine s_pow (a := 10) (b := 30) (by decide) (by decide) ?_
        walk_at "s"
        refine ⟨_, dd, 10 ^ 30 + 1, rfl, hvd5, ?_⟩
        walk_at "s"
        refine s_yesN (by rw [isb]; exact zA.2) ?_
        walk_at "s"
        refine s_tl (Nat.le_of_ble_eq_true rfl) fun D hD => ?_
        walk_at "s"
        exact ⟨L2.Same.up hD, _, rfl, .inr ⟨D, dd, rfl, upd_same, hvd5.to (L2.Same.up hD), shp_day hdd _ (by decide +kernel)⟩⟩
      · rw [if_neg zA] at hA
        refine s_both ?_ (fun e hB => ?_)
        · walk_at "s"
          refine s_h0 hg5 ?_
          refine ⟨_, dh, g.hs, rfl, hvh5, ?_⟩
          walk_at "s"
          by_cases zB : isW dh (some 0) (some ((g.hs : Int) - 1)) = false
          · rw [if_pos zB] at hA
            obtain ⟨rfl, rfl⟩ := hA.2.1 rfl
            refine s_yesN zB ?_
            walk_at "s"
            refine s_tl (Nat.le_of_ble_eq_true rfl) fun D hD => ?_
            walk_at "s"
            exact ⟨L2.Same.up hD, _, rfl, .inr ⟨D, dh, rfl, upd_same, hvh5.to (L2.Same.up hD), shp_odd hdh _ (by decide +kernel)⟩⟩
          · rw [if_neg zB] at hA
            refine s_noN (by cases z : isBd dh g.hs with | true => rfl | false => exact absurd z zB) ?_
            walk_at "s"
            by_cases zC : k < 2 ∧ isW db (some 0) (some ((g.ls : Int) - 1)) = false
            · rw [if_pos zC] at hA
              obtain ⟨rfl, rfl⟩ := hA.2.2.1 rfl
              refine s_yes (decide_eq_true (by have := zC.1; omega)) ?_
              walk_at "s"
              refine s_h1 hg5 ?_
              refine ⟨_, db, g.ls, rfl, hvb5, ?_⟩
              walk_at "s"
              refine s_yesN zC.2 ?_
              walk_at "s"
              refine s_tl (Nat.le_of_ble_eq_true rfl) fun D hD => ?_
              walk_at "s"
              exact ⟨L2.Same.up hD, _, rfl, .inr ⟨D, db, rfl, upd_same, hvb5.to (L2.Same.up hD), shp_odd hdb _ (by decide +kernel)⟩⟩
            · rw [if_neg zC] at hA
              refine s_both ?_ (fun e hB => ?_)
              · walk_at "s"
                by_cases zD : k = 3
                · rw [if_pos zD] at hA
                  obtain ⟨rfl, rfl⟩ := hA.2.2.2.1 rfl
                  refine s_yes (decide_eq_true (by omega)) ?_
                  walk_at "s"
                  refine s_tl (Nat.le_of_ble_eq_true rfl) fun D hD => ?_
                  walk_at "s"
                  exact ⟨L2.Same.up hD, _, rfl, .inr ⟨D, .str "couple", rfl, upd_same, .str _, by decide +kernel⟩⟩
                · rw [if_neg zD] at hA
                  have e1 := hA.2.2.2.2 rfl
                  subst e1
                  refine s_no (decide_eq_false (by omega)) ?_
                  walk_at "s"
                  exact ⟨L2.Same.refl _, _, rfl, .inl ⟨rfl, rfl⟩⟩
              · walk_at "s"
                refine s_h1 hg5 ?_
                refine ⟨_, db, g.ls, rfl, hvb5, ?_⟩
                walk_at "s"
                refine s_noN (by cases z : isBd db g.ls with | true => rfl | false => exact absurd ⟨by omega, z⟩ zC) ?_
                exact hB
        · walk_at "s"
          refine s_pow (a := 10) (b := 30) (by decide) (by decide) ?_
          walk_at "s"
          refine ⟨_, dd, 10 ^ 30 + 1, rfl, hvd5, ?_⟩
          walk_at "s"
          refine s_noN (by rw [isb]; cases z : isW dd (some 0) (some tenD) with | true => rfl | false => exact absurd ⟨e, z⟩ zA) ?_
          exact hB
    · obtain ⟨s6, u, rfl, hu6⟩ := hM
      have r6 := s6 _ _ hr5
      have fin := ((s14.trans s5.toS).trans s6.toS)
      have finh := (hh4.to s5).to s6
      walk_at "s"
      rcases hu6 with ⟨rfl, rfl⟩ | ⟨D, dv, rfl, hD, hv, hsh⟩
      · refine s_noND rfl ?_
        walk_at "s"
        refine s_yesD rfl ?_
        walk_at "s"
        refine s_ixL0 (SqL.of r6) ?_
        walk_at "s"
        refine s_ne rfl ?_
        walk_at "s"
        refine s_noN (by exact decide_eq_true rfl) ?_
        walk_at "s"
        exact ⟨_, _, _, _, _, _, rfl, fin, finh⟩
      · refine s_yesND (by intro z; cases z) ?_
        walk_at "s"
        refine s_neSame (d := .list [.str sw, dv]) (.lst r6 rfl (.cons (.str _) (.cons hv .nil))) (.lst hD rfl (.cons (.str _) (.cons hv .nil))) hsh ?_
        walk_at "s"
        refine s_noD (by intro z; cases z) ?_
        walk_at "s"
        exact ⟨_, _, _, _, _, _, rfl, fin, finh⟩
  · obtain ⟨a, b, d, e, f, h, rfl, s1, hh1⟩ := hP
    walk_at "s"
    exact q H1 s1 hh1
theorem c__law_refusals_right (T : TX K mg) : Cal (L2.CX P w) P w K mg base 7 "_law_refusals_right" (sp_refus K) [] :=
  cal_mk T.f__law_refusals_right T.g__law_refusals_right ⟨rfl, rfl⟩ (fun _ _ _ _ _ _ us hl => match us, hl with | [_, _, _], _ => rfl) sc__law_refusals_right (fun vs H Q E h => by obtain ⟨x, c, y, p, g, rfl, _⟩ := h; rfl) (k__law_refusals_right T)
end

end K53
namespace K53
open PySem PySem.Spec PyProof.Rows L2
/-! ### one blank: its truths, its round, its far days -/
abbrev N__law_blank_right : List Str := ["_law_hand_here", "_law_house_here", "_law_made", "_law_h", "_law_blank", "_law_lots_here", "_law_ends", "_law_truths", "_law_at", "_law_lot", "_law_told", "_law_days", "_law_due", "_law_has"]
theorem sc__law_blank_right : FnScope N__law_blank_right ["_law_hand_here", "_law_house_here", "_law_made", "_law_h", "_law_blank", "_law_lots_here"] (defScope s__law_blank_right) := C8.fnScope_by (by decide +kernel)
theorem nh_blv (f : Nat → Bool) (n : Nat) : nh (blv f n) = true := by
  unfold blv
  cases List.range n <;> rfl
theorem wl_truth {g : Hou} {h b k : Nat} : g.tr h b k = !decide ((g.lot (g.wh h) k).filter (fun x => decide (x ∈ g.wl b)) = []) := by
  unfold Hou.tr
  cases e : (g.lot (g.wh h) k).any fun x => decide (x ∈ g.wl b) with
  | true =>
    rw [decide_eq_false]
    · rfl
    · intro z
      obtain ⟨a, ha, hd⟩ := List.any_eq_true.mp e
      exact List.filter_eq_nil_iff.mp z a ha hd
  | false =>
    rw [decide_eq_true]
    · rfl
    · refine List.filter_eq_nil_iff.mpr fun a ha hd => ?_
      rw [List.any_eq_false] at e
      exact e a ha hd
theorem lot_len {g : Hou} (o : g.Ok) {S : List Nat} (hS : S.length ≤ 16) : ∀ k, (g.lot S k).length ≤ 16
  | 0 => hS
  | k + 1 => by
    show ((List.range g.n).filter _).length ≤ 16
    refine Nat.le_trans (List.length_filter_le _ _) ?_
    rw [List.length_range]
    exact o.n16
def sp_blank (K : PySem.W.Frag) : Sp := fun vs H Q _ => ∃ x c y p r g, ∃ h b Tt m : Nat, vs = [.ref x, .ref y, .ref p, .int (h : Int), .int (b : Int), .ref r] ∧ HandO H x c ∧ LHo H y g ∧ HouO K H p g ∧ h < g.hs ∧ b < g.ls ∧ Orb (g.lot (g.wh h)) Tt m ∧ LLotsO H r (g.lot (g.wh h)) Tt m ∧
  ∀ H', SameS H H' → HandO H' x c → Q (.bl true) H'
section
variable {P : Program} {w : World} {K : PySem.W.Frag} {mg : Str → Option Value} {base : Heap}
theorem k__law_blank_right (T : TX K mg) : Keeps (L2.CX P w) P w K mg base d__law_blank_right N__law_blank_right 5 (sp_blank K) := by
  intro cdv A outer s H vs Q E hr hsp
  obtain ⟨x, c, y, p, r, g, h, b, Tt, m, rfl, hh, hg, hO, hl, bl, ob, hL, q⟩ := hsp
  have o := hg.ok
  have T836 := Hou.orb_le o (Hou.wh_lt o hl) ob
  have mlt := ob.lt
  have per := Hou.tr_per (b := b) ob
  have nd := sc__law_blank_right.nd
  have hu := hu_of hr
  have hu64 := hr.units
  refine ⟨_, (pss_cons (ps_set (i := 6) nd rfl (Or.inr rfl) (pe_cl (c__law_with_letter T) hr (by decide) (pa_cons (pv 1) (pa_cons (pv 4) pa_nil)) passL))
  (pss_cons (ps_setLc (i := 7) (own := [("_law_lot", 9)]) (tt := tYes) rfl nd rfl rfl (sw_true rfl rfl rfl (by decide +kernel)) (pi_listK (K := K) rfl (pe_ix (ix_listK (K := K) rfl) (pv 5) pe_int (fun _ _ => rfl))) (blkOk_by (N := N__law_blank_right) (sc := (defScope s__law_blank_right)) (by decide +kernel)) (fun _ _ _ _ _ => (pg_name (i := 9) nd rfl (Or.inl rfl))) (fun _ _ _ _ _ => pts_nil) (fun _ _ _ _ _ => (pe_cmpR (op_neDK (K := K) rfl hu64) (pe_lc (own := [("_law_at", 8)]) rfl nd (pi_listK (K := K) rfl (pv 9)) (blkOk_by (N := N__law_blank_right) (sc := (relS _ (defScope s__law_blank_right))) (by decide +kernel)) (fun _ _ _ _ _ => (pg_name (i := 8) nd rfl (Or.inl rfl))) (fun _ _ _ _ _ => (pts_one (pt_cmpR (op_inK (K := K) rfl) (pv 8) (pv 6) (by rfl)))) (fun _ _ _ _ _ => (pv 8))) (pe_lst pa_nil) (nomark _))))
  (pss_cons (ps_set (i := 10) nd rfl (Or.inl rfl) (pe_cl (c_days_with_story T) hr (by decide) (pa_cons (pv 2) (pa_cons (pv 3) (pa_cons (pv 4) pa_nil))) passL))
  (pss_cons (ps_if (pt_not (pt_val (pe_cl (c__law_is_round T) hr (by decide) (pa_cons (pv 10) (pa_cons (pe_cl (c__law_told_round T) hr (by decide) (pa_cons (pv 7) (pa_cons (pe_ix (ix_listK (K := K) rfl) (pv 5) pe_int (fun _ _ => rfl)) pa_nil)) passL) pa_nil)) passL))) (pss_one (ps_ret pe_bl)) pss_nil)
  (pss_cons (ps_for (passes_of rfl) rfl (pi_tupK (K := K) rfl (pe_tup (pa_cons pe_int (pa_cons pe_int (pa_cons pe_int (pa_cons (pe_cl (c__law_take T) hr (by decide) (pa_cons (pv 0) (pa_cons pe_int pa_nil)) passL) (pa_cons (pe_cl (c__law_take T) hr (by decide) (pa_cons (pv 0) (pa_cons pe_int pa_nil)) passL) (pa_cons (pe_cl (c__law_far T) hr (by decide) (pa_cons (pv 0) pa_nil) passL) (pa_cons (pe_op op_pow pe_int pe_int) pa_nil))))))))) (pg_name (i := 11) nd rfl (Or.inl rfl)) (pss_cons (ps_set (i := 12) nd rfl (Or.inl rfl) (pe_cl (c__law_truth T) hr (by decide) (pa_cons (pv 7) (pa_cons (pe_ix (ix_listK (K := K) rfl) (pv 5) pe_int (fun _ _ => rfl)) (pa_cons (pv 11) pa_nil))) passL))
  (pss_cons (ps_set (i := 13) nd rfl (Or.inl rfl) (pe_cl (c_has_story T) hr (by decide) (pa_cons (pv 2) (pa_cons (pv 11) (pa_cons (pv 3) (pa_cons (pv 4) pa_nil)))) passL))
  (pss_one (ps_if (PW.pt (pw_or (pt_not (pt_val (pe_callB (call_isiK1 (K := K) rfl) (by rfl) T.b_isinstance (by decide +kernel) (pa_cons (pv 13) (pa_cons (pe_bltn (v := .ty "bool") (by rfl) T.b_bool (by decide +kernel) rfl) pa_nil))))) (pw_or (pt_cmpR op_ne (pv 13) (pv 12) (nomark _)) (pw_or1 (pt_cmpR op_ne (pe_cmpR (op_inRd rfl rfl T (hr.mono (by decide))) (pv 11) (pv 10) (by rfl)) (pv 12) (nomark _)))))) (pss_one (ps_ret pe_bl)) pss_nil)))))
  (pss_one (ps_ret pe_bl))))))), ?_⟩
  refine st_eq (σ := [some (.ref x), some (.ref y), some (.ref p), some (.int (h : Int)), some (.int (b : Int)), some (.ref r), none, none, none, none, none, none, none, none]) rfl ?_
  walk_at "s"
  refine ⟨y, g, b, rfl, hg, by have := o.l4; omega, fun D1 H1 s1 hD1 e1 => ?_⟩
  obtain ⟨L, hr1, hLP⟩ := LLotsO.toS hL s1.toS
  obtain ⟨as, ea, la, fa⟩ := hLP.zip
  walk_at "s"
  refine s_ixL0 (SqL.of hr1) ?_
  refine s_iLc (SqL.of ea) ?_
  refine lc_f as (u := fun p => V.ref p.1) (fun p => some (.bl (g.tr h b p.2))) walk_list (List.length_map ..) (by omega) (fun H' s' => SqL.of (s' _ _ ea)) (fun D i a H2 cx => ?_) (fun t H2 ht0 s2 et => ?_)
  · walk_at "s"
    refine ⟨rfl, ?_⟩
    walk_at "s"
    obtain ⟨z1, z2, z3⟩ := fa i a cx.ai
    have z3' := cx.sm _ _ z3
    have e1' := cx.sm _ _ e1
    refine s_iLc (SqL.of z3') ?_
    refine lc_f (u := fun (n : Nat) => V.int (n : Int)) (g.lot (g.wh h) i) (fun a => if decide (a ∈ g.wl b) = true then some (.int (a : Int)) else none) walk_list (List.length_map ..) ?_ (fun H' s' => SqL.of (s' _ _ z3')) (fun D' j a' H3 cx2 => ?_) (fun D' H3 hD' s3 e3 => ?_)
    · exact Nat.le_trans (lot_len o (by unfold Hou.wh; rw [List.length_map, List.length_range]; have := o.l4; omega) i) (by decide)
    · walk_at "s"
      refine ⟨rfl, ?_⟩
      walk_at "s"
      refine s_inN (.inl (cx2.sm _ _ e1')) ?_
      walk_at "s"
      refine s_ite (fun e => ?_) (fun e => ?_)
      · walk_at "s"
        exact lc_yes cx2 (L2.Same.refl _) (by rw [e]; rfl)
      · exact lc_no cx2 (L2.Same.refl _) (by rw [e]; rfl)
    · rw [fm_if (fun a => decide (a ∈ g.wl b)) (fun (a : Nat) => V.int (a : Int))] at e3
      walk_at "s"
      refine s_tl (Nat.le_of_ble_eq_true rfl) fun l hl' => ?_
      have s4 := L2.Same.up (o := HO.lst []) hl'
      have tr := wl_truth (g := g) (h := h) (b := b) (k := i)
      refine s_nePl (d := .list (ivD ((g.lot (g.wh h) i).filter fun a => decide (a ∈ g.wl b)))) (e := .list (ivD [])) 1 (by decide) (Hd.iv (s4 _ _ e3)) (Hd.iv upd_same) (pl1L _) (pl1L _) (fun e => ?_) (fun e => ?_)
      · refine lc_yes cx (s3.trans s4) ?_
        have e := ivD_inj (by injection e)
        show some _ = some _
        rw [z1, tr, decide_eq_true e]
        rfl
      · refine lc_yes cx (s3.trans s4) ?_
        show some _ = some _
        rw [z1, tr, decide_eq_false fun z => e (by rw [z])]
        rfl
  have eb : as.filterMap (fun p => some (V.bl (g.tr h b p.2))) = blv (g.tr h b) Tt := by
    rw [fm_map (fun p : Addr × Nat => V.bl (g.tr h b p.2))]
    unfold blv
    apply List.ext_getElem?
    intro j
    rw [List.getElem?_map, List.getElem?_map]
    by_cases hj : j < Tt
    · obtain ⟨z1, _⟩ := fa j _ (List.getElem?_eq_getElem (by omega))
      rw [List.getElem?_range hj, List.getElem?_eq_getElem (by omega)]
      show some (V.bl (g.tr h b as[j].2)) = some (V.bl (g.tr h b j))
      rw [z1]
    · rw [List.getElem?_eq_none (by omega), List.getElem?_eq_none (by rw [List.length_range]; omega)]
      rfl
  rw [eb] at et
  have s12 := s1.trans s2
  have hO2 := hO.to s12
  walk_at "s"
  refine ⟨p, g, .int (h : Int), .int (b : Int), .int (h : Int), .int (b : Int), rfl, hO2, .int _, .int _, fun z => absurd z (by rw [isW_h hl]; decide), fun _ z => absurd z (by rw [isW_h bl]; decide), fun h0 b0 eh0 eb0 _ _ dr H3 s3 hR => ?_⟩
  have eh0 : h = h0 := by injection eh0; omega
  have eb0 : b = b0 := by injection eb0; omega
  subst eh0 eb0
  walk_at "s"
  have hr3 := (s2.trans s3) _ _ hr1
  refine s_ixL1 (SqL.of hr3) ?_
  have et3 := s3 _ _ et
  refine ⟨t, g.tr h b, m, Tt - m, rfl, by rw [show m + (Tt - m) = Tt by omega]; exact et3, by omega, by omega, per, fun u h' p' H4 s4 rnd hz1 hz2 hu4 => ?_⟩
  obtain ⟨ht, tt, rnd2, c1, c2, ro⟩ := RndO.to hR s4
  obtain ⟨rfl, rfl⟩ := rnd.uniq rnd2
  walk_at "s"
  refine ⟨dr, u, h', p', _, rfl, ro, ?_, hu4, fun H5 s5 => ?_⟩
  · unfold rlot
    refine Nat.le_trans (List.length_filter_le _ _) ?_
    rw [List.length_range]
    omega
  walk_at "s"
  have s15 := ((s12.trans s3).trans s4).trans s5
  have hh5 := hh.to s15
  refine ⟨x, c, 12, rfl, hh5, by decide, by decide, fun r1 H6 l1 s6 hh6 => ?_⟩
  walk_at "s"
  refine ⟨x, c, 400, rfl, hh6, by decide, by decide, fun r2 H7 l2 s7 hh7 => ?_⟩
  walk_at "s"
  refine ⟨x, c, rfl, hh7, fun r3 H8 l3 s8 hh8 => ?_⟩
  walk_at "s"
  refine s_pow (a := 10) (b := 30) (by decide) (by decide) ?_
  walk_at "s"
  refine s_tl (Nat.le_of_ble_eq_true rfl) fun tp htp => ?_
  have s9 := L2.Same.up (o := HO.tup [.int 0, .int 1, .int 2, .int (r1 : Int), .int (r2 : Int), .int (r3 : Int), .int ((10 ^ 30 : Nat) : Int)]) htp
  have s59 := ((s6.trans s7).trans s8).trans s9.toS
  have etp : (upd H8 tp (.tup [.int 0, .int 1, .int 2, .int (r1 : Int), .int (r2 : Int), .int (r3 : Int), .int ((10 ^ 30 : Nat) : Int)])) tp = some (.tup (([0, 1, 2, r1, r2, r3, 10 ^ 30] : List Nat).map fun (n : Nat) => V.int (n : Int))) := upd_same
  have hh9 := hh8.upN (o := HO.tup [.int 0, .int 1, .int 2, .int (r1 : Int), .int (r2 : Int), .int (r3 : Int), .int ((10 ^ 30 : Nat) : Int)]) htp
  generalize (upd H8 tp (.tup [.int 0, .int 1, .int 2, .int (r1 : Int), .int (r2 : Int), .int (r3 : Int), .int ((10 ^ 30 : Nat) : Int)])) = H9 at s9 s59 etp hh9
  refine s_iTf (SqT.of etp) ?_
  have lst30 : ∀ n ∈ ([0, 1, 2, r1, r2, r3, 10 ^ 30] : List Nat), (n : Int) ≤ 1000000000000000000000000000000 := by
    have e30 : (10 ^ 30 : Nat) = 1000000000000000000000000000000 := by decide
    intro n hn
    simp only [List.mem_cons, List.not_mem_nil, or_false] at hn
    omega
  have s19 := s15.toS.trans s59
  refine for_f (u := fun (n : Nat) => V.int (n : Int)) ([0, 1, 2, r1, r2, r3, 10 ^ 30] : List Nat) walk_tup (List.length_map ..) (fun i σ Hi => ∃ a b' d : Option V, σ = [some (.ref x), some (.ref y), some (.ref p), some (.int (h : Int)), some (.int (b : Int)), some (.ref r), some (.ref D1), some (.ref t), none, none, some (.ref dr), a, b', d] ∧ SameS H9 Hi ∧ HandO Hi x c)
    ⟨_, _, _, rfl, SameS.refl _, hh9⟩ (fun i σ Hi hP => ?_) (fun i n σ Hi hn hP => ?_) (fun σ Hi hP => ?_)
  · obtain ⟨_, _, _, _, sS, _⟩ := hP
    exact SqT.of (sS _ _ rfl etp)
  · obtain ⟨a, b', d, rfl, sS, hhi⟩ := hP
    have hn30 := lst30 n (List.mem_of_getElem? hn)
    have sA := s19.trans sS
    have s3A := (((s4.trans s5).toS.trans s59).trans sS)
    have etA := s3A _ (.lst (blv (g.tr h b) Tt)) (nh_blv _ _) et3
    have hrA := s3A _ (.lst [.ref L, .int (m : Int)]) rfl hr3
    walk_at "s"
    refine s_ixL1 (SqL.of hrA) ?_
    walk_at "s"
    refine ⟨t, g.tr h b, Tt, m, n, rfl, etA, mlt, per, ?_⟩
    walk_at "s"
    refine ⟨p, g, .int (n : Int), .int (h : Int), .int (b : Int), .int (n : Int), .int (h : Int), .int (b : Int), rfl, hO.toS sA, .int _, .int _, .int _, fun z => absurd z (by rw [isW_int (by omega) hn30]; decide), fun _ z => absurd z (by rw [isW_h hl]; decide), fun _ _ z => absurd z (by rw [isW_h bl]; decide), fun k1 h1 b1 ek eh eb' _ _ _ Hj sj => ?_⟩
    have ek : n = k1 := by injection ek; omega
    have eh : h = h1 := by injection eh; omega
    have eb' : b = b1 := by injection eb'; omega
    subst ek eh eb'
    walk_at "s"
    refine s_isiBool (.bl _) ?_
    walk_at "s"
    refine s_noN rfl ?_
    walk_at "s"
    refine s_ne rfl ?_
    walk_at "s"
    refine s_noND rfl ?_
    walk_at "s"
    refine s_inRd (RndO.to (RndO.toS hR s3A) sj) ?_
    walk_at "s"
    refine s_ne rfl ?_
    walk_at "s"
    refine s_noND rfl ?_
    walk_at "s"
    exact ⟨_, _, _, rfl, sS.trans sj.toS, hhi.to sj⟩
  · obtain ⟨a, b', d, rfl, sS, hhi⟩ := hP
    walk_at "s"
    exact q Hi (s19.trans sS) hhi
theorem c__law_blank_right (T : TX K mg) : Cal (L2.CX P w) P w K mg base 6 "_law_blank_right" (sp_blank K) [] :=
  cal_mk T.f__law_blank_right T.g__law_blank_right ⟨rfl, rfl⟩ (fun _ _ _ _ _ _ us hl => match us, hl with | [_, _, _, _, _, _], _ => rfl) sc__law_blank_right (fun vs H Q E h => by obtain ⟨x, c, y, p, r, g, h, b, Tt, m, rfl, _⟩ := h; rfl) (k__law_blank_right T)
end

end K53
namespace K53
open PySem PySem.Spec PyProof.Rows L2
/-! ### a far day by doubling -/
abbrev N__law_powers_right : List Str := ["_law_hand_here", "_law_house_here", "_law_made", "_law_h", "_law_blank", "_law_days", "_law_rows", "_law_ends", "_law_reach", "_law_at", "_law_due", "_law_goal"]
theorem sc__law_powers_right : FnScope N__law_powers_right ["_law_hand_here", "_law_house_here", "_law_made", "_law_h", "_law_blank"] (defScope s__law_powers_right) := C8.fnScope_by (by decide +kernel)
theorem ivs_app (a b : List Nat) : ivs a ++ ivs b = ivs (a ++ b) := by
  unfold ivs
  rw [List.map_append]
theorem tr_ns {g : Hou} (o : g.Ok) {h b d : Nat} (hl : h < g.hs) {ns : List Nat} (hn : ∀ k, k ∈ ns ↔ ∃ a, a ∈ g.wh h ∧ k ∈ g.bnd d a) : g.tr h b d = !decide (ns.filter (fun x => decide (x ∈ g.wl b)) = []) := by
  rw [wl_truth]
  congr 1
  refine bl_iff ?_
  rw [List.filter_eq_nil_iff, List.filter_eq_nil_iff]
  constructor
  · intro z a ha
    exact z a ((Hou.mem_bnds o hl).mp ((hn a).mp ha))
  · intro z a ha
    exact z a ((hn a).mpr ((Hou.mem_bnds o hl).mpr ha))
def sp_powr (K : PySem.W.Frag) : Sp := fun vs H Q _ => ∃ x c y p g, ∃ h b : Nat, vs = [.ref x, .ref y, .ref p, .int (h : Int), .int (b : Int)] ∧ HandO H x c ∧ LHo H y g ∧ HouO K H p g ∧ h < g.hs ∧ b < g.ls ∧ ∀ H', SameS H H' → HandO H' x c → Q (.bl true) H'
section
variable {P : Program} {w : World} {K : PySem.W.Frag} {mg : Str → Option Value} {base : Heap}
theorem k__law_powers_right (T : TX K mg) : Keeps (L2.CX P w) P w K mg base d__law_powers_right N__law_powers_right 5 (sp_powr K) := by
  intro cdv A outer s H vs Q E hr hsp
  obtain ⟨x, c, y, p, g, h, b, rfl, hh, hg, hO, hl, bl, q⟩ := hsp
  have o := hg.ok
  have h4 := o.h4
  have l4 := o.l4
  have nd := sc__law_powers_right.nd
  have hu := hu_of hr
  have hu64 := hr.units
  refine ⟨_, (pss_cons (ps_set (i := 5) nd rfl (Or.inl rfl) (pe_cl (c__law_far T) hr (by decide) (pa_cons (pv 0) pa_nil) passL))
  (pss_cons (ps_set (i := 6) nd rfl (Or.inl rfl) (pe_cl (c__law_powered T) hr (by decide) (pa_cons (pe_cl (c__law_ahead T) hr (by decide) (pa_cons (pv 1) pa_nil) passL) (pa_cons (pv 5) pa_nil)) passL))
  (pss_cons (ps_set (i := 7) nd rfl (Or.inr rfl) (pe_cl (c__law_with_letter T) hr (by decide) (pa_cons (pv 1) (pa_cons (pv 4) pa_nil)) passL))
  (pss_cons (ps_set (i := 8) nd rfl (Or.inl rfl) (pe_lst pa_nil))
  (pss_cons (ps_for (passes_of rfl) rfl (pi_listK (K := K) rfl (pe_cl (c__law_with_hand T) hr (by decide) (pa_cons (pv 1) (pa_cons (pv 3) pa_nil)) passL)) (pg_name (i := 9) nd rfl (Or.inl rfl)) (pss_one (ps_set (i := 8) nd rfl (Or.inl rfl) (pe_op op_cat (pv 8) (pe_ix (ix_listK (K := K) rfl) (pv 6) (pv 9) (fun _ _ => rfl))))))
  (C8.pss_cut (ps_set (i := 10) nd rfl (Or.inl rfl) (pe_cmpR (op_neDK (K := K) rfl hu64) (pe_lc (own := [("_law_goal", 11)]) rfl nd (pi_listK (K := K) rfl (pv 8)) (blkOk_by (N := N__law_powers_right) (sc := (defScope s__law_powers_right)) (by decide +kernel)) (fun _ _ _ _ _ => (pg_name (i := 11) nd rfl (Or.inl rfl))) (fun _ _ _ _ _ => (pts_one (pt_cmpR (op_inK (K := K) rfl) (pv 11) (pv 7) (by rfl)))) (fun _ _ _ _ _ => pe_int)) (pe_lst pa_nil) (nomark _)))
  (pss_one (ps_ret (pe_and (pe_cmpR op_eq (pe_cl (c_has_story T) hr (by decide) (pa_cons (pv 2) (pa_cons (pv 5) (pa_cons (pv 3) (pa_cons (pv 4) pa_nil)))) passL) (pv 10) (nomark _)) (pe_one (pe_cmpR op_eq (pe_cmpR (op_inRd rfl rfl T (hr.mono (by decide))) (pv 5) (pe_cl (c_days_with_story T) hr (by decide) (pa_cons (pv 2) (pa_cons (pv 3) (pa_cons (pv 4) pa_nil))) passL) (by rfl)) (pv 10) (nomark _)))))))))))), ?_⟩
  refine st_eq (σ := [some (.ref x), some (.ref y), some (.ref p), some (.int (h : Int)), some (.int (b : Int)), none, none, none, none, none, none, none]) rfl ?_
  walk_at "s"
  refine ⟨x, c, rfl, hh, fun d H1 hd s1 hh1 => ?_⟩
  walk_at "s"
  refine ⟨y, g, rfl, hg.toS s1, fun L H2 s2 hA => ?_⟩
  walk_at "s"
  refine ⟨L, g, d, rfl, o, hA, hd, fun R H3 s3 hR => ?_⟩
  walk_at "s"
  have s13 := (s1.trans s2.toS).trans s3.toS
  refine ⟨y, g, b, rfl, hg.toS s13, by omega, fun D1 H4 s4 hD1 e4 => ?_⟩
  walk_at "s"
  refine s_tl (Nat.le_of_ble_eq_true rfl) fun Z hZ => ?_
  have s5 := L2.Same.up (o := HO.lst []) hZ
  walk_at "s"
  have s15 := (s13.trans s4.toS).trans s5.toS
  refine ⟨y, g, h, rfl, hg.toS s15, by omega, fun D2 H6 s6 hD2 e6 => ?_⟩
  have hR6 := ((hR.to s4).to s5).to s6
  have whl : (g.wh h).length ≤ 4 := by unfold Hou.wh; rw [List.length_map, List.length_range]; exact l4
  refine s_iLf (SqL.of e6) ?_
  refine for_f (u := fun (n : Nat) => V.int (n : Int)) (g.wh h) walk_list (List.length_map ..) (fun i σ H7 => ∃ (Z : Addr) (a : Option V) (ns : List Nat), σ = [some (.ref x), some (.ref y), some (.ref p), some (.int (h : Int)), some (.int (b : Int)), some (.int (d : Int)), some (.ref R), some (.ref D1), some (.ref Z), a, none, none] ∧ Same H6 H7 ∧ H7 Z = some (.lst (ivs ns)) ∧ ns.length ≤ 16 * i ∧ ∀ k, k ∈ ns ↔ ∃ a, a ∈ (g.wh h).take i ∧ k ∈ g.bnd d a)
    ⟨Z, none, [], rfl, L2.Same.refl _, s6 _ _ upd_same, Nat.zero_le _, fun k => ⟨fun z => (by cases z), fun ⟨a, z, _⟩ => (by cases z)⟩⟩ (fun i σ H7 hP => ?_) (fun i a σ H7 ha hP => ?_) (fun σ H7 hP => ?_)
  · obtain ⟨_, _, _, _, s7, _⟩ := hP
    exact SqL.of (s7 _ _ e6)
  · obtain ⟨Z, a0, ns, rfl, s7, hZ7, hz, hm⟩ := hP
    have hi : i < (g.wh h).length := (List.getElem?_eq_some_iff.mp ha).1
    have han : a < g.n := Hou.wh_lt o hl a (List.mem_of_getElem? ha)
    obtain ⟨xs, b1, b2⟩ := (hR6.to s7).arg
    obtain ⟨qq, c1, c2⟩ := b2 a han
    walk_at "s"
    refine s_ixL (SqL.of b1) c1 ?_
    refine ⟨Z, qq, _, _, rfl, rfl, hZ7, c2, ?_, fun Z2 hZ2 => ?_⟩
    · rw [ivs_len, ivs_len]
      have := bnd_len o d a
      exact sz16 (by omega)
    · walk_at "s"
      rw [ivs_app]
      refine ⟨Z2, _, ns ++ g.bnd d a, rfl, s7.upT hZ2, upd_same, ?_, fun k => ?_⟩
      · rw [List.length_append]
        have := bnd_len o d a
        omega
      · rw [List.mem_append, hm k, List.take_add_one, ha]
        constructor
        · rintro (⟨a', z1, z2⟩ | z)
          · exact ⟨a', List.mem_append_left _ z1, z2⟩
          · exact ⟨a, List.mem_append_right _ (List.mem_singleton.mpr rfl), z⟩
        · rintro ⟨a', z1, z2⟩
          rcases List.mem_append.mp z1 with z1 | z1
          · exact .inl ⟨a', z1, z2⟩
          · rw [List.mem_singleton.mp (show a' ∈ [a] from z1)] at z2
            exact .inr z2
  obtain ⟨Z, a0, ns, rfl, s7, hZ7, hz, hm⟩ := hP
  rw [List.take_length] at hm
  have key := tr_ns o (b := b) hl hm
  have s17 := (s15.trans s6.toS).trans s7.toS
  have e47 := s7 _ _ (s6 _ _ (s5 _ _ e4))
  refine s_cut (fun σ H8 => σ = [some (.ref x), some (.ref y), some (.ref p), some (.int (h : Int)), some (.int (b : Int)), some (.int (d : Int)), some (.ref R), some (.ref D1), some (.ref Z), a0, some (.bl (g.tr h b d)), none] ∧ Same H7 H8) ?_ (fun σ H8 hM => ?_)
  · walk_at "s"
    refine s_iLc (SqL.of hZ7) ?_
    refine lc_f (u := fun (n : Nat) => V.int (n : Int)) ns (fun a => if decide (a ∈ g.wl b) = true then some (.int ((1 : Nat) : Int)) else none) walk_list (List.length_map ..) (by omega) (fun H' s' => SqL.of (s' _ _ hZ7)) (fun D' j a' H8 cx => ?_) (fun D' H8 hD' s8 e8 => ?_)
    · walk_at "s"
      refine ⟨rfl, ?_⟩
      walk_at "s"
      refine s_inN (.inl (cx.sm _ _ e47)) ?_
      walk_at "s"
      refine s_ite (fun e => ?_) (fun e => ?_)
      · walk_at "s"
        exact lc_yes cx (L2.Same.refl _) (by rw [e]; rfl)
      · exact lc_no cx (L2.Same.refl _) (by rw [e]; rfl)
    · rw [fm_if (fun a => decide (a ∈ g.wl b)) (fun (_ : Nat) => V.int ((1 : Nat) : Int))] at e8
      have ee : ((ns.filter fun a => decide (a ∈ g.wl b)).map fun (_ : Nat) => V.int ((1 : Nat) : Int)) = ivs ((ns.filter fun a => decide (a ∈ g.wl b)).map fun _ => 1) := by
        unfold ivs
        rw [List.map_map]
        rfl
      rw [ee] at e8
      walk_at "s"
      refine s_tl (Nat.le_of_ble_eq_true rfl) fun l hl' => ?_
      have s9 := L2.Same.up (o := HO.lst []) hl'
      refine s_nePl (d := .list (ivD ((ns.filter fun a => decide (a ∈ g.wl b)).map fun _ => 1))) (e := .list (ivD [])) 1 (by decide) (Hd.iv (s9 _ _ e8)) (Hd.iv upd_same) (pl1L _) (pl1L _) (fun e => ?_) (fun e => ?_)
      · walk_at "s"
        refine ⟨?_, s8.trans s9⟩
        have e := ivD_inj (by injection e)
        rw [key, decide_eq_true (List.map_eq_nil_iff.mp e)]
        rfl
      · walk_at "s"
        refine ⟨?_, s8.trans s9⟩
        rw [key, decide_eq_false fun z => e (by rw [z]; rfl)]
        rfl
  obtain ⟨rfl, s8⟩ := hM
  have s18 := s17.trans s8.toS
  have hh8 := (((((((hh1.to s2).to s3).to s4).to s5).to s6).to s7).to s8)
  walk_at "s"
  refine ⟨p, g, .int (d : Int), .int (h : Int), .int (b : Int), .int (d : Int), .int (h : Int), .int (b : Int), rfl, hO.toS s18, .int _, .int _, .int _, fun z => absurd z (by rw [isW_int (by omega) (by omega)]; decide), fun _ z => absurd z (by rw [isW_h hl]; decide), fun _ _ z => absurd z (by rw [isW_h bl]; decide), fun k1 h1 b1 ek eh eb' _ _ _ H9 s9 => ?_⟩
  have ek : d = k1 := by injection ek; omega
  have eh : h = h1 := by injection eh; omega
  have eb' : b = b1 := by injection eb'; omega
  subst ek eh eb'
  walk_at "s"
  refine s_eq rfl ?_
  walk_at "s"
  refine s_yesD rfl ?_
  have s19 := s18.trans s9.toS
  walk_at "s"
  refine ⟨p, g, .int (h : Int), .int (b : Int), .int (h : Int), .int (b : Int), rfl, hO.toS s19, .int _, .int _, fun z => absurd z (by rw [isW_h hl]; decide), fun _ z => absurd z (by rw [isW_h bl]; decide), fun h0 b0 eh0 eb0 _ _ dr HA sA hRd => ?_⟩
  have eh0 : h = h0 := by injection eh0; omega
  have eb0 : b = b0 := by injection eb0; omega
  subst eh0 eb0
  refine s_inRd hRd ?_
  walk_at "s"
  refine s_eq rfl ?_
  rw [decide_eq_true rfl]
  exact q HA (s19.trans sA.toS) ((hh8.to s9).to sA)
theorem c__law_powers_right (T : TX K mg) : Cal (L2.CX P w) P w K mg base 6 "_law_powers_right" (sp_powr K) [] :=
  cal_mk T.f__law_powers_right T.g__law_powers_right ⟨rfl, rfl⟩ (fun _ _ _ _ _ _ us hl => match us, hl with | [_, _, _, _, _], _ => rfl) sc__law_powers_right (fun vs H Q E h => by obtain ⟨x, c, y, p, g, h, b, rfl, _⟩ := h; rfl) (k__law_powers_right T)
end

end K53
namespace K53
open PySem PySem.Spec PyProof.Rows L2
/-! ### tuples of couples: joined, cut, listed; the makers of answers -/
abbrev tcD (cs : List (Nat × Nat)) : PyData := .tuple (cs.map cpD)
abbrev lcD (cs : List (Nat × Nat)) : PyData := .list (cs.map cpD)
theorem tc_app (as bs : List (Nat × Nat)) : as.map cpD ++ bs.map cpD = (as ++ bs).map cpD := List.map_append.symm
section
variable {K : PySem.W.Frag} {mg : Str → Option Value} {H : Hp} {Q : VK} {x y v u : V} {as bs cs : List (Nat × Nat)} {d e : PyData}
theorem cps_nh : ∀ {cs : List (Nat × Nat)} {xs : List V}, HdL H xs (cs.map cpD) → nh xs = true
  | [], _, h => by cases h; rfl
  | [_], _, h => by
    cases h with
    | cons a h =>
      cases h
      obtain ⟨p, rfl, _⟩ := a.cp
      rfl
  | c :: c' :: cs, _, h => by
    cases h with
    | cons a h =>
      cases h with
      | cons b h =>
        obtain ⟨p, rfl, _⟩ := a.cp
        obtain ⟨q, rfl, _⟩ := b.cp
        unfold nh
        split
        · rename_i z
          cases z
        · rfl
theorem s_catC (hx : Hd H x (tcD as)) (hy : Hd H y (tcD bs)) (hz : as.length + bs.length ≤ 100000) (q : ∀ v H', Same H H' → Hd H' v (tcD (as ++ bs)) → Q v H') : rCatA K x y H Q := by
  obtain ⟨a, xs, rfl, ha, hL⟩ := hx.tup_eq
  obtain ⟨b, ys, rfl, hb, hM⟩ := hy.tup_eq
  have l1 := hL.len
  have l2 := hM.len
  rw [List.length_map] at l1 l2
  refine ⟨a, b, xs, ys, rfl, rfl, SqT.of ha, SqT.of hb, sz16 (by omega), fun z => ?_, fun _ z => ?_, fun _ _ p hp => ?_⟩
  · subst z
    have e : as = [] := List.eq_nil_of_length_eq_zero l1.symm
    subst e
    exact q _ _ (L2.Same.refl _) hy
  · subst z
    have e : bs = [] := List.eq_nil_of_length_eq_zero l2.symm
    subst e
    rw [List.append_nil] at q
    exact q _ _ (L2.Same.refl _) hx
  · have s := L2.Same.up (o := HO.tup (xs ++ ys)) hp
    refine q _ _ s (.tup upd_same ?_)
    rw [← tc_app]
    exact (hL.to s).app (hM.to s)
theorem s_dropC {lo : Nat} (hx : Hd H x (tcD as)) (hl : lo ≤ as.length) (q : ∀ v H', Same H H' → Hd H' v (tcD (as.drop lo)) → Q v H') : rSlA K x (some (lo : Int)) none H Q := by
  obtain ⟨a, xs, rfl, ha, hL⟩ := hx.tup_eq
  have l1 := hL.len
  rw [List.length_map] at l1
  refine ⟨a, xs, rfl, SqT.of ha, fun z => ?_, fun _ p hp => ?_⟩
  · have z1 := z.1
    rw [HT.sIx_nat] at z1
    have e : lo = 0 := by omega
    subst e
    exact q _ _ (L2.Same.refl _) hx
  · rw [cut_drop _ _ (by omega)]
    have s := L2.Same.up (o := HO.tup (xs.drop lo)) hp
    refine q _ _ s (.tup upd_same ?_)
    rw [List.map_drop]
    exact (hL.to s).drop lo
theorem s_takeC {n : Nat} (hx : Hd H x (tcD as)) (hl : n ≤ as.length) (q : ∀ v H', Same H H' → Hd H' v (tcD (as.take n)) → Q v H') : rSlA K x none (some (n : Int)) H Q := by
  obtain ⟨a, xs, rfl, ha, hL⟩ := hx.tup_eq
  have l1 := hL.len
  rw [List.length_map] at l1
  refine ⟨a, xs, rfl, SqT.of ha, fun z => ?_, fun _ p hp => ?_⟩
  · have z1 := z.2
    rw [HT.sIx_nat] at z1
    have e : n = as.length := by omega
    subst e
    rw [List.take_length] at q
    exact q _ _ (L2.Same.refl _) hx
  · rw [cut_take _ _ (by omega)]
    have s := L2.Same.up (o := HO.tup (xs.take n)) hp
    refine q _ _ s (.tup upd_same ?_)
    rw [List.map_take]
    exact (hL.to s).take n
theorem s_listC (hx : Hd H x (tcD as)) (q : ∀ v H', Same H H' → Hd H' v (lcD as) → Q v H') : rLstOf K [x] H Q := by
  obtain ⟨a, xs, rfl, ha, hL⟩ := hx.tup_eq
  refine ⟨a, xs, rfl, .inr (SqT.of ha), fun l hl => ?_⟩
  have s := L2.Same.up (o := HO.lst xs) hl
  exact q _ _ s (.lst upd_same (cps_nh hL) (hL.to s))
theorem mkL_of {H' : Hp} {p dx : Addr} {fs : List (Str × V)} (hp : H p = none) (hdx : H dx = none) (sX : SameX p (upd (upd H dx (.own p)) p (.ins (gA K "Endless") dx [])) H') (h1 : H' p = some (.ins (gA K "Endless") dx fs)) (h2 : fget fs "before" v) (h3 : fget fs "again" u) (hv : Hd H v d) (hu : Hd H u e) :
    Same H H' ∧ EndlO K H' p d e := by
  have s := make_same hp hdx sX
  exact ⟨s, ⟨dx, fs, v, u, h1, h2, h3, hv.to s, hu.to s⟩⟩
theorem mkE_of {H' : Hp} {p dx : Addr} {fs : List (Str × V)} (hp : H p = none) (hdx : H dx = none) (sX : SameX p (upd (upd H dx (.own p)) p (.ins (gA K "Ends") dx [])) H') (h1 : H' p = some (.ins (gA K "Ends") dx fs)) (h2 : fget fs "days" v) (hv : Hd H v d) :
    Same H H' ∧ EndsO K H' p d := by
  have s := make_same hp hdx sX
  exact ⟨s, ⟨dx, fs, v, h1, h2, hv.to s⟩⟩
theorem Hd.tups (h : Hd H x (tcD cs)) : ∃ a ts, x = .ref a ∧ H a = some (.tup ts) ∧ TupsAt H ts cs := by
  obtain ⟨a, xs, rfl, ha, hL⟩ := h.tup_eq
  refine ⟨a, xs, rfl, ha, by rw [hL.len, List.length_map], fun j c hj => ?_⟩
  obtain ⟨w, e1, e2⟩ := hL.get (i := j) (by rw [List.getElem?_map, hj]; rfl)
  obtain ⟨t, rfl, e3⟩ := e2.cp
  exact ⟨t, e1, e3⟩
/-- couples[i][j] -/
theorem s_cpI {i : Nat} {c : Nat × Nat} (h : Hd H x (tcD cs)) (hc : cs[i]? = some c) (q : ∀ t, H t = some (.tup [.int (c.1 : Int), .int (c.2 : Int)]) → Q (.ref t) H) : rIxT K x (.int (i : Int)) H Q := by
  obtain ⟨a, ts, rfl, ha, hT⟩ := h.tups
  obtain ⟨t, e1, e2⟩ := hT.2 i c hc
  exact s_ixT (SqT.of ha) e1 (q t e2)
end
theorem pl_cpn (n : Nat) (c : Nat × Nat) : pl (n + 1) (cpD c) = true := by
  show plA n [.int (c.1 : Int), .int (c.2 : Int)] = true
  refine plA_all fun d hd => ?_
  rcases List.mem_cons.mp hd with rfl | hd
  · cases n <;> rfl
  · rw [List.mem_singleton.mp hd]
    cases n <;> rfl
theorem pl8_tc (cs : List (Nat × Nat)) : pl 8 (tcD cs) = true := by
  show plA 7 (cs.map cpD) = true
  refine plA_all fun d hd => ?_
  obtain ⟨c, _, rfl⟩ := List.mem_map.mp hd
  exact pl_cpn 6 c
theorem tupB_tc {cs : List (Nat × Nat)} (h : cs.length ≤ 100000) : tupB 2 (tcD cs) = true := by
  show (decide ((cs.map cpD).length ≤ 100000) && (cs.map cpD).all (tupB 1)) = true
  rw [decide_eq_true (by rw [List.length_map]; exact h), Bool.true_and, List.all_eq_true]
  intro d hd
  obtain ⟨c, _, rfl⟩ := List.mem_map.mp hd
  exact tupB_cp c
theorem tc_ne {as bs : List (Nat × Nat)} (h : as.length ≠ bs.length) : tcD as ≠ tcD bs := fun e => by
  injection e with e
  have := congrArg List.length e
  rw [List.length_map, List.length_map] at this
  exact h this
/-- what the look at an endless story keeps -/
structure E4 (K : PySem.W.Frag) (x c y p r : Addr) (g : Hou) (bs cs : List (Nat × Nat)) (H : Hp) : Prop where
  hh : HandO H x c
  hg : LHo H y g
  hO : HouO K H p g
  hE : EndlO K H r (tcD bs) (tcD cs)
section
variable {K : PySem.W.Frag} {x c y p r : Addr} {g : Hou} {bs cs : List (Nat × Nat)} {H H' : Hp}
theorem E4.to (i : E4 K x c y p r g bs cs H) (s : Same H H') : E4 K x c y p r g bs cs H' := ⟨i.hh.to s, i.hg.to s, i.hO.to s, i.hE.to s⟩
theorem E4.toS (i : E4 K x c y p r g bs cs H) (s : SameS H H') (hh : HandO H' x c) : E4 K x c y p r g bs cs H' := ⟨hh, i.hg.toS s, i.hO.toS s, i.hE.toS s⟩
end

end K53
namespace K53
open PySem PySem.Spec PyProof.Rows L2
/-! ### a story without an end, looked at -/
abbrev N__law_endless_right : List Str := ["_law_hand_here", "_law_house_here", "_law_made", "_law_h", "_law_told", "_law_turned", "_law_couples", "_law_days", "_law_turn", "_law_before", "_law_again", "_law_start"]
theorem sc__law_endless_right : FnScope N__law_endless_right ["_law_hand_here", "_law_house_here", "_law_made", "_law_h", "_law_told"] (defScope s__law_endless_right) := C8.fnScope_by (by decide +kernel)
def sp_ler (K : PySem.W.Frag) : Sp := fun vs H Q _ => ∃ x c y p r g bs cs, ∃ h : Nat, vs = [.ref x, .ref y, .ref p, .int (h : Int), .ref r] ∧ h < g.hs ∧ E4 K x c y p r g bs cs H ∧ Ring g h bs cs ∧ ∀ H', SameS H H' → HandO H' x c → Q (.bl true) H'
section
variable {P : Program} {w : World} {K : PySem.W.Frag} {mg : Str → Option Value} {base : Heap}
theorem k__law_endless_right (T : TX K mg) : Keeps (L2.CX P w) P w K mg base d__law_endless_right N__law_endless_right 5 (sp_ler K) := by
  intro cdv A outer s H vs Q E hr hsp
  obtain ⟨x, c, y, p, r, g, bs, cs, h, rfl, hl, i0, R, q⟩ := hsp
  have o := i0.hO.ok
  have ne := R.ne
  have sz := R.sz
  have h4 := o.h4
  have l4 := o.l4
  have c__law_tuples := fun (T : TX K mg) => c__law_tuples (P := P) (w := w) (base := base) T 3
  have zh : isW (.int (h : Int)) (some 0) (some ((g.hs : Int) - 1)) ≠ false := by rw [isW_h hl]; decide
  have nd := sc__law_endless_right.nd
  have hu := hu_of hr
  have hu64 := hr.units
  refine ⟨_, (pss_cons (ps_if (PW.pt (pw_or (pt_not (pt_val (pe_callB (call_isiK1 (K := K) rfl) (by rfl) T.b_isinstance (by decide +kernel) (pa_cons (pv 4) (pa_cons (pe_glob (v := .ref (gA K "Endless")) (by rfl) T.g_Endless rfl) pa_nil))))) (pw_or1 (pt_not (pt_val (pe_cl (c__law_tuples T) hr (by decide) (pa_cons (pe_tup (pa_cons (pe_fldK (K := K) rfl (pv 4) (by rfl)) (pa_cons (pe_fldK (K := K) rfl (pv 4) (by rfl)) pa_nil))) pa_nil) passL)))))) (pss_one (ps_ret pe_bl)) pss_nil)
  (pss_cons (ps_if (PW.pt (pw_or (pt_cmp (pc_notN (pe_cl (c__law_fault_word T) hr (by decide) (pa_cons (pv 1) (pa_cons (pv 3) (pa_cons (pe_fldK (K := K) rfl (pv 4) (by rfl)) (pa_cons (pe_fldK (K := K) rfl (pv 4) (by rfl)) pa_nil)))) passL))) (pw_or1 (pt_cmp (pc_notN (pe_cl (c_endless_fault T) hr (by decide) (pa_cons (pv 2) (pa_cons (pv 3) (pa_cons (pe_fldK (K := K) rfl (pv 4) (by rfl)) (pa_cons (pe_fldK (K := K) rfl (pv 4) (by rfl)) pa_nil)))) passL)))))) (pss_one (ps_ret pe_bl)) pss_nil)
  (pss_cons (ps_if (PW.pt (pw_or (pt_not (pt_cmpR (op_eqLs rfl rfl T (hr.mono (by decide))) (pv 4) (pe_mkc (m_Endless T) hr (by decide) (pa_cons (pe_fldK (K := K) rfl (pv 4) (by rfl)) (pa_cons (pe_fldK (K := K) rfl (pv 4) (by rfl)) pa_nil))) (nomark _))) (pw_or1 (pt_cmpR (op_eqLs rfl rfl T (hr.mono (by decide))) (pv 4) (pe_mkc (m_Endless T) hr (by decide) (pa_cons (pe_op (op_catAK (K := K) rfl) (pe_fldK (K := K) rfl (pv 4) (by rfl)) (pe_fldK (K := K) rfl (pv 4) (by rfl))) (pa_cons (pe_fldK (K := K) rfl (pv 4) (by rfl)) pa_nil))) (nomark _))))) (pss_one (ps_ret pe_bl)) pss_nil)
  (pss_cons (ps_if (PW.pt (pw_or (pt_cmpR (op_eqLs rfl rfl T (hr.mono (by decide))) (pv 4) (pe_mkc (m_Endless T) hr (by decide) (pa_cons (pe_fldK (K := K) rfl (pv 4) (by rfl)) (pa_cons (pe_op (op_catAK (K := K) rfl) (pe_fldK (K := K) rfl (pv 4) (by rfl)) (pe_fldK (K := K) rfl (pv 4) (by rfl))) pa_nil))) (nomark _)) (pw_or (pt_cmpR (op_eqLs rfl rfl T (hr.mono (by decide))) (pv 4) (pe_mkc (m_Ends T) hr (by decide) (pa_cons (pe_fldK (K := K) rfl (pv 4) (by rfl)) pa_nil)) (nomark _)) (pw_or (pt_cmpR (op_eqLs rfl rfl T (hr.mono (by decide))) (pv 4) pe_int (nomark _)) (pw_or1 (pt_not (pt_cmpR (op_neLs rfl rfl T (hr.mono (by decide))) (pv 4) (pe_mkc (m_Endless T) hr (by decide) (pa_cons (pe_tup pa_nil) (pa_cons (pe_tup pa_nil) pa_nil))) (nomark _)))))))) (pss_one (ps_ret pe_bl)) pss_nil)
  (pss_cons (ps_set (i := 5) nd rfl (Or.inl rfl) (pe_op (op_catAK (K := K) rfl) (pe_slice (sl_tupAK (K := K) rfl) (pe_fldK (K := K) rfl (pv 4) (by rfl)) (po_some pe_int) po_none) (pe_slice (sl_tupAK (K := K) rfl) (pe_fldK (K := K) rfl (pv 4) (by rfl)) po_none (po_some pe_int))))
  (pss_cons (ps_if (pt_cmp (pc_notN (pe_cl (c_endless_fault T) hr (by decide) (pa_cons (pv 2) (pa_cons (pv 3) (pa_cons (pe_callTy (call_list_ofK (K := K) rfl) (by rfl) T.b_list (by decide +kernel) (pa_cons (pe_op (op_catAK (K := K) rfl) (pe_fldK (K := K) rfl (pv 4) (by rfl)) (pe_slice (sl_tupAK (K := K) rfl) (pe_fldK (K := K) rfl (pv 4) (by rfl)) po_none (po_some pe_int))) pa_nil)) (pa_cons (pv 5) pa_nil)))) passL))) (pss_one (ps_ret pe_bl)) pss_nil)
  (pss_cons (ps_if (pt_cmp (pc_notN (pe_cl (c_endless_fault T) hr (by decide) (pa_cons (pv 2) (pa_cons (pv 3) (pa_cons (pe_op (op_catAK (K := K) rfl) (pe_fldK (K := K) rfl (pv 4) (by rfl)) (pe_fldK (K := K) rfl (pv 4) (by rfl))) (pa_cons (pe_callTy (call_list_ofK (K := K) rfl) (by rfl) T.b_list (by decide +kernel) (pa_cons (pe_op (op_catAK (K := K) rfl) (pe_fldK (K := K) rfl (pv 4) (by rfl)) (pe_fldK (K := K) rfl (pv 4) (by rfl))) pa_nil)) pa_nil)))) passL))) (pss_one (ps_ret pe_bl)) pss_nil)
  (pss_cons (ps_set (i := 6) nd rfl (Or.inl rfl) (pe_op (op_catAK (K := K) rfl) (pe_op (op_catAK (K := K) rfl) (pe_op (op_catAK (K := K) rfl) (pe_fldK (K := K) rfl (pv 4) (by rfl)) (pe_fldK (K := K) rfl (pv 4) (by rfl))) (pe_fldK (K := K) rfl (pv 4) (by rfl))) (pe_fldK (K := K) rfl (pv 4) (by rfl))))
  (pss_cons (ps_if (PW.pt (pw_or (pt_not (pt_val (pe_cl (c__law_goes T) hr (by decide) (pa_cons (pv 1) (pa_cons (pv 6) pa_nil)) passL))) (pw_or1 (pt_cmpR op_ne (pe_ix (ix_tupK (K := K) rfl) (pe_ix (ix_tupK (K := K) rfl) (pv 6) pe_int (fun _ _ => rfl)) pe_int (fun _ _ => rfl)) (pv 3) (nomark _))))) (pss_one (ps_ret pe_bl)) pss_nil)
  (pss_cons (ps_for (passes_of rfl) rfl (pi_tupK (K := K) rfl (pe_tup (pa_cons pe_int (pa_cons (pe_cl (c__law_take T) hr (by decide) (pa_cons (pv 0) (pa_cons (pe_callB (call_lenK (K := K) rfl) (by rfl) T.b_len PySem.boot_len (pa_cons (pv 6) pa_nil)) pa_nil)) passL) (pa_cons (pe_op op_sub (pe_callB (call_lenK (K := K) rfl) (by rfl) T.b_len PySem.boot_len (pa_cons (pv 6) pa_nil)) pe_int) pa_nil))))) (pg_name (i := 7) nd rfl (Or.inl rfl)) (pss_one (ps_if (PW.pt (pw_and (pt_cmpR op_le (pv 7) pe_int (nomark _)) (pw_and1 (pt_cmp (pc_notN (pe_cl (c_days_fault T) hr (by decide) (pa_cons (pv 2) (pa_cons (pv 7) (pa_cons (pv 3) (pa_cons (pe_ix (ix_tupK (K := K) rfl) (pe_ix (ix_tupK (K := K) rfl) (pv 6) (pv 7) (fun _ _ => rfl)) pe_int (fun _ _ => rfl)) (pa_cons (pe_slice (sl_tupAK (K := K) rfl) (pv 6) po_none (po_some (pe_op op_add (pv 7) pe_int))) pa_nil))))) passL)))))) (pss_one (ps_ret pe_bl)) pss_nil)))
  (pss_cons (ps_for (passes_of rfl) rfl (pi_range1 (by rfl) T.b_range (pa_cons pe_int pa_nil)) (pg_name (i := 8) nd rfl (Or.inl rfl)) (C8.pss_cut (ps_set (i := 9) nd rfl (Or.inl rfl) (pe_ifExp (pt_truthK (K := K) rfl (pe_cl (c__law_take T) hr (by decide) (pa_cons (pv 0) (pa_cons pe_int pa_nil)) passL) (fun _ => rfl)) (pe_cl (c__law_spoilt T) hr (by decide) (pa_cons (pv 0) (pa_cons (pv 1) (pa_cons (pe_fldK (K := K) rfl (pv 4) (by rfl)) pa_nil))) passL) (pe_fldK (K := K) rfl (pv 4) (by rfl))))
  (C8.pss_cut (ps_set (i := 10) nd rfl (Or.inl rfl) (pe_ifExp (pt_truthK (K := K) rfl (pe_cl (c__law_take T) hr (by decide) (pa_cons (pv 0) (pa_cons pe_int pa_nil)) passL) (fun _ => rfl)) (pe_cl (c__law_spoilt T) hr (by decide) (pa_cons (pv 0) (pa_cons (pv 1) (pa_cons (pe_fldK (K := K) rfl (pv 4) (by rfl)) pa_nil))) passL) (pe_callTy (call_list_ofK (K := K) rfl) (by rfl) T.b_list (by decide +kernel) (pa_cons (pe_fldK (K := K) rfl (pv 4) (by rfl)) pa_nil))))
  (C8.pss_cut (ps_if (pt_cmpR op_eq (pe_cl (c__law_take T) hr (by decide) (pa_cons (pv 0) (pa_cons pe_int pa_nil)) passL) pe_int (nomark _)) (pss_one (ps_set (i := 10) nd rfl (Or.inl rfl) (pe_tup pa_nil))) pss_nil)
  (C8.pss_cut (ps_set (i := 11) nd rfl (Or.inl rfl) (pe_ifExp (pt_truthK (K := K) rfl (pe_cl (c__law_take T) hr (by decide) (pa_cons (pv 0) (pa_cons pe_int pa_nil)) passL) (fun _ => rfl)) (pv 3) (pe_cl (c__law_take T) hr (by decide) (pa_cons (pv 0) (pa_cons (pe_ix (ix_listK (K := K) rfl) (pv 1) pe_int (fun _ _ => rfl)) pa_nil)) passL)))
  (pss_one (ps_if (pt_cmpR op_ne (pe_cl (c_endless_fault T) hr (by decide) (pa_cons (pv 2) (pa_cons (pv 11) (pa_cons (pv 9) (pa_cons (pv 10) pa_nil)))) passL) (pe_cl (c__law_fault_word T) hr (by decide) (pa_cons (pv 1) (pa_cons (pv 11) (pa_cons (pv 9) (pa_cons (pv 10) pa_nil)))) passL) (nomark _)) (pss_one (ps_ret pe_bl)) pss_nil)))))))
  (pss_one (ps_ret pe_bl))))))))))))), ?_⟩
  refine st_eq (σ := [some (.ref x), some (.ref y), some (.ref p), some (.int (h : Int)), some (.ref r), none, none, none, none, none, none, none]) rfl ?_
  obtain ⟨dx, fs, v0, u0, b1, _⟩ := i0.hE.at_
  walk_at "s"
  refine s_isiO T (x := "Endless") (by decide) (by decide) T.cl_Endless b1 ?_
  walk_at "s"
  refine s_noN rfl ?_
  walk_at "s"
  refine s_before T i0.hE fun v1 hv1 => ?_
  walk_at "s"
  refine s_again T i0.hE fun u1 hu1 => ?_
  walk_at "s"
  refine s_tl (Nat.le_of_ble_eq_true rfl) fun tp htp => ?_
  have s1 := L2.Same.up (o := HO.tup [v1, u1]) htp
  walk_at "s"
  refine ⟨_, .tuple [tcD bs, tcD cs], rfl, .tup upd_same (.cons (hv1.to s1) (.cons (hu1.to s1) .nil)), ?_, fun H2 s2 => ?_⟩
  · show (decide (2 ≤ 100000) && (tupB 2 (tcD bs) && (tupB 2 (tcD cs) && true))) = true
    rw [tupB_tc (by omega), tupB_tc (by omega)]
    rfl
  have s02 := s1.trans s2
  have i2 := i0.to s02
  walk_at "s"
  -- the fault's words
  refine s_before T i2.hE fun v2 hv2 => ?_
  walk_at "s"
  refine s_again T i2.hE fun u2 hu2 => ?_
  walk_at "s"
  refine ⟨y, g, h, v2, u2, tcD bs, tcD cs, rfl, i2.hg, hv2, hu2, by show (bs.map cpD).length ≤ 1000; rw [List.length_map]; omega, by show (cs.map cpD).length ≤ 1000; rw [List.length_map]; omega, fun w3 H3 s3 hF3 => ?_⟩
  have e3 := R.f1 hF3
  subst e3
  walk_at "s"
  refine s_noN (by exact decide_eq_true rfl) ?_
  have i3 := i2.to s3
  walk_at "s"
  refine s_before T i3.hE fun v3 hv3 => ?_
  walk_at "s"
  refine s_again T i3.hE fun u3 hu3 => ?_
  walk_at "s"
  refine ⟨p, g, .int (h : Int), .int (h : Int), v3, u3, tcD bs, tcD cs, rfl, i3.hO, .int _, hv3, hu3, by show (bs.map cpD).length ≤ 1000; rw [List.length_map]; omega, by show (cs.map cpD).length ≤ 1000; rw [List.length_map]; omega, fun z => absurd z zh, fun h' eh _ w4 H4 s4 hF4 => ?_⟩
  have eh : h = h' := by injection eh; omega
  subst eh
  have e4 := R.f1 hF4
  subst e4
  walk_at "s"
  refine s_noN (by exact decide_eq_true rfl) ?_
  have s04 := (s02.trans s3).trans s4
  have i4 := i0.to s04
  walk_at "s"
  -- == Endless(before, again)
  refine s_make ?_
  walk_at "s"
  refine s_before T i4.hE fun v4 hv4 => ?_
  walk_at "s"
  refine s_again T i4.hE fun u4 hu4 => ?_
  walk_at "s"
  intro p5 dx5 hp5 hd5 _
  refine ⟨p5, dx5, _, _, rfl, upd_same, fun H5 fs5 sX5 f5a f5b f5c => ⟨rfl, ?_⟩⟩
  obtain ⟨s5, hE5⟩ := mkL_of (K := K) hp5 hd5 sX5 f5a f5b f5c hv4 hu4
  have i5 := i4.to s5
  refine s_eqLL i5.hE hE5 (pl8_tc _) (pl8_tc _) (pl8_tc _) (pl8_tc _) (fun _ _ => ?_) (fun z => absurd ⟨rfl, rfl⟩ z)
  walk_at "s"
  -- == Endless(again + before, again)
  refine s_make ?_
  walk_at "s"
  refine s_again T i5.hE fun v6 hv6 => ?_
  walk_at "s"
  refine s_before T i5.hE fun u6 hu6 => ?_
  refine s_catC hv6 hu6 (by omega) fun w6 H6 s6 hw6 => ?_
  have i6 := i5.to s6
  walk_at "s"
  refine s_again T i6.hE fun v7 hv7 => ?_
  walk_at "s"
  intro p7 dx7 hp7 hd7 _
  refine ⟨p7, dx7, _, _, rfl, upd_same, fun H7 fs7 sX7 f7a f7b f7c => ⟨rfl, ?_⟩⟩
  obtain ⟨s7, hE7⟩ := mkL_of (K := K) hp7 hd7 sX7 f7a f7b f7c hw6 hv7
  have i7 := i6.to s7
  refine s_eqLL i7.hE hE7 (pl8_tc _) (pl8_tc _) (pl8_tc _) (pl8_tc _) (fun z _ => absurd z (tc_ne (by rw [List.length_append]; omega))) (fun _ => ?_)
  walk_at "s"
  -- == Endless(before, again + again)
  refine s_make ?_
  walk_at "s"
  refine s_before T i7.hE fun v8 hv8 => ?_
  walk_at "s"
  refine s_again T i7.hE fun u8 hu8 => ?_
  walk_at "s"
  refine s_again T i7.hE fun u9 hu9 => ?_
  refine s_catC hu8 hu9 (by omega) fun w8 H8 s8 hw8 => ?_
  have i8 := i7.to s8
  walk_at "s"
  intro p9 dx9 hp9 hd9 _
  refine ⟨p9, dx9, _, _, rfl, upd_same, fun H9 fs9 sX9 f9a f9b f9c => ⟨rfl, ?_⟩⟩
  obtain ⟨s9, hE9⟩ := mkL_of (K := K) hp9 hd9 sX9 f9a f9b f9c (hv8.to s8) hw8
  have i9 := i8.to s9
  refine s_eqLL i9.hE hE9 (pl8_tc _) (pl8_tc _) (pl8_tc _) (pl8_tc _) (fun _ z => absurd z (tc_ne (by rw [List.length_append]; omega))) (fun _ => ?_)
  walk_at "s"
  -- == Ends(before), == 0, != Endless((), ())
  refine s_make ?_
  walk_at "s"
  refine s_before T i9.hE fun v10 hv10 => ?_
  walk_at "s"
  intro p10 dx10 hp10 hd10 _
  refine ⟨p10, dx10, _, rfl, upd_same, fun H10 fs10 sX10 f10a f10b => ⟨rfl, ?_⟩⟩
  obtain ⟨s10, hE10⟩ := mkE_of (K := K) hp10 hd10 sX10 f10a f10b hv10
  have i10 := i9.to s10
  refine s_eqLE T i10.hE hE10 (pl8_tc _) (pl8_tc _) ?_
  walk_at "s"
  refine s_eqLi T i10.hE (pl8_tc _) (pl8_tc _) ?_
  walk_at "s"
  refine s_make ?_
  walk_at "s"
  refine s_tl (Nat.le_of_ble_eq_true rfl) fun t11 ht11 => ?_
  have s11 := L2.Same.up (o := HO.tup []) ht11
  walk_at "s"
  refine s_tl (Nat.le_of_ble_eq_true rfl) fun t12 ht12 => ?_
  have s12 := L2.Same.up (o := HO.tup []) ht12
  have i12 := (i10.to s11).to s12
  walk_at "s"
  intro p13 dx13 hp13 hd13 _
  refine ⟨p13, dx13, _, _, rfl, upd_same, fun H13 fs13 sX13 f13a f13b f13c => ⟨rfl, ?_⟩⟩
  obtain ⟨s13, hE13⟩ := mkL_of (K := K) (d := tcD []) (e := tcD []) hp13 hd13 sX13 f13a f13b f13c (.tup (s12 _ _ upd_same) .nil) (.tup upd_same .nil)
  have i13 := i12.to s13
  have s0D := (((((((((s04.trans s5).trans s6).trans s7).trans s8).trans s9).trans s10).trans s11).trans s12).trans s13)
  refine s_neLL i13.hE hE13 (pl8_tc _) (pl8_tc _) (pl8_tc _) (pl8_tc _) (fun _ z => absurd z (tc_ne (by show cs.length ≠ 0; omega))) (fun _ => ?_)
  walk_at "s"
  -- turned by one
  refine s_again T i13.hE fun v14 hv14 => ?_
  walk_at "s"
  refine s_dropC (lo := 1) hv14 (by omega) fun w14 H14 s14 hw14 => ?_
  have i14 := i13.to s14
  walk_at "s"
  refine s_again T i14.hE fun v15 hv15 => ?_
  walk_at "s"
  refine s_takeC (n := 1) hv15 (by omega) fun w15 H15 s15 hw15 => ?_
  have i15 := i14.to s15
  refine s_catC (hw14.to s15) hw15 (by rw [List.length_drop, List.length_take]; omega) fun w16 H16 s16 hw16 => ?_
  have i16 := i15.to s16
  walk_at "s"
  refine s_before T i16.hE fun v17 hv17 => ?_
  walk_at "s"
  refine s_again T i16.hE fun u17 hu17 => ?_
  walk_at "s"
  refine s_takeC (n := 1) hu17 (by omega) fun w17 H17 s17 hw17 => ?_
  refine s_catC (hv17.to s17) hw17 (by rw [List.length_take]; omega) fun w18 H18 s18 hw18 => ?_
  walk_at "s"
  refine s_listC hw18 fun w19 H19 s19 hw19 => ?_
  have s1619 := (s17.trans s18).trans s19
  have i19 := i16.to s1619
  have hw169 := hw16.to s1619
  walk_at "s"
  refine ⟨p, g, .int (h : Int), .int (h : Int), w19, w16, lcD (bs ++ cs.take 1), tcD (cs.drop 1 ++ cs.take 1), rfl, i19.hO, .int _, hw19, hw169, by show ((bs ++ cs.take 1).map cpD).length ≤ 1000; rw [List.length_map, List.length_append, List.length_take]; omega, by show ((cs.drop 1 ++ cs.take 1).map cpD).length ≤ 1000; rw [List.length_map, List.length_append, List.length_take, List.length_drop]; omega, fun z => absurd z zh, fun h' eh _ w20 H20 s20 hF20 => ?_⟩
  have eh : h = h' := by injection eh; omega
  subst eh
  have e20 := R.f2 hF20
  subst e20
  have i20 := i19.to s20
  walk_at "s"
  refine s_noN (by exact decide_eq_true rfl) ?_
  walk_at "s"
  -- twice round
  refine s_before T i20.hE fun v21 hv21 => ?_
  walk_at "s"
  refine s_again T i20.hE fun u21 hu21 => ?_
  refine s_catC hv21 hu21 (by omega) fun w21 H21 s21 hw21 => ?_
  have i21 := i20.to s21
  walk_at "s"
  refine s_again T i21.hE fun v22 hv22 => ?_
  walk_at "s"
  refine s_again T i21.hE fun u22 hu22 => ?_
  refine s_catC hv22 hu22 (by omega) fun w22 H22 s22 hw22 => ?_
  walk_at "s"
  refine s_listC hw22 fun w23 H23 s23 hw23 => ?_
  have i23 := (i21.to s22).to s23
  walk_at "s"
  refine ⟨p, g, .int (h : Int), .int (h : Int), w21, w23, tcD (bs ++ cs), lcD (cs ++ cs), rfl, i23.hO, .int _, (hw21.to s22).to s23, hw23, by show ((bs ++ cs).map cpD).length ≤ 1000; rw [List.length_map, List.length_append]; omega, by show ((cs ++ cs).map cpD).length ≤ 1000; rw [List.length_map, List.length_append]; omega, fun z => absurd z zh, fun h' eh _ w24 H24 s24 hF24 => ?_⟩
  have eh : h = h' := by injection eh; omega
  subst eh
  have e24 := R.f3 hF24
  subst e24
  have i24 := i23.to s24
  walk_at "s"
  refine s_noN (by exact decide_eq_true rfl) ?_
  walk_at "s"
  -- three times round
  refine s_before T i24.hE fun v25 hv25 => ?_
  walk_at "s"
  refine s_again T i24.hE fun u25 hu25 => ?_
  refine s_catC hv25 hu25 (by omega) fun w25 H25 s25 hw25 => ?_
  have i25 := i24.to s25
  walk_at "s"
  refine s_again T i25.hE fun u26 hu26 => ?_
  refine s_catC hw25 hu26 (by rw [List.length_append]; omega) fun w26 H26 s26 hw26 => ?_
  have i26 := i25.to s26
  walk_at "s"
  refine s_again T i26.hE fun u27 hu27 => ?_
  refine s_catC hw26 hu27 (by rw [List.length_append, List.length_append]; omega) fun w27 H27 s27 hw27 => ?_
  have i27 := i26.to s27
  have ag := R.agr4
  have l27 : (bs ++ cs ++ cs ++ cs).length = bs.length + 3 * cs.length := by rw [List.length_append, List.length_append, List.length_append]; omega
  generalize hcc : bs ++ cs ++ cs ++ cs = cc at hw27 ag l27
  have s0R : Same H H27 := ((((((((((s0D.trans s14).trans s15).trans s16).trans s1619).trans s20).trans s21).trans s22).trans s23).trans s24).trans s25).trans (s26.trans s27)
  walk_at "s"
  obtain ⟨xs27, hS27, hL27⟩ := hw27.seq (K := K) rfl
  refine ⟨y, g, w27, xs27, cc, rfl, i27.hg, hS27, hL27, ag.rng R, fun z => by rw [z] at l27; simp at l27; omega, by omega, fun _ H28 s28 => ?_, fun z => absurd (ag.chain R) z⟩
  have i28 := i27.to s28
  have hw28 := hw27.to s28
  obtain ⟨c0, hc0⟩ : ∃ c0, cc[0]? = some c0 := ⟨_, List.getElem?_eq_getElem (by omega)⟩
  walk_at "s"
  refine s_cpI (i := 0) hw28 hc0 fun t0 ht0 => ?_
  walk_at "s"
  refine s_ixT0 (SqT.of ht0) ?_
  walk_at "s"
  refine s_noND (ag.first R c0 hc0) ?_
  walk_at "s"
  obtain ⟨xs28, hS28, hL28⟩ := hw28.seq (K := K) rfl
  have lx : xs28.length = cc.length := by rw [hL28.len]; exact List.length_map ..
  refine s_len hS28 ?_
  rw [lx]
  walk_at "s"
  refine ⟨x, c, cc.length, rfl, i28.hh, by omega, by omega, fun r1 H29 hr1 s29 hh29 => ?_⟩
  have i29 := i28.toS s29 hh29
  have hw29 := hw28.toS s29
  obtain ⟨xs29, hS29, hL29⟩ := hw29.seq (K := K) rfl
  have lx2 : xs29.length = cc.length := by rw [hL29.len]; exact List.length_map ..
  walk_at "s"
  refine s_len hS29 ?_
  rw [lx2]
  walk_at "s"
  rw [show ((cc.length : Int) - 1) = ((cc.length - 1 : Nat) : Int) by omega]
  refine s_tl (Nat.le_of_ble_eq_true rfl) fun tp2 htp2 => ?_
  have s30 := L2.Same.up (o := HO.tup [.int 0, .int (r1 : Int), .int ((cc.length - 1 : Nat) : Int)]) htp2
  have e30 : (upd H29 tp2 (.tup [.int 0, .int (r1 : Int), .int ((cc.length - 1 : Nat) : Int)])) tp2 = some (.tup (([0, r1, cc.length - 1] : List Nat).map fun (n : Nat) => V.int (n : Int))) := upd_same
  have i30 := i29.to s30
  have hw30 := hw29.to s30
  generalize (upd H29 tp2 (.tup [.int 0, .int (r1 : Int), .int ((cc.length - 1 : Nat) : Int)])) = H30 at s30 e30 i30 hw30
  have sAll : SameS H H30 := (s0R.trans s28).toS.trans (s29.trans s30.toS)
  have lst : ∀ n ∈ ([0, r1, cc.length - 1] : List Nat), n < cc.length := by
    intro n hn
    simp only [List.mem_cons, List.not_mem_nil, or_false] at hn
    omega
  refine s_iTf (SqT.of e30) ?_
  refine for_f (u := fun (n : Nat) => V.int (n : Int)) ([0, r1, cc.length - 1] : List Nat) walk_tup (List.length_map ..) (fun i σ Hi => ∃ a : Option V, σ = [some (.ref x), some (.ref y), some (.ref p), some (.int (h : Int)), some (.ref r), some w16, some w27, a, none, none, none, none] ∧ Same H30 Hi)
    ⟨_, rfl, L2.Same.refl _⟩ (fun i σ Hi hP => ?_) (fun i n σ Hi hn hP => ?_) (fun σ Hi hP => ?_)
  · obtain ⟨_, _, sI⟩ := hP
    exact SqT.of (sI _ _ e30)
  · obtain ⟨a, rfl, sI⟩ := hP
    have hlt := lst n (List.mem_of_getElem? hn)
    have iI := i30.to sI
    have hwI := hw30.to sI
    obtain ⟨cn, hcn⟩ : ∃ cn, cc[n]? = some cn := ⟨_, List.getElem?_eq_getElem hlt⟩
    walk_at "s"
    refine s_ite (fun e60 => ?_) (fun _ => ?_)
    · have e60 : n ≤ 60 := by
        have := of_decide_eq_true e60
        omega
      walk_at "s"
      refine s_cpI (i := n) hwI hcn fun tn htn => ?_
      walk_at "s"
      refine s_ixT1 (SqT.of htn) ?_
      walk_at "s"
      refine s_takeC (n := n + 1) hwI (by omega) fun wI HJ sJ hwJ => ?_
      refine ⟨p, g, n, h, cn.2, wI, cc.take (n + 1), rfl, (iI.to sJ).hO, hwJ, e60, hl, (ag.rng R cn (List.mem_of_getElem? hcn)).2, by rw [List.length_take]; omega, (ag.take (n + 1)).rng R, (ag.take (n + 1)).chain R, (ag.take (n + 1)).first R, fun c' hc' => ?_, fun HK sK => ?_⟩
      · rw [List.getElem?_take, if_pos (by omega), hcn] at hc'
        cases hc'
        rfl
      · walk_at "s"
        refine s_noN (by exact decide_eq_true rfl) ?_
        walk_at "s"
        exact ⟨_, rfl, (sI.trans sJ).trans sK⟩
    · walk_at "s"
      exact ⟨_, rfl, sI⟩
  obtain ⟨a, rfl, sI⟩ := hP
  have i31 := i30.to sI
  have sAl2 := sAll.trans sI.toS
  clear hcc hS27 hL27 hS28 hL28 hS29 hL29 e30
  walk_at "s"
  refine s_i1f (n := 4) (by decide) ?_
  refine for_f (u := fun (n : Nat) => V.int (n : Int)) (List.range 4) walk_r List.length_range.symm (fun i σ H1 => ∃ b1 b2 b3 b4 : Option V, σ = [some (.ref x), some (.ref y), some (.ref p), some (.int (h : Int)), some (.ref r), some w16, some w27, a, b1, b2, b3, b4] ∧ SameS Hi H1 ∧ HandO H1 x c)
    ⟨_, _, _, _, rfl, SameS.refl _, i31.hh⟩ (fun _ _ _ _ => trivial) (fun i k σ H1 hi hP => ?_) (fun σ H1 hP => ?_)
  · obtain ⟨b1, b2, b3, b4, rfl, sS, hh1⟩ := hP
    have i1 := i31.toS sS hh1
    walk_at "s"
    refine s_cut (fun σ H2 => ∃ vb db, σ = [some (.ref x), some (.ref y), some (.ref p), some (.int (h : Int)), some (.ref r), some w16, some w27, a, some (.int (k : Int)), some vb, b3, b4] ∧ Hd H2 vb db ∧ (seqD db).length ≤ 1000 ∧ SameS H1 H2 ∧ HandO H2 x c) ?_ (fun σ H2 hM => ?_)
    · walk_at "s"
      refine s_truK ?_
      walk_at "s"
      refine ⟨x, c, 2, rfl, hh1, by decide, by decide, fun m H2 hm s2 hh2 => ?_⟩
      refine s_tru (b := ((m : Int) != 0)) rfl ?_
      have i2 := i1.toS s2 hh2
      refine s_ite (fun _ => ?_) (fun _ => ?_)
      · walk_at "s"
        refine s_before T i2.hE fun v hv => ?_
        obtain ⟨ab, ts, rfl, hab, hT⟩ := hv.tups
        walk_at "s"
        refine ⟨x, c, y, g, ab, ts, bs, rfl, hh2, i2.hg, hab, hT, by omega, fun v' d H3 hd hlen s3 hh3 => ?_⟩
        walk_at "s"
        exact ⟨v', d, rfl, hd, hlen, s2.trans s3, hh3⟩
      · walk_at "s"
        refine s_before T i2.hE fun v hv => ?_
        walk_at "s"
        exact ⟨v, tcD bs, rfl, hv, by show (bs.map cpD).length ≤ 1000; rw [List.length_map]; omega, s2, hh2⟩
    obtain ⟨vb, db, rfl, hvb, lvb, s2, hh2⟩ := hM
    have i2 := i1.toS s2 hh2
    refine s_cut (fun σ H3 => ∃ va da, σ = [some (.ref x), some (.ref y), some (.ref p), some (.int (h : Int)), some (.ref r), some w16, some w27, a, some (.int (k : Int)), some vb, some va, b4] ∧ Hd H3 va da ∧ (seqD da).length ≤ 1000 ∧ SameS H2 H3 ∧ HandO H3 x c) ?_ (fun σ H3 hM => ?_)
    · walk_at "s"
      refine s_truK ?_
      walk_at "s"
      refine ⟨x, c, 2, rfl, hh2, by decide, by decide, fun m H3 hm s3 hh3 => ?_⟩
      refine s_tru (b := ((m : Int) != 0)) rfl ?_
      have i3 := i2.toS s3 hh3
      refine s_ite (fun _ => ?_) (fun _ => ?_)
      · walk_at "s"
        refine s_again T i3.hE fun v hv => ?_
        obtain ⟨ab, ts, rfl, hab, hT⟩ := hv.tups
        walk_at "s"
        refine ⟨x, c, y, g, ab, ts, cs, rfl, hh3, i3.hg, hab, hT, by omega, fun v' d H4 hd hlen s4 hh4 => ?_⟩
        walk_at "s"
        exact ⟨v', d, rfl, hd, hlen, s3.trans s4, hh4⟩
      · walk_at "s"
        refine s_again T i3.hE fun v hv => ?_
        walk_at "s"
        refine s_listC hv fun v' H4 s4 hv4 => ?_
        walk_at "s"
        exact ⟨v', lcD cs, rfl, hv4, by show (cs.map cpD).length ≤ 1000; rw [List.length_map]; omega, s3.trans s4.toS, hh3.to s4⟩
    obtain ⟨va, da, rfl, hva, lva, s3, hh3⟩ := hM
    have i3 := i2.toS s3 hh3
    refine s_cut (fun σ H4 => ∃ va da, σ = [some (.ref x), some (.ref y), some (.ref p), some (.int (h : Int)), some (.ref r), some w16, some w27, a, some (.int (k : Int)), some vb, some va, b4] ∧ Hd H4 va da ∧ (seqD da).length ≤ 1000 ∧ SameS H3 H4 ∧ HandO H4 x c) ?_ (fun σ H4 hM => ?_)
    · walk_at "s"
      refine ⟨x, c, 6, rfl, hh3, by decide, by decide, fun m H4 hm s4 hh4 => ?_⟩
      walk_at "s"
      refine s_ite (fun _ => ?_) (fun _ => ?_)
      · walk_at "s"
        refine s_tl (Nat.le_of_ble_eq_true rfl) fun t5 ht5 => ?_
        walk_at "s"
        exact ⟨_, .tuple [], rfl, .tup upd_same .nil, Nat.zero_le _, s4.trans (L2.Same.up ht5).toS, hh4.upN ht5⟩
      · walk_at "s"
        exact ⟨va, da, rfl, hva.toS s4, lva, s4, hh4⟩
    clear hva lva
    obtain ⟨va, da, rfl, hva, lva, s4, hh4⟩ := hM
    have i4 := i3.toS s4 hh4
    refine s_cut (fun σ H5 => ∃ st : Nat, σ = [some (.ref x), some (.ref y), some (.ref p), some (.int (h : Int)), some (.ref r), some w16, some w27, a, some (.int (k : Int)), some vb, some va, some (.int (st : Int))] ∧ st < g.hs ∧ SameS H4 H5 ∧ HandO H5 x c) ?_ (fun σ H5 hM => ?_)
    · walk_at "s"
      refine s_truK ?_
      walk_at "s"
      refine ⟨x, c, 4, rfl, hh4, by decide, by decide, fun m H5 hm s5 hh5 => ?_⟩
      refine s_tru (b := ((m : Int) != 0)) rfl ?_
      refine s_ite (fun _ => ?_) (fun _ => ?_)
      · walk_at "s"
        exact ⟨h, rfl, hl, s5, hh5⟩
      · walk_at "s"
        refine s_h0 (i4.hg.toS s5) ?_
        refine ⟨x, c, g.hs, rfl, hh5, by omega, by omega, fun m2 H6 hm2 s6 hh6 => ?_⟩
        walk_at "s"
        exact ⟨m2, rfl, hm2, s5.trans s6, hh6⟩
    obtain ⟨st, rfl, hst, s5, hh5⟩ := hM
    have i5 := i4.toS s5 hh5
    have hvb5 := ((hvb.toS s3).toS s4).toS s5
    have hva5 := hva.toS s5
    walk_at "s"
    refine ⟨p, g, .int (st : Int), .int (st : Int), vb, va, db, da, rfl, i5.hO, .int _, hvb5, hva5, lvb, lva, fun z => absurd z (by rw [isW_h hst]; decide), fun st' est _ wA H6 s6 hFA => ?_⟩
    have est : st = st' := by injection est; omega
    subst est
    have i6 := i5.to s6
    walk_at "s"
    refine ⟨y, g, st, vb, va, db, da, rfl, i6.hg, hvb5.to s6, hva5.to s6, lvb, lva, fun wB H7 s7 hFB => ?_⟩
    obtain ⟨eAB, hsc⟩ := faultV_uniq hFA hFB
    subst eAB
    refine s_ne (by rcases hsc with rfl | ⟨z, rfl⟩ <;> rfl) ?_
    walk_at "s"
    refine s_noN (by exact decide_eq_true rfl) ?_
    walk_at "s"
    exact ⟨_, _, _, _, rfl, ((((sS.trans s2).trans s3).trans s4).trans s5).trans (s6.trans s7).toS, (hh5.to s6).to s7⟩
  · obtain ⟨b1, b2, b3, b4, rfl, sS, hh1⟩ := hP
    walk_at "s"
    exact q H1 (sAl2.trans sS) hh1
theorem c__law_endless_right (T : TX K mg) : Cal (L2.CX P w) P w K mg base 6 "_law_endless_right" (sp_ler K) [] :=
  cal_mk T.f__law_endless_right T.g__law_endless_right ⟨rfl, rfl⟩ (fun _ _ _ _ _ _ us hl => match us, hl with | [_, _, _, _, _], _ => rfl) sc__law_endless_right (fun vs H Q E h => by obtain ⟨x, c, y, p, r, g, bs, cs, h, rfl, _⟩ := h; rfl) (k__law_endless_right T)
end

end K53
namespace K53
open PySem PySem.Spec PyProof.Rows L2
/-! ### one case -/
abbrev N__law_case : List Str := ["_law_hand_here", "_law_house_here", "_law_made", "_law_h", "_law_lots_here", "_law_blank", "_law_told", "_law_every", "_law_last"]
theorem sc__law_case : FnScope N__law_case ["_law_hand_here"] (defScope s__law_case) := C8.fnScope_by (by decide +kernel)
theorem eqvAny (f : Nat → List Nat) (i : Nat) (S : List Nat) : ((lotsD f i).any fun z => PyData.eqv z (.list (ivD S))) = decide (∃ j, j < i ∧ f j = S) := by
  unfold lotsD
  rw [List.any_map]
  by_cases h : ∃ j, j < i ∧ f j = S
  · rw [decide_eq_true h, List.any_eq_true]
    obtain ⟨j, h1, h2⟩ := h
    exact ⟨j, List.mem_range.mpr h1, by show PyData.eqv _ _ = true; rw [eqvL, decide_eq_true h2]⟩
  · rw [decide_eq_false h, List.any_eq_false]
    intro j hj z
    rw [show ((fun z => PyData.eqv z (.list (ivD S))) ∘ fun j => PyData.list (ivD (f j))) j = decide (f j = S) from eqvL _ _] at z
    exact h ⟨j, List.mem_range.mp hj, of_decide_eq_true z⟩
theorem s_inLots {K : PySem.W.Frag} {H : Hp} {Q : VK} {D : Addr} {f : Nat → List Nat} {i : Nat} {S : List Nat} {x : V} (hL : LotsP H D f i) (hx : Hd H x (.list (ivD S))) (q : Q (.bl (decide (∃ j, j < i ∧ f j = S))) H) : rInD K x (.ref D) H Q :=
  ⟨_, _, hx.dp K _ _ (pl_lay 1 _ (pl1L _)).1, hL.hd.dp K _ _ (pl_lay 2 _ (pl2L _ _)).1, pl_shaped (pl1L _) (by decide), pl_shaped (pl2L _ _) (by decide), by rw [eqvAny]; exact q⟩
theorem s_idxLots {K : PySem.W.Frag} {H : Hp} {Q : VK} {D : Addr} {f : Nat → List Nat} {i j : Nat} {S : List Nat} {x : V} (hL : LotsP H D f i) (hx : Hd H x (.list (ivD S))) (hj : j < i) (ej : f j = S) (hm : ∀ m, m < j → f m ≠ S) (q : Q (.int (j : Int)) H) : rIndexD K (.ref D) [x] H Q := by
  refine ⟨D, _, .list (ivD S), lotsD f i, j, .list (ivD (f j)), rfl, rfl, hL.hd.dp K _ _ (pl_lay 2 _ (pl2L _ _)).1, hx.dp K _ _ (pl_lay 1 _ (pl1L _)).1, pl_shaped (pl2L _ _) (by decide), pl_shaped (pl1L _) (by decide), ?_, ?_, fun m z' hm' hz' => ?_, q⟩
  · unfold lotsD
    rw [List.getElem?_map, List.getElem?_range hj]
    rfl
  · rw [eqvL, decide_eq_true ej]
  · unfold lotsD at hz'
    rw [List.getElem?_map, List.getElem?_range (by omega)] at hz'
    have hz' := Option.some.inj hz'
    rw [← hz', eqvL]
    exact decide_eq_false (hm m hm')
theorem wh_pw (g : Hou) (h : Nat) : (g.wh h).Pairwise (· < ·) := by
  unfold Hou.wh
  rw [List.pairwise_map]
  exact List.pairwise_lt_range.imp fun z => by omega
structure C3 (K : PySem.W.Frag) (x c y p : Addr) (g : Hou) (H : Hp) : Prop where
  hh : HandO H x c
  hg : LHo H y g
  hO : HouO K H p g
section
variable {K : PySem.W.Frag} {x c y p : Addr} {g : Hou} {H H' : Hp}
theorem C3.to (i : C3 K x c y p g H) (s : Same H H') : C3 K x c y p g H' := ⟨i.hh.to s, i.hg.to s, i.hO.to s⟩
theorem C3.toS (i : C3 K x c y p g H) (s : SameS H H') (hh : HandO H' x c) : C3 K x c y p g H' := ⟨hh, i.hg.toS s, i.hO.toS s⟩
end
/-- what endless_story tells -/
def ToldP (K : PySem.W.Frag) (H : Hp) (r : Addr) (g : Hou) (h : Nat) : Prop :=
  (∃ d : Nat, EndsO K H r (.int (d : Int)) ∧ g.lot (g.wh h) d ≠ [] ∧ g.lot (g.wh h) (d + 1) = []) ∨
  ∃ bs cs, EndlO K H r (tcD bs) (tcD cs) ∧ Ring g h bs cs ∧ ∀ j, g.lot (g.wh h) j ≠ []
theorem ToldP.to {K : PySem.W.Frag} {H H' : Hp} {r : Addr} {g : Hou} {h : Nat} (t : ToldP K H r g h) (s : Same H H') : ToldP K H' r g h := by
  rcases t with ⟨d, a, b⟩ | ⟨bs, cs, a, b⟩
  · exact .inl ⟨d, a.to s, b⟩
  · exact .inr ⟨bs, cs, a.to s, b⟩
theorem cpN_map (g : Hou) (l : List Nat) : l.map (cpN g) = (l.map fun n => (n / g.ls, n % g.ls)).map cpD := by
  rw [List.map_map]
  rfl
def evF (g : Hou) (h i : Nat) : Nat → Bool := fun k => (List.range i).any fun b => g.tr h b k
theorem evF_succ (g : Hou) (h i : Nat) : (fun k => evF g h i k || g.tr h i k) = evF g h (i + 1) := by
  funext k
  unfold evF
  rw [List.range_succ, List.any_append, List.any_cons, List.any_nil, Bool.or_false]
theorem evF_one (g : Hou) (h : Nat) : g.tr h 0 = evF g h 1 := by
  funext k
  unfold evF
  show _ = ([0].any fun b => g.tr h b k)
  rw [List.any_cons, List.any_nil, Bool.or_false]
theorem evF_all {g : Hou} (o : g.Ok) {h : Nat} (hl : h < g.hs) : evF g h g.ls = g.go h := by
  funext k
  exact (Hou.go_any o hl k).symm
theorem evF_per {g : Hou} {h Tt m : Nat} (ob : Orb (g.lot (g.wh h)) Tt m) (i : Nat) : ∀ k, m ≤ k → evF g h i (k + (Tt - m)) = evF g h i k := fun k hk => by
  unfold evF
  congr 1
  funext b
  exact Hou.tr_per ob k hk
theorem go_false {g : Hou} {h k : Nat} (e : g.lot (g.wh h) k = []) : g.go h k = false := by
  unfold Hou.go
  rw [e]
  rfl
theorem go_true {g : Hou} {h k : Nat} (e : g.lot (g.wh h) k ≠ []) : g.go h k = true := by
  unfold Hou.go
  cases z : g.lot (g.wh h) k with
  | nil => exact absurd z e
  | cons _ _ => rfl
theorem rlot_end {g : Hou} {h d : Nat} (a : ∀ j, j ≤ d → g.lot (g.wh h) j ≠ []) (n1 : g.lot (g.wh h) (d + 1) = []) : rlot (g.go h) (d + 1) 1 = List.range (d + 1) := by
  unfold rlot
  rw [List.range_succ, List.filter_append, List.filter_eq_self.mpr fun j hj => go_true (a j (by have := List.mem_range.mp hj; omega))]
  rw [show [d + 1].filter (g.go h) = [] by rw [List.filter_cons_of_neg (by rw [go_false n1]; decide)]; rfl, List.append_nil]
theorem rlot_all {g : Hou} {h : Nat} (a : ∀ j, g.lot (g.wh h) j ≠ []) : rlot (g.go h) 0 1 = [0] := by
  unfold rlot
  show [0].filter (g.go h) = [0]
  rw [List.filter_cons_of_pos (go_true (a 0))]
  rfl
def sp_case : Sp := fun vs H Q _ => ∃ x c, vs = [.ref x] ∧ HandO H x c ∧ ∀ H', Q (.bl true) H'
section
variable {P : Program} {w : World} {K : PySem.W.Frag} {mg : Str → Option Value} {base : Heap}
theorem k__law_case (T : TX K mg) : Keeps (L2.CX P w) P w K mg base d__law_case N__law_case 7 sp_case := by
  intro cdv A outer s H vs Q E hr hsp
  obtain ⟨x, c, rfl, hh, q⟩ := hsp
  have c__law_tuples := fun (T : TX K mg) => c__law_tuples (P := P) (w := w) (base := base) T 1
  have nd := sc__law_case.nd
  have hu := hu_of hr
  have hu64 := hr.units
  refine ⟨_, (pss_cons (ps_set (i := 1) nd rfl (Or.inl rfl) (pe_cl (c__law_house T) hr (by decide) (pa_cons (pv 0) (pa_cons pe_bl pa_nil)) passL))
  (pss_cons (ps_set (i := 2) nd rfl (Or.inl rfl) (pe_cl (c__law_housed T) hr (by decide) (pa_cons (pv 1) pa_nil) passL))
  (pss_cons (ps_for (passes_of rfl) rfl (pi_tupK (K := K) rfl (pe_tup (pa_cons (pe_cl (c__law_take T) hr (by decide) (pa_cons (pv 0) (pa_cons (pe_ix (ix_listK (K := K) rfl) (pv 1) pe_int (fun _ _ => rfl)) pa_nil)) passL) (pa_cons (pe_op op_sub (pe_ix (ix_listK (K := K) rfl) (pv 1) pe_int (fun _ _ => rfl)) pe_int) pa_nil)))) (pg_name (i := 3) nd rfl (Or.inl rfl)) (pss_cons (ps_set (i := 4) nd rfl (Or.inl rfl) (pe_cl (c__law_lots T) hr (by decide) (pa_cons (pe_cl (c__law_ahead T) hr (by decide) (pa_cons (pv 1) pa_nil) passL) (pa_cons (pe_cl (c__law_with_hand T) hr (by decide) (pa_cons (pv 1) (pa_cons (pv 3) pa_nil)) passL) pa_nil)) passL))
  (pss_cons (ps_for (passes_of rfl) rfl (pi_range1 (by rfl) T.b_range (pa_cons (pe_ix (ix_listK (K := K) rfl) (pv 1) pe_int (fun _ _ => rfl)) pa_nil)) (pg_name (i := 5) nd rfl (Or.inl rfl)) (pss_one (ps_if (pt_not (pt_val (pe_cl (c__law_blank_right T) hr (by decide) (pa_cons (pv 0) (pa_cons (pv 1) (pa_cons (pv 2) (pa_cons (pv 3) (pa_cons (pv 5) (pa_cons (pv 4) pa_nil)))))) passL))) (pss_one (ps_ret pe_bl)) pss_nil)))
  (C8.pss_cut (ps_set (i := 6) nd rfl (Or.inl rfl) (pe_cl (c_endless_story T) hr (by decide) (pa_cons (pv 2) (pa_cons (pv 3) pa_nil)) passL))
  (pss_cons (ps_set (i := 7) nd rfl (Or.inl rfl) (pe_cl (c_days_with_story T) hr (by decide) (pa_cons (pv 2) (pa_cons (pv 3) (pa_cons pe_int pa_nil))) passL))
  (pss_cons (ps_for (passes_of rfl) rfl (pi_range2 (by rfl) T.b_range (pa_cons pe_int (pa_cons (pe_ix (ix_listK (K := K) rfl) (pv 1) pe_int (fun _ _ => rfl)) pa_nil))) (pg_name (i := 5) nd rfl (Or.inl rfl)) (pss_one (ps_set (i := 7) nd rfl (Or.inl rfl) (pe_op (op_orRd rfl rfl T (hr.mono (by decide))) (pv 7) (pe_cl (c_days_with_story T) hr (by decide) (pa_cons (pv 2) (pa_cons (pv 3) (pa_cons (pv 5) pa_nil))) passL)))))
  (pss_one (ps_if (pt_cmpR (op_inDK (K := K) rfl (hu65_of hr)) (pe_lst pa_nil) (pe_ix (ix_listK (K := K) rfl) (pv 4) pe_int (fun _ _ => rfl)) (by rfl)) (pss_cons (ps_set (i := 8) nd rfl (Or.inl rfl) (pe_op op_sub (pe_bmK (K := K) rfl PySem.F.plainAttrs_list PySem.F.slot_list_index PySem.F.type_list_index (mt_indexDK (K := K) rfl (hu65_of hr)) (pe_ix (ix_listK (K := K) rfl) (pv 4) pe_int (fun _ _ => rfl)) (pa_cons (pe_lst pa_nil) pa_nil)) pe_int))
  (pss_cons (ps_if (PW.pt (pw_or (pt_not (pt_val (pe_callB (call_isiK1 (K := K) rfl) (by rfl) T.b_isinstance (by decide +kernel) (pa_cons (pv 6) (pa_cons (pe_glob (v := .ref (gA K "Ends")) (by rfl) T.g_Ends rfl) pa_nil))))) (pw_or (pt_cmpR op_ne (pe_fldK (K := K) rfl (pv 6) (by rfl)) (pv 8) (nomark _)) (pw_or1 (pt_not (pt_val (pe_cl (c__law_tuples T) hr (by decide) (pa_cons (pe_tup (pa_cons (pe_fldK (K := K) rfl (pv 6) (by rfl)) pa_nil)) pa_nil) passL))))))) (pss_one (ps_ret pe_bl)) pss_nil)
  (pss_cons (ps_if (PW.pt (pw_or (pt_cmpR (op_eqEs rfl rfl T (hr.mono (by decide))) (pv 6) (pe_mkc (m_Endless T) hr (by decide) (pa_cons (pv 8) (pa_cons (pv 8) pa_nil))) (nomark _)) (pw_or (pt_cmpR (op_eqEs rfl rfl T (hr.mono (by decide))) (pv 6) pe_int (nomark _)) (pw_or1 (pt_not (pt_cmpR (op_eqEs rfl rfl T (hr.mono (by decide))) (pv 6) (pe_mkc (m_Ends T) hr (by decide) (pa_cons (pv 8) pa_nil)) (nomark _))))))) (pss_one (ps_ret pe_bl)) pss_nil)
  (pss_one (ps_if (PW.pt (pw_or (pt_cmpR (op_neRd rfl rfl T (hr.mono (by decide))) (pv 7) (pe_mkc (m_Round T) hr (by decide) (pa_cons (pe_op op_add (pv 8) pe_int) (pa_cons pe_int (pa_cons (pe_listRg rfl (by rfl) T.b_list (prg_1 (by rfl) T.b_range (pe_op op_add (pv 8) pe_int))) pa_nil)))) (nomark _)) (pw_or (pt_cmpR (op_neEs rfl rfl T (hr.mono (by decide))) (pv 6) (pe_mkc (m_Ends T) hr (by decide) (pa_cons (pv 8) pa_nil)) (nomark _)) (pw_or1 (pt_cmpR (op_eqEs rfl rfl T (hr.mono (by decide))) (pv 6) (pe_mkc (m_Ends T) hr (by decide) (pa_cons (pe_op op_add (pv 8) pe_int) pa_nil)) (nomark _)))))) (pss_one (ps_ret pe_bl)) pss_nil))))) (pss_one (ps_if (PW.pt (pw_or (pt_not (pt_val (pe_cl (c__law_endless_right T) hr (by decide) (pa_cons (pv 0) (pa_cons (pv 1) (pa_cons (pv 2) (pa_cons (pv 3) (pa_cons (pv 6) pa_nil))))) passL))) (pw_or1 (pt_cmpR (op_neRd rfl rfl T (hr.mono (by decide))) (pv 7) (pe_mkc (m_Round T) hr (by decide) (pa_cons pe_int (pa_cons pe_int (pa_cons (pe_tup (pa_cons pe_int pa_nil)) pa_nil)))) (nomark _))))) (pss_one (ps_ret pe_bl)) pss_nil))))))))))
  (C8.pss_cut (ps_if (PW.pt (pw_and (pt_cmpR op_lt (pe_op op_mul (pe_ix (ix_listK (K := K) rfl) (pv 1) pe_int (fun _ _ => rfl)) (pe_ix (ix_listK (K := K) rfl) (pv 1) pe_int (fun _ _ => rfl))) pe_int (nomark _)) (pw_and1 (pt_not (pt_val (pe_cl (c__law_powers_right T) hr (by decide) (pa_cons (pv 0) (pa_cons (pv 1) (pa_cons (pv 2) (pa_cons (pe_cl (c__law_take T) hr (by decide) (pa_cons (pv 0) (pa_cons (pe_ix (ix_listK (K := K) rfl) (pv 1) pe_int (fun _ _ => rfl)) pa_nil)) passL) (pa_cons (pe_cl (c__law_take T) hr (by decide) (pa_cons (pv 0) (pa_cons (pe_ix (ix_listK (K := K) rfl) (pv 1) pe_int (fun _ _ => rfl)) pa_nil)) passL) pa_nil))))) passL)))))) (pss_one (ps_ret pe_bl)) pss_nil)
  (pss_one (ps_ret (pe_and (pe_cl (c__law_refusals_right T) hr (by decide) (pa_cons (pv 0) (pa_cons (pv 1) (pa_cons (pv 2) pa_nil))) passL) (pe_one (pe_cl (c__law_is_house T) hr (by decide) (pa_cons (pv 2) (pa_cons (pv 1) pa_nil)) passL))))))))), ?_⟩
  refine st_eq (σ := [some (.ref x), none, none, none, none, none, none, none, none]) rfl ?_
  walk_at "s"
  refine ⟨x, c, rfl, hh, fun y g H1 s1 hh1 hg1 => ?_⟩
  walk_at "s"
  refine ⟨y, g, rfl, hg1, fun p H2 s2 hO2 => ?_⟩
  have i2 : C3 K x c y p g H2 := ⟨hh1.to s2, hg1.to s2, hO2⟩
  have o := hO2.ok
  have h2 := o.h2
  have h4 := o.h4
  have l2 := o.l2
  have l4 := o.l4
  walk_at "s"
  refine s_h0 i2.hg ?_
  refine ⟨x, c, g.hs, rfl, i2.hh, by omega, by omega, fun r1 H3 hr1 s3 hh3 => ?_⟩
  have i3 := i2.toS s3 hh3
  walk_at "s"
  refine s_h0 i3.hg ?_
  walk_at "s"
  rw [show ((g.hs : Int) - 1) = ((g.hs - 1 : Nat) : Int) by omega]
  refine s_tl (Nat.le_of_ble_eq_true rfl) fun tp htp => ?_
  have s4 := L2.Same.up (o := HO.tup [.int (r1 : Int), .int ((g.hs - 1 : Nat) : Int)]) htp
  have e4 : (upd H3 tp (.tup [.int (r1 : Int), .int ((g.hs - 1 : Nat) : Int)])) tp = some (.tup (([r1, g.hs - 1] : List Nat).map fun (n : Nat) => V.int (n : Int))) := upd_same
  have i4 := i3.to s4
  generalize (upd H3 tp (.tup [.int (r1 : Int), .int ((g.hs - 1 : Nat) : Int)])) = H4 at s4 e4 i4
  have lst : ∀ n ∈ ([r1, g.hs - 1] : List Nat), n < g.hs := by
    intro n hn
    simp only [List.mem_cons, List.not_mem_nil, or_false] at hn
    omega
  refine s_iTf (SqT.of e4) ?_
  refine for_f (u := fun (n : Nat) => V.int (n : Int)) ([r1, g.hs - 1] : List Nat) walk_tup (List.length_map ..) (fun i σ Hi => ∃ b1 b2 b3 b4 b5 b6 : Option V, σ = [some (.ref x), some (.ref y), some (.ref p), b1, b2, b3, b4, b5, b6] ∧ SameS H4 Hi ∧ HandO Hi x c)
    ⟨_, _, _, _, _, _, rfl, SameS.refl _, i4.hh⟩ (fun i σ Hi hP => ?_) (fun i h σ Hi hn hP => ?_) (fun σ Hi hP => ?_)
  · obtain ⟨_, _, _, _, _, _, _, sS, _⟩ := hP
    exact SqT.of (sS _ _ rfl e4)
  · obtain ⟨b1, b2, b3, b4, b5, b6, rfl, sS, hhi⟩ := hP
    have hl := lst h (List.mem_of_getElem? hn)
    have iI := i4.toS sS hhi
    have zh : isW (.int (h : Int)) (some 0) (some ((g.hs : Int) - 1)) ≠ false := by rw [isW_h hl]; decide
    walk_at "s"
    refine ⟨y, g, rfl, iI.hg, fun L H5 s5 hA => ?_⟩
    walk_at "s"
    refine ⟨y, g, h, rfl, (iI.to s5).hg, by omega, fun N H6 s6 hN e6 => ?_⟩
    walk_at "s"
    refine ⟨L, N, g, g.wh h, rfl, o, hA.to s6, e6, wh_pw g h, Hou.wh_lt o hl, fun r H7 Tt m s7 ob hL => ?_⟩
    have T836 := Hou.orb_le o (Hou.wh_lt o hl) ob
    have mlt := ob.lt
    have i7 := ((iI.to s5).to s6).to s7
    have s07 : SameS H4 H7 := sS.trans ((s5.trans s6).trans s7).toS
    walk_at "s"
    refine s_h1 i7.hg ?_
    refine s_i1f (n := g.ls) (by omega) ?_
    refine for_f (u := fun (n : Nat) => V.int (n : Int)) (List.range g.ls) walk_r List.length_range.symm (fun j σ H8 => ∃ b3 : Option V, σ = [some (.ref x), some (.ref y), some (.ref p), some (.int (h : Int)), some (.ref r), b3, b4, b5, b6] ∧ SameS H7 H8 ∧ HandO H8 x c)
      ⟨_, rfl, SameS.refl _, i7.hh⟩ (fun _ _ _ _ => trivial) (fun j b σ H8 hj hP => ?_) (fun σ H8 hP => ?_)
    · obtain ⟨b3, rfl, sS8, hh8⟩ := hP
      have bl : b < g.ls := List.mem_range.mp (List.mem_of_getElem? hj)
      have i8 := i7.toS sS8 hh8
      walk_at "s"
      refine ⟨x, c, y, p, r, g, h, b, Tt, m, rfl, hh8, i8.hg, i8.hO, hl, bl, ob, LLotsO.toS hL sS8, fun H9 s9 hh9 => ?_⟩
      walk_at "s"
      exact ⟨_, rfl, sS8.trans s9, hh9⟩
    obtain ⟨b3, rfl, sS8, hh8⟩ := hP
    have i8 := i7.toS sS8 hh8
    have hL8 := LLotsO.toS hL sS8
    refine s_cut (fun σ H9 => ∃ rr, σ = [some (.ref x), some (.ref y), some (.ref p), some (.int (h : Int)), some (.ref r), b3, some (.ref rr), b5, b6] ∧ Same H8 H9 ∧ ToldP K H9 rr g h) ?_ (fun σ H9 hM => ?_)
    · walk_at "s"
      refine ⟨p, g, .int (h : Int), .int (h : Int), rfl, i8.hO, .int _, fun z => absurd z zh, fun h' eh _ => ?_⟩
      have eh : h = h' := by injection eh; omega
      subst eh
      refine ⟨fun rr H9 d s9 hE n0 n1 => ?_, fun rr H9 pth k s9 hE wk nn => ?_⟩
      · walk_at "s"
        exact ⟨rr, rfl, s9, .inl ⟨d, hE, n0, n1⟩⟩
      · walk_at "s"
        rw [cpN_map, cpN_map] at hE
        exact ⟨rr, rfl, s9, .inr ⟨_, _, hE, wk.ring o, nn⟩⟩
    obtain ⟨rr, rfl, s9, told9⟩ := hM
    have i9 := i8.to s9
    walk_at "s"
    refine ⟨p, g, .int (h : Int), .int ((0 : Nat) : Int), .int (h : Int), .int ((0 : Nat) : Int), rfl, i9.hO, .int _, .int _, fun z => absurd z zh, fun _ z => absurd z (by rw [isW_h (show 0 < g.ls by omega)]; decide), fun h0 b0 e1 e2 _ _ dr H10 s10 hR10 => ?_⟩
    have e1 : h = h0 := by injection e1; omega
    have e2 : 0 = b0 := by injection e2; omega
    subst e1 e2
    rw [evF_one] at hR10
    walk_at "s"
    have i10 := i9.to s10
    refine s_h1 i10.hg ?_
    refine s_i2f (i := 1) (n := g.ls) (by omega) (by omega) ?_
    refine for_f (List.range (g.ls - 1)) walk_r1 List.length_range.symm (fun j σ H11 => ∃ (b3 : Option V) (dr : Addr), σ = [some (.ref x), some (.ref y), some (.ref p), some (.int (h : Int)), some (.ref r), b3, some (.ref rr), some (.ref dr), b6] ∧ Same H10 H11 ∧ RndO K H11 dr (evF g h (j + 1)))
      ⟨_, dr, rfl, L2.Same.refl _, hR10⟩ (fun _ _ _ _ => trivial) (fun j b σ H11 hj hP => ?_) (fun σ H11 hP => ?_)
    · obtain ⟨b3, dr, rfl, s11, hR11⟩ := hP
      obtain ⟨hj1, rfl⟩ : ∃ _ : j < g.ls - 1, b = j := by
        obtain ⟨z1, z2⟩ := List.getElem?_eq_some_iff.mp hj
        rw [List.getElem_range] at z2
        exact ⟨by rw [List.length_range] at z1; exact z1, z2.symm⟩
      have bl : 1 + b < g.ls := by omega
      have i11 := i10.to s11
      walk_at "s"
      refine ⟨p, g, .int (h : Int), .int ((1 + b : Nat) : Int), .int (h : Int), .int ((1 + b : Nat) : Int), rfl, i11.hO, .int _, .int _, fun z => absurd z zh, fun _ z => absurd z (by rw [isW_h bl]; decide), fun h0 b0 e1 e2 _ _ dr2 H12 s12 hR12 => ?_⟩
      have e1 : h = h0 := by injection e1; omega
      have e2 : 1 + b = b0 := by injection e2; omega
      subst e1 e2
      refine s_orRd (D := Tt - m) (m := m) (RndO.to hR11 s12) hR12 (by omega) (by omega) (evF_per ob _) (Hou.tr_per ob) fun dr3 H13 s13 hR13 => ?_
      rw [show 1 + b = b + 1 by omega, evF_succ] at hR13
      walk_at "s"
      exact ⟨_, dr3, rfl, (s11.trans s12).trans s13, hR13⟩
    obtain ⟨b3, dr, rfl, s11, hR11⟩ := hP
    rw [List.length_range, show g.ls - 1 + 1 = g.ls by omega, evF_all o hl] at hR11
    have s811 := (s9.trans s10).trans s11
    have i11 := i10.to s11
    have told := (told9.to s10).to s11
    have hL11 := LLotsO.toS hL8 s811.toS
    have s011 : SameS H4 H11 := (s07.trans sS8).trans s811.toS
    clear told9 hL8 hR10 hL
    walk_at "s"
    refine s_tl (Nat.le_of_ble_eq_true rfl) fun Z hZ => ?_
    have sZ := L2.Same.up (o := HO.lst []) hZ
    have hZd : Hd (upd H11 Z (.lst [])) (.ref Z) (.list (ivD [])) := Hd.iv (ns := []) upd_same
    have i12 := i11.to sZ
    have told12 := told.to sZ
    have hR12 := RndO.to hR11 sZ
    have s012 := s011.trans sZ.toS
    obtain ⟨LL, e12, hLP⟩ := LLotsO.toS hL11 sZ.toS
    clear told hL11
    walk_at "s"
    refine s_ixL0 (SqL.of e12) ?_
    refine s_inLots hLP hZd ?_
    walk_at "s"
    rcases told12 with ⟨d, hE, n0, n1⟩ | ⟨bs, cs, hE, R, nn⟩
    · have all : ∀ j, j ≤ d → g.lot (g.wh h) j ≠ [] := fun j hj z => n0 (by
        have := Hou.lot_nil z (d - j)
        rw [show j + (d - j) = d by omega] at this
        exact this)
      have dT : d + 1 < Tt := by
        obtain ⟨k, hk, ek⟩ := (Hou.ends_iff ob).mp ⟨d + 1, n1⟩
        have : ¬ k ≤ d := fun z => all k z ek
        omega
      refine s_yesD ⟨d + 1, dT, n1⟩ ?_
      walk_at "s"
      refine s_ixL0 (SqL.of e12) ?_
      obtain ⟨ts, t1, _⟩ := id hLP.at_
      refine ⟨tyL t1, ?_⟩
      walk_at "s"
      refine s_tl (Nat.le_of_ble_eq_true rfl) fun Z2 hZ2 => ?_
      have s13 := L2.Same.up (o := HO.lst []) hZ2
      walk_at "s"
      refine s_idxLots (hLP.to s13) (Hd.iv (ns := []) upd_same) dT n1 (fun m' hm' => all m' (by omega)) ?_
      walk_at "s"
      rw [show (((d + 1 : Nat) : Int) - 1) = (d : Int) by omega]
      have i13 := i12.to s13
      have hE13 := hE.to s13
      obtain ⟨dx, fs, v0, bb, _⟩ := hE13.at_
      refine s_isiO T (x := "Ends") (by decide) (by decide) T.cl_Ends bb ?_
      walk_at "s"
      refine s_noN rfl ?_
      walk_at "s"
      refine s_days T hE13 fun v hv => ?_
      have ev := hv.int_eq
      subst ev
      walk_at "s"
      refine s_noND rfl ?_
      walk_at "s"
      refine s_days T hE13 fun v hv => ?_
      have ev := hv.int_eq
      subst ev
      walk_at "s"
      refine s_tl (Nat.le_of_ble_eq_true rfl) fun t14 ht14 => ?_
      have s14 := L2.Same.up (o := HO.tup [.int (d : Int)]) ht14
      walk_at "s"
      refine ⟨_, .tuple [.int (d : Int)], rfl, .tup upd_same (.cons (.int _) .nil), rfl, fun H15 s15 => ?_⟩
      have hE15 := (hE13.to s14).to s15
      walk_at "s"
      refine s_make ?_
      walk_at "s"
      intro p16 dx16 hp16 hd16 _
      refine ⟨p16, dx16, _, _, rfl, upd_same, fun H16 fs16 sX16 f16a f16b f16c => ⟨rfl, ?_⟩⟩
      obtain ⟨s16, hL16⟩ := mkL_of (K := K) hp16 hd16 sX16 f16a f16b f16c (.int (d : Int)) (.int (d : Int))
      have hE16 := hE15.to s16
      refine s_eqEL T hE16 hL16 ?_
      walk_at "s"
      refine s_eqEi T hE16 ?_
      walk_at "s"
      refine s_make ?_
      walk_at "s"
      intro p17 dx17 hp17 hd17 _
      refine ⟨p17, dx17, _, rfl, upd_same, fun H17 fs17 sX17 f17a f17b => ⟨rfl, ?_⟩⟩
      obtain ⟨s17, hN17⟩ := mkE_of (K := K) hp17 hd17 sX17 f17a f17b (.int (d : Int))
      have hE17 := hE16.to s17
      refine s_eqEE hE17 hN17 ?_
      walk_at "s"
      refine s_noND rfl ?_
      walk_at "s"
      refine s_make ?_
      walk_at "s"
      refine s_lrg ?_
      walk_at "s"
      refine ⟨by unfold RgOk; omega, fun Lr hLr => ?_⟩
      rw [rgV_iv]
      have s18 := L2.Same.up (o := HO.lst (ivs (List.range (d + 1)))) hLr
      walk_at "s"
      intro p19 dx19 hp19 hd19 ne19
      have sx19 : Same (upd H17 Lr (.lst (ivs (List.range (d + 1))))) (upd (upd (upd H17 Lr (.lst (ivs (List.range (d + 1))))) dx19 (.own p19)) p19 (.ins (gA K "Round") dx19 [])) := (L2.Same.up hd19).upT (by rw [upd_ne (Ne.symm ne19)]; exact hp19)
      refine ⟨g.go h, d + 1, 1, p19, dx19, .ref Lr, .list (ivD (List.range (d + 1))), rfl, upd_same, Hd.iv (sx19 _ _ upd_same), rfl, by rw [rlot_end all n1]; rfl, Nat.le_refl _, by omega, by omega, fun k hk => ?_, fun H19 h' t' sX19 rnd _ _ ro => ⟨rfl, ?_⟩⟩
      · obtain ⟨e, rfl⟩ : ∃ e, k = d + 1 + e := ⟨k - (d + 1), by omega⟩
        show g.go h (d + 1 + (e + 1)) = _
        rw [go_false (Hou.lot_nil n1 (e + 1)), go_false (Hou.lot_nil n1 e)]
      have s19 := make_same hp19 hd19 sX19
      have s1219 := (((((s13.trans s14).trans s15).trans s16).trans s17).trans s18).trans s19
      obtain ⟨h0, t0, rnd0, _, _, ro0⟩ := RndO.to hR12 s1219
      obtain ⟨rfl, rfl⟩ := rnd0.uniq rnd
      refine s_neRd ro0 ro fun H20 s20 => ?_
      walk_at "s"
      refine s_noND ⟨rfl, rfl, rfl⟩ ?_
      walk_at "s"
      have hE20 := ((hE17.to s18).to s19).to s20
      refine s_make ?_
      walk_at "s"
      intro p21 dx21 hp21 hd21 _
      refine ⟨p21, dx21, _, rfl, upd_same, fun H21 fs21 sX21 f21a f21b => ⟨rfl, ?_⟩⟩
      obtain ⟨s21, hN21⟩ := mkE_of (K := K) hp21 hd21 sX21 f21a f21b (.int (d : Int))
      have hE21 := hE20.to s21
      refine s_neEE hE21 hN21 ?_
      walk_at "s"
      refine s_noND rfl ?_
      walk_at "s"
      refine s_make ?_
      walk_at "s"
      intro p22 dx22 hp22 hd22 _
      refine ⟨p22, dx22, _, rfl, upd_same, fun H22 fs22 sX22 f22a f22b => ⟨rfl, ?_⟩⟩
      obtain ⟨s22, hN22⟩ := mkE_of (K := K) hp22 hd22 sX22 f22a f22b (.int ((d + 1 : Nat) : Int))
      have hE22 := hE21.to s22
      refine s_eqEE hE22 hN22 ?_
      walk_at "s"
      refine s_noD (by omega) ?_
      walk_at "s"
      have sEnd := (((s1219.trans s20).trans s21).trans s22)
      exact ⟨_, _, _, _, _, _, rfl, s012.trans sEnd.toS, i12.hh.to sEnd⟩
    · refine s_noD (fun z => by obtain ⟨j, _, e⟩ := z; exact nn j e) ?_
      walk_at "s"
      refine ⟨x, c, y, p, rr, g, bs, cs, h, rfl, hl, ⟨i12.hh, i12.hg, i12.hO, hE⟩, R, fun H13 s13 hh13 => ?_⟩
      walk_at "s"
      refine s_make ?_
      walk_at "s"
      refine s_tl (Nat.le_of_ble_eq_true rfl) fun t14 ht14 => ?_
      have s14 := L2.Same.up (o := HO.tup [.int 0]) ht14
      walk_at "s"
      intro p15 dx15 hp15 hd15 ne15
      have sx15 : Same (upd H13 t14 (.tup [.int 0])) (upd (upd (upd H13 t14 (.tup [.int 0])) dx15 (.own p15)) p15 (.ins (gA K "Round") dx15 [])) := (L2.Same.up hd15).upT (by rw [upd_ne (Ne.symm ne15)]; exact hp15)
      refine ⟨g.go h, 0, 1, p15, dx15, .ref t14, .tuple (ivD [0]), rfl, upd_same, Hd.ivT (ns := [0]) (sx15 _ _ upd_same), rfl, by rw [rlot_all nn]; rfl, Nat.le_refl _, Nat.zero_le _, by omega, fun k hk => ?_, fun H15 h' t' sX15 rnd _ _ ro => ⟨rfl, ?_⟩⟩
      · rw [go_true (nn _), go_true (nn _)]
      have s15 := make_same hp15 hd15 sX15
      obtain ⟨h0, t0, rnd0, _, _, ro0⟩ := RndO.to (RndO.toS hR12 s13) (s14.trans s15)
      obtain ⟨rfl, rfl⟩ := rnd0.uniq rnd
      refine s_neRd ro0 ro fun H16 s16 => ?_
      walk_at "s"
      refine s_noND ⟨rfl, rfl, rfl⟩ ?_
      walk_at "s"
      have sEnd := (s14.trans s15).trans s16
      exact ⟨_, _, _, _, _, _, rfl, (s012.trans s13).trans sEnd.toS, hh13.to sEnd⟩
  · obtain ⟨b1, b2, b3, b4, b5, b6, rfl, sS, hhi⟩ := hP
    have iI := i4.toS sS hhi
    refine s_cut (fun σ H5 => σ = [some (.ref x), some (.ref y), some (.ref p), b1, b2, b3, b4, b5, b6] ∧ C3 K x c y p g H5) ?_ (fun σ H5 hM => ?_)
    · walk_at "s"
      refine s_h0 iI.hg ?_
      walk_at "s"
      refine s_h1 iI.hg ?_
      refine s_mulN (by omega) ?_
      walk_at "s"
      refine s_ite (fun _ => ?_) (fun _ => ?_)
      · walk_at "s"
        refine s_h0 iI.hg ?_
        refine ⟨x, c, g.hs, rfl, iI.hh, by omega, by omega, fun r2 H5 hr2 s5 hh5 => ?_⟩
        have i5 := iI.toS s5 hh5
        walk_at "s"
        refine s_h1 i5.hg ?_
        refine ⟨x, c, g.ls, rfl, i5.hh, by omega, by omega, fun r3 H6 hr3 s6 hh6 => ?_⟩
        have i6 := i5.toS s6 hh6
        refine ⟨x, c, y, p, g, r2, r3, rfl, hh6, i6.hg, i6.hO, hr2, hr3, fun H7 s7 hh7 => ?_⟩
        walk_at "s"
        exact ⟨rfl, i6.toS s7 hh7⟩
      · walk_at "s"
        exact ⟨rfl, iI⟩
    · obtain ⟨rfl, i5⟩ := hM
      walk_at "s"
      refine ⟨x, c, y, p, g, rfl, i5.hh, i5.hg, i5.hO, fun H6 s6 hh6 => ?_⟩
      have i6 := i5.toS s6 hh6
      walk_at "s"
      refine ⟨p, y, g, rfl, i6.hO, i6.hg, fun H7 s7 => ?_⟩
      exact q H7
theorem c__law_case (T : TX K mg) : Cal (L2.CX P w) P w K mg base 8 "_law_case" sp_case [] :=
  cal_mk T.f__law_case T.g__law_case ⟨rfl, rfl⟩ (fun _ _ _ _ _ _ us hl => match us, hl with | [_], _ => rfl) sc__law_case (fun vs H Q E h => by obtain ⟨x, c, rfl, _⟩ := h; rfl) (k__law_case T)
end

end K53
namespace K53
open PySem PySem.Spec PyProof.Rows L2
/-! ### the law -/
theorem sqL_toX {K : PySem.W.Frag} {H H' : Hp} {a c : Addr} {xs : List V} (hc : H c = none) (s : SameX c H H') (h : SqL K H a xs) : SqL K H' a xs :=
  h.imp (fun h => h.imp (fun h => s _ _ (ne_of_none h hc) h) (fun ⟨o, h⟩ => ⟨o, s _ _ (ne_of_none h hc) h⟩)) id
def sp_handS (K : PySem.W.Frag) : Sp := fun vs H Q _ => ∃ s, ∃ is : List Int, vs = [.ref s] ∧ SqL K H s (is.map V.int) ∧ is.length ≤ 100000 ∧ ∀ x c H', Same H H' → HandO H' x c → Q (.ref x) H'
abbrev N_law : List Str := ["_law_script"]
theorem sc_law : FnScope N_law ["_law_script"] (defScope s_law) := C8.fnScope_by (by decide +kernel)
def sp_law (K : PySem.W.Frag) : Sp := fun vs H Q _ => ∃ s, ∃ is : List Int, vs = [.ref s] ∧ SqL K H s (is.map V.int) ∧ is.length ≤ 100000 ∧ ∀ H', Q (.bl true) H'
section
variable {P : Program} {w : World} {K : PySem.W.Frag} {mg : Str → Option Value} {base : Heap}
theorem k_handS (T : TX K mg) : Keeps (L2.CX P w) P w K mg base d__law_hand N__law_hand 0 (sp_handS K) := by
  intro cdv A outer s H vs Q E hr hsp
  obtain ⟨x, xs, rfl, hx, hl, q⟩ := hsp
  have nd := sc__law_hand.nd
  have hu := hu_of hr
  have hu64 := hr.units
  refine ⟨_, (pss_cons (ps_set (i := 1) nd rfl (Or.inl rfl) (pe_op op_add (pe_callB (call_lenK (K := K) rfl) (by rfl) T.b_len PySem.boot_len (pa_cons (pv 0) pa_nil)) pe_int))
  (pss_cons (ps_set (i := 2) nd rfl (Or.inl rfl) (pe_lst pa_nil))
  (pss_cons (ps_for (passes_of rfl) rfl (pi_listK (K := K) rfl (pv 0)) (pg_name (i := 3) nd rfl (Or.inl rfl)) (pss_cons (ps_set (i := 1) nd rfl (Or.inl rfl) (pe_op op_mod (pe_callTy call_int1K (by rfl) T.b_int (by decide +kernel) (pa_cons (pe_op op_add (pe_op op_mul (pv 1) pe_int) (pe_callTy call_int1K (by rfl) T.b_int (by decide +kernel) (pa_cons (pv 3) pa_nil))) pa_nil)) pe_int))
  (pss_one (ps_expr (pe_bmK (K := K) rfl PySem.F.plainAttrs_list PySem.F.slot_list_append PySem.F.type_list_append mt_append (pv 2) (pa_cons (pe_callB call_absK (by rfl) T.b_abs (by decide +kernel) (pa_cons (pe_callTy call_int1K (by rfl) T.b_int (by decide +kernel) (pa_cons (pv 3) pa_nil)) pa_nil)) pa_nil))))))
  (pss_one (ps_ret (pe_lst (pa_cons (pv 2) (pa_cons pe_int (pa_cons pe_int (pa_cons (pv 1) pa_nil)))))))))), ?_⟩
  refine st_eq (σ := [some (.ref x), none, none, none]) rfl ?_
  walk_at "s"
  refine ⟨x, _, rfl, .inl hx, ?_⟩
  rw [List.length_map]
  walk_at "s"
  refine s_tl (by decide) fun c hc => ?_
  walk_at "s"
  refine s_iLf (sqL_to (L2.Same.up hc) hx) ?_
  refine for_f (u := V.int) xs walk_list (by rw [List.length_map]) (fun i σ H2 => ∃ (a : Int) (ns : List Nat) (v : Option V), σ = [some (.ref x), some (.int a), some (.ref c), v] ∧ H2 c = some (.lst (ivs ns)) ∧ ns.length = i ∧ SameX c H H2 ∧ (i ≠ 0 → 0 ≤ a ∧ a < 2147483563) ∧ (i = 0 → a = (xs.length : Int) + 71)) ⟨_, [], _, rfl, upd_same, rfl, fun b u hb hu => by rw [upd_ne hb]; exact hu, fun h => absurd rfl h, fun _ => rfl⟩ (fun i σ H2 hP => ?_) (fun i a σ H2 ha hP => ?_) (fun σ H2 hP => ?_)
  · obtain ⟨a, ns, v, rfl, h1, h2, h3, h4, h5⟩ := hP
    exact sqL_toX hc h3 hx
  · obtain ⟨t, ns, v, rfl, h1, h2, h3, h4, h5⟩ := hP
    have hi := (List.getElem?_eq_some_iff.mp ha).1
    walk_at "s"
    refine s_mulI (b := 1033) (by decide) ?_
    walk_at "s"
    refine s_modC (b := 2147483563) (by decide) fun o ho => ?_
    walk_at "s"
    refine ⟨tyL h1, ?_⟩
    walk_at "s"
    refine s_abs fun r => ?_
    refine ⟨c, _, _, rfl, rfl, h1, sz16l (by rw [ivs_len, h2]; omega), ?_⟩
    rw [ivs_snoc]
    exact ⟨_, _, _, rfl, upd_same, by rw [List.length_append, h2]; rfl, fun b u hb hu => by rw [upd_ne hb]; exact h3 b u hb hu, fun _ => ⟨by omega, by omega⟩, fun h => by omega⟩
  · obtain ⟨t, ns, v, rfl, h1, h2, h3, h4, h5⟩ := hP
    walk_at "s"
    refine s_tl (Nat.le_of_ble_eq_true rfl) fun y hy => ?_
    have hyc : c ≠ y := fun e => by rw [e, hy] at h1; cases h1
    have ht : 0 ≤ t ∧ t < 2147483563 := by
      by_cases e : xs.length = 0
      · have := h5 e
        omega
      · exact h4 e
    refine q _ c _ (fun b u hu => get_up (h3 b u (fun e => by rw [e, hc] at hu; cases hu) hu) hy) ⟨ns, 0, 0, t.toNat, ?_, by rw [upd_ne hyc]; exact h1, by omega⟩
    rw [upd_same, show ((t.toNat : Nat) : Int) = t by omega]
    rfl
theorem c_handS (T : TX K mg) : Cal (L2.CX P w) P w K mg base 1 "_law_hand" (sp_handS K) [] :=
  cal_mk T.f__law_hand T.g__law_hand ⟨rfl, rfl⟩ (fun _ _ _ _ _ _ us hl => match us, hl with | [_], _ => rfl) sc__law_hand (fun vs H Q E h => by obtain ⟨s, xs, rfl, _⟩ := h; rfl) (k_handS T)
theorem k_law (T : TX K mg) : Keeps (L2.CX P w) P w K mg base d_law N_law 8 (sp_law K) := by
  intro cdv A outer s H vs Q E hr hsp
  obtain ⟨a, xs, rfl, hS, hl, q⟩ := hsp
  have c__law_hand := fun (T : TX K mg) => c_handS (P := P) (w := w) (base := base) T
  have nd := sc_law.nd
  have hu := hu_of hr
  have hu64 := hr.units
  refine ⟨_, (pss_one (ps_ret (pe_cl (c__law_case T) hr (by decide) (pa_cons (pe_cl (c__law_hand T) hr (by decide) (pa_cons (pv 0) pa_nil) passL) pa_nil) passL))), ?_⟩
  refine st_eq (σ := [some (.ref a)]) rfl ?_
  walk_at "s"
  refine ⟨a, xs, rfl, hS, hl, fun x c H1 s1 hh => ?_⟩
  walk_at "s"
  exact ⟨x, c, rfl, hh, fun H2 => q H2⟩
end
theorem fn_cx0 {P : Program} {w : World} {K : PySem.W.Frag} {mg : Str → Option Value} {base : Heap} {k : Nat} {f : Addr} {fd : FuncData} {ps : List Str} {sp : Sp} (F : FnOk P w K mg base (L2.CX P w) k f fd ps sp) (h : ∀ vs H Q E, sp vs H Q E → sp vs H Q E0) : FnOk P w K mg base CX0 k f fd ps sp :=
  ⟨F.len, fun A outer s H args us vs Q E hr he hb hv hs => codeAny_mono (F.run A outer s H args us vs Q E0 hr he hb hv (h _ _ _ _ hs)) fun r s' hq => by
    cases r with
    | error e =>
      obtain ⟨_, _, _, _, _, _, _, _, _, _, _, _, z⟩ := hq
      exact z.elim
    | ok fl =>
      cases fl with
      | ret u => exact hq
      | next => exact hq
      | brk => exact hq
      | cont => exact hq⟩
theorem law_fn {P : Program} {w : World} {K : PySem.W.Frag} {h : Heap} {mg : Str → Option Value} {f : Addr} (X : K.In h) (G : h.Ns mainGlobals mg) (hfa : mg ("law" : Str) = some (.ref f)) (c : He.SaysX faL fnL [] [] moreB w h K) :
    ∃ fd : FuncData, (∀ (s : Shared) (v : Value), BindsTo s fd ⟨[v], []⟩ [("_law_script", v)]) ∧ ∀ base : Heap, K.In base → base.Ns mainGlobals mg → FnOk P w K mg base CX0 9 f fd ["_law_script"] (sp_law K) := by
  have T : TX K mg := tx_of X G c.t.d c.more
  obtain ⟨fd, F⟩ := T.f_law
  have e := hfa.symm.trans T.g_law
  cases e
  have b := FunD.bindsA (ps := ["_law_script"]) F fun _ _ _ _ _ _ us hl => match us, hl with | [_], _ => rfl
  exact ⟨fd, fun s v => b s [v] rfl, fun base _ _ => fn_cx0 (F.ok sc_law (fun vs H Q E hh => by obtain ⟨s, xs, rfl, _⟩ := hh; rfl) (k_law T)) fun _ _ _ _ hh => hh⟩

end K53
open PySem PySem.W PySem.Calls PyProof.Rows
set_option maxHeartbeats 0 in
theorem PySem.Challenge.cw_alreadytold_k53_whole_days_that_have_a_s_holds : PySem.Challenge.rw_alreadytold_k53_whole_days_that_have_a_s.Holds := by
  w_on; o_law
  refine HandSHeadRun.head_any (r := K53.Rw) (q := view K53.Rw.prog [77]) (H := K53.hk) (ob := K53.ob) (M := 8000) (loose := K53.loL) (d := HandSHeadRun.topDef K53.Rw.prog 77) (kwd := []) K53.ob_eq
    (by kernel_rfl) (fun s => by kernel_rfl) K53.run (by kernel_rfl) (by kernel_rfl) (by kernel_rfl) (by rfl) (by first | assumption | decide +kernel) (by decide +kernel) ⟨rfl, rfl, rfl, rfl, rfl, by decide +kernel⟩ ?hw ?hc
  case hw => w_witness2
  case hc =>
    refine L2.walk_ofE (l := PySem.Challenge.rw_alreadytold_k53_whole_days_that_have_a_s) (n := 63) (k := 9) (x := "_law_script") (CX := L2.CX0) rfl (by decide) (by kernel_rfl) ⟨rfl, by decide, by decide⟩ ?F (fun _ _ _ _ z => z)
    intro w mg fa h Y G hmg0
    obtain ⟨K, KX, c⟩ := Y
    have hmg : mg ("law" : PySem.Str) = some (.ref fa) := by
      have e : (HandSHeadRun.topDef K53.Rw.prog 77).name = ("law" : PySem.Str) := by kernel_rfl
      rw [← e]
      exact hmg0
    obtain ⟨fd, hb, hF⟩ := K53.law_fn (P := PySem.Challenge.rw_alreadytold_k53_whole_days_that_have_a_s.prog) (w := w) KX G hmg c
    exact ⟨K, fd, K53.sp_law K, KX, hb, fun H a ns hl _ hS => ⟨a, ns, rfl, hS, Nat.le_trans hl (by decide), fun _ => rfl⟩, hF⟩
