import PyProof.Rows.All
import Wide.All
import OpenK.AllK
import Wide.FinOn
import KE.KStateDown
import Lean
import KE.KSortKey
import HandS.ForMost
import HandS.SortInts
import HandS.SortOrd
import HandS.SortRule
import HandS.SortKw
import HandS.Codes
import KE.Datum
import KE.KEqDeep
import HandS.NamedTupSort
import HandS.Strs
import HandS.SetFor
import HandS.Zip
import HandS.Conv
import HandS.IsInst
import HandS.WideBits
import KE.OsArith
import HandS.Defaults
import HandS.Head0
import HandS.Head1
import HandS.Head2
import HandS.HeadEnd
import HandS.HeadHook1
import HandS.HeadHook2
import HandS.TupAny
import PySem.Challenge.RW_pricedrules_k76_blockers
set_option Elab.async false
set_option linter.all false
set_option maxRecDepth 100000
set_option maxHeartbeats 0
/-! Masks, least masks, blockers: plain mathematics for law k76 (and k77). -/
namespace MK
/-- a lies within b -/
abbrev sub (a b : Nat) : Prop := a &&& b = a
theorem sub_iff {a b : Nat} : sub a b ↔ ∀ i, a.testBit i = true → b.testBit i = true := by
  constructor
  · intro h i hi
    have e : (a &&& b).testBit i = a.testBit i := by rw [h]
    rw [Nat.testBit_and, hi] at e
    simpa using e
  · intro h
    apply Nat.eq_of_testBit_eq
    intro i
    rw [Nat.testBit_and]
    cases q : a.testBit i with
    | false => rfl
    | true => rw [h i q]; rfl
theorem sub_refl (a : Nat) : sub a a := Nat.and_self a
theorem sub_trans {a b c : Nat} (h : sub a b) (k : sub b c) : sub a c := sub_iff.mpr fun i x => sub_iff.mp k i (sub_iff.mp h i x)
theorem sub_anti {a b : Nat} (h : sub a b) (k : sub b a) : a = b := by
  have k' : b &&& a = b := k
  rw [Nat.and_comm] at k'
  exact h.symm.trans k'
theorem sub_zero (a : Nat) : sub 0 a := Nat.zero_and a
theorem sub_le {a b : Nat} (h : sub a b) : a ≤ b := by
  have e : a &&& b ≤ b := Nat.and_le_right
  rw [h] at e
  exact e
theorem sub_lt {a b n : Nat} (h : sub a b) (k : b < n) : a < n := Nat.lt_of_le_of_lt (sub_le h) k
theorem sub_or_left (a b : Nat) : sub a (a ||| b) := sub_iff.mpr fun i h => by rw [Nat.testBit_or, h]; rfl
theorem sub_or_right (a b : Nat) : sub b (a ||| b) := sub_iff.mpr fun i h => by rw [Nat.testBit_or, h, Bool.or_true]
theorem or_sub {a b c : Nat} (h : sub a c) (k : sub b c) : sub (a ||| b) c := sub_iff.mpr fun i x => by
  rw [Nat.testBit_or, Bool.or_eq_true] at x
  rcases x with x | x
  · exact sub_iff.mp h i x
  · exact sub_iff.mp k i x
theorem bit_sub {i b : Nat} : sub (2 ^ i) b ↔ b.testBit i = true := by
  rw [sub_iff]
  constructor
  · intro h
    exact h i (by rw [Nat.testBit_two_pow]; simp)
  · intro h j hj
    rw [Nat.testBit_two_pow] at hj
    have e : i = j := of_decide_eq_true hj
    rw [← e]; exact h
theorem and_ne {a b : Nat} : a &&& b ≠ 0 ↔ ∃ i, a.testBit i = true ∧ b.testBit i = true := by
  constructor
  · intro h
    obtain ⟨i, hi⟩ := Nat.exists_testBit_of_ne_zero h
    rw [Nat.testBit_and, Bool.and_eq_true] at hi
    exact ⟨i, hi⟩
  · rintro ⟨i, h1, h2⟩ e
    have : (a &&& b).testBit i = true := by rw [Nat.testBit_and, h1, h2]; rfl
    rw [e, Nat.zero_testBit] at this
    cases this
theorem meet_mono {a b m : Nat} (h : sub a b) (k : a &&& m ≠ 0) : b &&& m ≠ 0 := by
  obtain ⟨i, h1, h2⟩ := and_ne.mp k
  exact and_ne.mpr ⟨i, sub_iff.mp h i h1, h2⟩

/-! ### how many bits -/
def pcf : Nat → Nat → Nat
  | 0, _ => 0
  | f + 1, n => n % 2 + pcf f (n / 2)
theorem pcf_eq : ∀ (f n : Nat), n ≤ f → ∀ g, n ≤ g → pcf f n = pcf g n
  | 0, n, h, g, _ => by
    have e : n = 0 := by omega
    subst e
    clear h
    induction g with
    | zero => rfl
    | succ g ih => show 0 = 0 % 2 + pcf g (0 / 2); rw [← ih (Nat.zero_le _)]; rfl
  | f + 1, n, h, g, hg => by
    cases g with
    | zero =>
      have e : n = 0 := by omega
      subst e
      have : ∀ f, pcf f 0 = 0 := fun f => by
        induction f with
        | zero => rfl
        | succ f ih => show 0 % 2 + pcf f (0 / 2) = 0; rw [Nat.zero_div, ih]
      rw [this, this]
    | succ g =>
      show n % 2 + pcf f (n / 2) = n % 2 + pcf g (n / 2)
      rw [pcf_eq f (n / 2) (by omega) g (by omega)]
/-- how many bits are set -/
def pc (n : Nat) : Nat := pcf n n
theorem pc_zero : pc 0 = 0 := rfl
theorem pc_rec (n : Nat) : pc n = n % 2 + pc (n / 2) := by
  cases n with
  | zero => rfl
  | succ n =>
    show (n + 1) % 2 + pcf n ((n + 1) / 2) = (n + 1) % 2 + pcf ((n + 1) / 2) ((n + 1) / 2)
    rw [pcf_eq n ((n + 1) / 2) (by omega) ((n + 1) / 2) (Nat.le_refl _)]
theorem sub_half {a b : Nat} (h : sub a b) : sub (a / 2) (b / 2) ∧ a % 2 ≤ b % 2 := by
  constructor
  · show a / 2 &&& b / 2 = a / 2
    rw [← Nat.and_div_two, h]
  · have k := sub_iff.mp h 0
    rw [Nat.testBit_zero, Nat.testBit_zero, decide_eq_true_eq, decide_eq_true_eq] at k
    omega
theorem pc_mono : ∀ (n a b : Nat), b ≤ n → sub a b → pc a ≤ pc b ∧ (pc a = pc b → a = b)
  | 0, a, b, hn, h => by
    have e : b = 0 := by omega
    have e2 : a = 0 := by have := sub_le h; omega
    subst e; subst e2
    exact ⟨Nat.le_refl _, fun _ => rfl⟩
  | n + 1, a, b, hn, h => by
    by_cases hb : b = 0
    · have e2 : a = 0 := by have := sub_le h; omega
      subst hb; subst e2
      exact ⟨Nat.le_refl _, fun _ => rfl⟩
    · obtain ⟨h1, h2⟩ := sub_half h
      obtain ⟨k1, k2⟩ := pc_mono n (a / 2) (b / 2) (by omega) h1
      rw [pc_rec a, pc_rec b]
      refine ⟨by omega, fun e => ?_⟩
      have e1 : pc (a / 2) = pc (b / 2) := by omega
      have := k2 e1
      omega
theorem pc_le {a b : Nat} (h : sub a b) : pc a ≤ pc b := (pc_mono b a b (Nat.le_refl _) h).1
theorem pc_inj {a b : Nat} (h : sub a b) (e : pc b ≤ pc a) : a = b := (pc_mono b a b (Nat.le_refl _) h).2 (Nat.le_antisymm (pc_le h) e)
theorem clear_low : ∀ (n k : Nat), k ≤ n → 0 < k → pc (k &&& (k - 1)) + 1 = pc k ∧ k &&& (k - 1) < k
  | 0, k, h, h0 => by omega
  | n + 1, k, h, h0 => by
    have lt : k &&& (k - 1) < k := by
      have : k &&& (k - 1) ≤ k - 1 := Nat.and_le_right
      omega
    refine ⟨?_, lt⟩
    rw [pc_rec (k &&& (k - 1)), pc_rec k, Nat.and_div_two]
    by_cases hodd : k % 2 = 1
    · have e1 : (k &&& (k - 1)) % 2 = 0 := by
        have q := @Nat.and_mod_two_eq_one k (k - 1)
        have : ¬ (k - 1) % 2 = 1 := by omega
        omega
      have e2 : (k - 1) / 2 = k / 2 := by omega
      rw [e1, e2, Nat.and_self, hodd]
      omega
    · have e1 : (k &&& (k - 1)) % 2 = 0 := by
        have q := @Nat.and_mod_two_eq_one k (k - 1)
        omega
      have e2 : (k - 1) / 2 = k / 2 - 1 := by omega
      obtain ⟨i1, _⟩ := clear_low n (k / 2) (by omega) (by omega)
      rw [e1, e2]
      omega

/-! ### least ones -/
/-- x is least among S -/
def MinOf (S : Nat → Prop) (x : Nat) : Prop := S x ∧ ∀ k, S k → sub k x → k = x
/-- known first: keep x if none that is kept lies within it -/
def greedy : List Nat → List Nat → List Nat
  | acc, [] => acc
  | acc, x :: xs => if acc.any (fun k => k &&& x == k) then greedy acc xs else greedy (acc ++ [x]) xs
theorem greedy_append : ∀ (xs ys acc : List Nat), greedy acc (xs ++ ys) = greedy (greedy acc xs) ys
  | [], _, _ => rfl
  | x :: xs, ys, acc => by
    show (if _ then _ else _) = greedy (if _ then _ else _) ys
    split <;> exact greedy_append xs ys _
theorem any_sub {acc : List Nat} {x : Nat} : acc.any (fun k => k &&& x == k) = true ↔ ∃ k ∈ acc, sub k x := by
  rw [List.any_eq_true]
  constructor
  · rintro ⟨k, h, e⟩
    exact ⟨k, h, by simpa using e⟩
  · rintro ⟨k, h, e⟩
    exact ⟨k, h, by simpa using e⟩
theorem greedy_spec : ∀ (xs acc : List Nat), (acc ++ xs).Pairwise (fun a b => pc a ≤ pc b) → acc.Pairwise (fun a b => ¬ sub a b) →
    (∀ x ∈ greedy acc xs, x ∈ acc ++ xs) ∧ (∀ x ∈ acc ++ xs, ∃ k ∈ greedy acc xs, sub k x) ∧ (greedy acc xs).Pairwise (fun a b => ¬ sub a b) ∧ (greedy acc xs).Pairwise (fun a b => pc a ≤ pc b)
  | [], acc, h, h2 => by
    rw [List.append_nil] at h ⊢
    exact ⟨fun x hx => hx, fun x hx => ⟨x, hx, sub_refl x⟩, h2, h⟩
  | x :: xs, acc, h, h2 => by
    unfold greedy
    split
    · rename_i hs
      obtain ⟨k, hk, hkx⟩ := any_sub.mp hs
      have h' : (acc ++ xs).Pairwise (fun a b => pc a ≤ pc b) := h.sublist (List.Sublist.append (List.Sublist.refl _) (List.sublist_cons_self _ _))
      obtain ⟨a1, a2, a3, a4⟩ := greedy_spec xs acc h' h2
      refine ⟨fun y hy => ?_, fun y hy => ?_, a3, a4⟩
      · rcases List.mem_append.mp (a1 y hy) with z | z
        · exact List.mem_append_left _ z
        · exact List.mem_append_right _ (List.mem_cons_of_mem _ z)
      · rcases List.mem_append.mp hy with z | z
        · exact a2 y (List.mem_append_left _ z)
        · rcases List.mem_cons.mp z with z | z
          · subst z
            obtain ⟨k', hk', hs'⟩ := a2 k (List.mem_append_left _ hk)
            exact ⟨k', hk', sub_trans hs' hkx⟩
          · exact a2 y (List.mem_append_right _ z)
    · rename_i hs
      have no : ∀ k ∈ acc, ¬ sub k x := fun k hk hkx => hs (any_sub.mpr ⟨k, hk, hkx⟩)
      have e : acc ++ [x] ++ xs = acc ++ x :: xs := by simp
      have h2' : (acc ++ [x]).Pairwise (fun a b => ¬ sub a b) := by
        rw [List.pairwise_append]
        refine ⟨h2, List.pairwise_singleton _ _, fun a ha b hb => ?_⟩
        rw [List.mem_singleton.mp hb]
        exact no a ha
      obtain ⟨a1, a2, a3, a4⟩ := greedy_spec xs (acc ++ [x]) (by rw [e]; exact h) h2'
      rw [e] at a1 a2
      exact ⟨a1, a2, a3, a4⟩
/-- G holds just the least ones of S, smaller ones first, each once -/
structure Least (G : List Nat) (S : Nat → Prop) : Prop where
  nd : G.Nodup
  mem : ∀ x, x ∈ G ↔ MinOf S x
  up : G.Pairwise (fun a b => pc a ≤ pc b)
theorem pairwise_both {R : Nat → Nat → Prop} : ∀ {l : List Nat}, l.Pairwise R → ∀ {i j : Nat} {a b : Nat}, l[i]? = some a → l[j]? = some b → i < j → R a b := by
  intro l h i j a b ha hb hij
  obtain ⟨hi, e1⟩ := List.getElem?_eq_some_iff.mp ha
  obtain ⟨hj, e2⟩ := List.getElem?_eq_some_iff.mp hb
  rw [← e1, ← e2]
  exact List.pairwise_iff_getElem.mp h i j hi hj hij
theorem greedy_least {L : List Nat} (h : L.Pairwise (fun a b => pc a ≤ pc b)) : Least (greedy [] L) (· ∈ L) := by
  obtain ⟨a1, a2, a3, a4⟩ := greedy_spec L [] h List.Pairwise.nil
  have anti : ∀ a ∈ greedy [] L, ∀ b ∈ greedy [] L, sub a b → a = b := fun a ha b hb hs => by
    obtain ⟨i, hi⟩ := List.getElem?_of_mem ha
    obtain ⟨j, hj⟩ := List.getElem?_of_mem hb
    rcases Nat.lt_trichotomy i j with z | z | z
    · exact absurd hs (pairwise_both a3 hi hj z)
    · subst z
      rw [hi] at hj
      exact Option.some.inj hj
    · have := pairwise_both a4 hj hi z
      exact pc_inj hs this
  refine ⟨a3.imp fun {a b} (h : ¬ sub a b) (e : a = b) => h (by rw [e]; exact sub_refl b), fun x => ⟨fun hx => ⟨a1 x hx, fun k hk hs => ?_⟩, fun hx => ?_⟩, a4⟩
  · obtain ⟨k', hk', hs'⟩ := a2 k hk
    have e := anti k' hk' x hx (sub_trans hs' hs)
    subst e
    exact sub_anti hs hs'
  · obtain ⟨k', hk', hs'⟩ := a2 x hx.1
    rw [← hx.2 k' (a1 k' hk') hs']
    exact hk'
theorem Least.perm {G G' : List Nat} {S S' : Nat → Prop} (a : Least G S) (b : Least G' S') (h : ∀ x, MinOf S x ↔ MinOf S' x) : G.Perm G' :=
  (List.perm_ext_iff_of_nodup a.nd b.nd).mpr fun x => by rw [a.mem, b.mem, h]
theorem MinOf.congr {S S' : Nat → Prop} (h : ∀ x, S x ↔ S' x) (x : Nat) : MinOf S x ↔ MinOf S' x := by
  unfold MinOf
  rw [h x]
  exact and_congr_right fun _ => ⟨fun f k hk => f k ((h k).mpr hk), fun f k hk => f k ((h k).mp hk)⟩
/-- A among B, and each of B holds one of A: the least ones are the same -/
theorem MinOf.dense {A B : Nat → Prop} (h : ∀ x, A x → B x) (k : ∀ x, B x → ∃ y, A y ∧ sub y x) (x : Nat) : MinOf A x ↔ MinOf B x := by
  constructor
  · rintro ⟨ax, hx⟩
    refine ⟨h x ax, fun y hy hs => ?_⟩
    obtain ⟨z, az, hz⟩ := k y hy
    have e := hx z az (sub_trans hz hs)
    subst e
    exact sub_anti hs hz
  · rintro ⟨bx, hx⟩
    obtain ⟨z, az, hz⟩ := k x bx
    have e := hx z (h z az) hz
    subst e
    exact ⟨az, fun y hy hs => hx y (h y hy) hs⟩
/-- each holds a least one -/
theorem exists_min {S : Nat → Prop} : ∀ (n x : Nat), x ≤ n → S x → ∃ y, MinOf S y ∧ sub y x
  | n, x, hn, hx => by
    by_cases h : ∃ k, S k ∧ sub k x ∧ k ≠ x
    · obtain ⟨k, hk, hs, ne⟩ := h
      have lt : k < x := by
        have := sub_le hs
        omega
      cases n with
      | zero => omega
      | succ n =>
        obtain ⟨y, hy, hys⟩ := exists_min n k (by omega) hk
        exact ⟨y, hy, sub_trans hys hs⟩
    · refine ⟨x, ⟨hx, fun k hk hs => ?_⟩, sub_refl x⟩
      exact Classical.byContradiction fun ne => h ⟨k, hk, hs, ne⟩
theorem min_min {S : Nat → Prop} (x : Nat) : MinOf (MinOf S) x ↔ MinOf S x := MinOf.dense (fun _ h => h.1) (fun x hx => exists_min x x (Nat.le_refl _) hx) x

/-! ### meeting -/
/-- t meets each of ms, over many numbers -/
def Tr (ms : List Nat) (many : Nat) (t : Nat) : Prop := t < 2 ^ many ∧ ∀ m ∈ ms, t &&& m ≠ 0
def bitsOf (m many : Nat) : List Nat := (List.range many).filter fun i => m.testBit i
theorem mem_bitsOf {m many i : Nat} : i ∈ bitsOf m many ↔ i < many ∧ m.testBit i = true := by
  unfold bitsOf
  rw [List.mem_filter, List.mem_range]
/-- one step: what a known one grows into -/
def grow1 (m many k : Nat) : List Nat := if k &&& m ≠ 0 then [k] else (bitsOf m many).map fun i => k ||| 2 ^ i
def grow (m many : Nat) (found : List Nat) : List Nat := found.flatMap (grow1 m many)
theorem grow_append (m many : Nat) (xs ys : List Nat) : grow m many (xs ++ ys) = grow m many xs ++ grow m many ys := by
  unfold grow
  rw [List.flatMap_append]
theorem bit_of_lt {n many i : Nat} (h : n < 2 ^ many) (k : n.testBit i = true) : i < many := by
  cases Nat.lt_or_ge i many with
  | inl q => exact q
  | inr q =>
    rw [Nat.testBit_lt_two_pow (Nat.lt_of_lt_of_le h (Nat.pow_le_pow_right (by decide) q))] at k
    cases k
theorem grow_min {ms : List Nat} {many m : Nat} {found : List Nat} (hf : ∀ x, x ∈ found ↔ MinOf (Tr ms many) x) (x : Nat) :
    MinOf (· ∈ grow m many found) x ↔ MinOf (Tr (ms ++ [m]) many) x := by
  refine MinOf.dense (fun y hy => ?_) (fun t ht => ?_) x
  · obtain ⟨k, hk, hy⟩ := List.mem_flatMap.mp hy
    have hk' := (hf k).mp hk
    unfold grow1 at hy
    split at hy
    · rename_i hm
      rw [List.mem_singleton] at hy
      subst hy
      refine ⟨hk'.1.1, fun z hz => ?_⟩
      rcases List.mem_append.mp hz with hz | hz
      · exact hk'.1.2 z hz
      · rw [List.mem_singleton.mp hz]
        exact hm
    · obtain ⟨i, hi, rfl⟩ := List.mem_map.mp hy
      obtain ⟨h1, h2⟩ := mem_bitsOf.mp hi
      refine ⟨Nat.or_lt_two_pow hk'.1.1 (Nat.pow_lt_pow_right (by decide) h1), fun z hz => ?_⟩
      rcases List.mem_append.mp hz with hz | hz
      · exact meet_mono (sub_or_left _ _) (hk'.1.2 z hz)
      · rw [List.mem_singleton.mp hz]
        refine and_ne.mpr ⟨i, ?_, h2⟩
        rw [Nat.testBit_or, Nat.testBit_two_pow]
        simp
  · have ht' : Tr ms many t := ⟨ht.1, fun z hz => ht.2 z (List.mem_append_left _ hz)⟩
    obtain ⟨k, hk, hs⟩ := exists_min t t (Nat.le_refl _) ht'
    have hkf := (hf k).mpr hk
    by_cases hm : k &&& m ≠ 0
    · refine ⟨k, List.mem_flatMap.mpr ⟨k, hkf, ?_⟩, hs⟩
      unfold grow1
      rw [if_pos hm]
      exact List.mem_singleton.mpr rfl
    · obtain ⟨i, h1, h2⟩ := and_ne.mp (ht.2 m (List.mem_append_right _ (List.mem_singleton.mpr rfl)))
      refine ⟨k ||| 2 ^ i, List.mem_flatMap.mpr ⟨k, hkf, ?_⟩, or_sub hs (bit_sub.mpr h1)⟩
      unfold grow1
      rw [if_neg hm]
      exact List.mem_map.mpr ⟨i, mem_bitsOf.mpr ⟨bit_of_lt ht.1 h1, h2⟩, rfl⟩
theorem tr_nil (many x : Nat) : x ∈ [0] ↔ MinOf (Tr [] many) x := by
  rw [List.mem_singleton]
  constructor
  · rintro rfl
    exact ⟨⟨Nat.pow_pos (by decide), fun _ h => nomatch h⟩, fun k _ hs => by have := sub_le hs; omega⟩
  · intro h
    exact (h.2 0 ⟨Nat.pow_pos (by decide), fun _ h => nomatch h⟩ (sub_zero x)).symm
/-- the blocker of the blocker -/
theorem tr_tr {ms bs : List Nat} {many : Nat} (hm : ∀ m ∈ ms, m < 2 ^ many) (hb : ∀ x, x ∈ bs ↔ MinOf (Tr ms many) x) (x : Nat) : MinOf (Tr bs many) x ↔ MinOf (· ∈ ms) x := by
  refine (MinOf.dense (A := (· ∈ ms)) (B := Tr bs many) (fun m h => ⟨hm m h, fun b hb' => ?_⟩) (fun t ht => ?_) x).symm
  · have := ((hb b).mp hb').1.2 m h
    rw [Nat.and_comm]
    exact this
  · refine Classical.byContradiction fun no => ?_
    -- the complement of t meets each of ms
    have tr : Tr ms many ((2 ^ many - 1) ^^^ t) := by
      refine ⟨Nat.xor_lt_two_pow (by have := Nat.pow_pos (n := many) (show 0 < 2 by decide); omega) ht.1, fun m h => ?_⟩
      have : ¬ sub m t := fun hs => no ⟨m, h, hs⟩
      rw [sub_iff] at this
      obtain ⟨i, hi⟩ := Classical.not_forall.mp this
      obtain ⟨h1, h2⟩ := Classical.not_imp.mp hi
      refine and_ne.mpr ⟨i, ?_, h1⟩
      rw [Nat.testBit_xor, Nat.testBit_two_pow_sub_one, decide_eq_true (bit_of_lt (hm m h) h1)]
      simpa using h2
    obtain ⟨y, hy, hs⟩ := exists_min _ _ (Nat.le_refl _) tr
    obtain ⟨i, h1, h2⟩ := and_ne.mp (ht.2 y ((hb y).mpr hy))
    have h3 := sub_iff.mp hs i h2
    rw [Nat.testBit_xor, h1] at h3
    rw [Nat.testBit_two_pow_sub_one, decide_eq_true (bit_of_lt ht.1 h1)] at h3
    cases h3

/-! ### how many masks lie within one -/
def subs : Nat → Nat → List Nat
  | 0, _ => [0]
  | f + 1, n => if n % 2 = 1 then (subs f (n / 2)).flatMap fun x => [2 * x, 2 * x + 1] else (subs f (n / 2)).map fun x => 2 * x
theorem flat2_len (l : List Nat) : (l.flatMap fun x => [2 * x, 2 * x + 1]).length = 2 * l.length := by
  induction l with
  | nil => rfl
  | cons a l ih => rw [List.flatMap_cons, List.length_append, ih, List.length_cons]; simp only [List.length_cons, List.length_nil]; omega
theorem subs_len : ∀ (f n : Nat), (subs f n).length = 2 ^ pcf f n
  | 0, _ => rfl
  | f + 1, n => by
    unfold subs
    show _ = 2 ^ (n % 2 + pcf f (n / 2))
    split
    · rename_i h
      rw [flat2_len, subs_len f, h, Nat.pow_add]
    · rename_i h
      have e : n % 2 = 0 := by omega
      rw [List.length_map, subs_len f, e, Nat.zero_add]
theorem mem_subs : ∀ (f n x : Nat), n ≤ f → sub x n → x ∈ subs f n
  | 0, n, x, h, hs => by
    have e : x = 0 := by have := sub_le hs; omega
    subst e
    exact List.mem_singleton.mpr rfl
  | f + 1, n, x, h, hs => by
    obtain ⟨h1, h2⟩ := sub_half hs
    have ih := mem_subs f (n / 2) (x / 2) (by omega) h1
    unfold subs
    split
    · refine List.mem_flatMap.mpr ⟨x / 2, ih, ?_⟩
      have : x % 2 = 0 ∨ x % 2 = 1 := by omega
      rcases this with e | e
      · have : x = 2 * (x / 2) := by omega
        rw [this]
        simp
      · have : x = 2 * (x / 2) + 1 := by omega
        rw [this]
        simp
        omega
    · exact List.mem_map.mpr ⟨x / 2, ih, by omega⟩
theorem within_len {l : List Nat} {U : Nat} (h : l.Nodup) (k : ∀ x ∈ l, sub x U) : l.length ≤ 2 ^ pc U := by
  have := h.length_le_of_subset (l₂ := subs U U) fun x hx => mem_subs U U x (Nat.le_refl _) (k x hx)
  rw [subs_len] at this
  exact this
theorem min_within {ms : List Nat} {U many : Nat} (h : ∀ m ∈ ms, sub m U) (hU : U < 2 ^ many) {x : Nat} (hx : MinOf (Tr ms many) x) : sub x U := by
  have tr : Tr ms many (x &&& U) := by
    refine ⟨Nat.lt_of_le_of_lt Nat.and_le_right hU, fun m hm => ?_⟩
    obtain ⟨i, h1, h2⟩ := and_ne.mp (hx.1.2 m hm)
    refine and_ne.mpr ⟨i, ?_, h2⟩
    rw [Nat.testBit_and, h1, sub_iff.mp (h m hm) i h2]
    rfl
  have e := hx.2 (x &&& U) tr (sub_iff.mpr fun i hi => by
    rw [Nat.testBit_and, Bool.and_eq_true] at hi
    exact hi.1)
  exact e
theorem grow1_len (m many k : Nat) : (grow1 m many k).length ≤ many + 1 := by
  unfold grow1
  split
  · show 1 ≤ many + 1
    omega
  · rw [List.length_map]
    unfold bitsOf
    have := List.length_filter_le (fun i => m.testBit i) (List.range many)
    rw [List.length_range] at this
    omega
theorem grow_len (m many : Nat) : ∀ found : List Nat, (grow m many found).length ≤ found.length * (many + 1)
  | [] => by
    show 0 ≤ _
    omega
  | k :: l => by
    show (grow1 m many k ++ grow m many l).length ≤ (l.length + 1) * (many + 1)
    rw [List.length_append, Nat.succ_mul]
    have h1 := grow1_len m many k
    have h2 := grow_len m many l
    omega

/-! ### groups that have no number in common -/
theorem half_or_pow (k i : Nat) : (k ||| 2 ^ (i + 1)) / 2 = k / 2 ||| 2 ^ i ∧ (k ||| 2 ^ (i + 1)) % 2 = k % 2 := by
  constructor
  · apply Nat.eq_of_testBit_eq
    intro j
    rw [← Nat.testBit_add_one, Nat.testBit_or, Nat.testBit_or, Nat.testBit_two_pow, Nat.testBit_two_pow, ← Nat.testBit_add_one]
    congr 1
    simp
  · have e : (k ||| 2 ^ (i + 1)).testBit 0 = k.testBit 0 := by
      rw [Nat.testBit_or, Nat.testBit_two_pow]
      simp
    rw [Nat.testBit_zero, Nat.testBit_zero] at e
    have : (k ||| 2 ^ (i + 1)) % 2 = 1 ↔ k % 2 = 1 := by
      rw [← decide_eq_true_eq (p := (k ||| 2 ^ (i + 1)) % 2 = 1), e, decide_eq_true_eq]
    omega
theorem half_or_one (k : Nat) : (k ||| 2 ^ 0) / 2 = k / 2 ∧ (k ||| 2 ^ 0) % 2 = 1 := by
  constructor
  · apply Nat.eq_of_testBit_eq
    intro j
    rw [← Nat.testBit_add_one, Nat.testBit_or, Nat.testBit_two_pow, ← Nat.testBit_add_one]
    simp
  · have e : (k ||| 2 ^ 0).testBit 0 = true := by
      rw [Nat.testBit_or, Nat.testBit_two_pow]
      simp
    rw [Nat.testBit_zero] at e
    exact of_decide_eq_true e
theorem pc_set : ∀ (i k : Nat), k.testBit i = false → pc (k ||| 2 ^ i) = pc k + 1
  | 0, k, h => by
    obtain ⟨e1, e2⟩ := half_or_one k
    rw [Nat.testBit_zero] at h
    have h' := of_decide_eq_false h
    rw [pc_rec (k ||| 2 ^ 0), e1, e2, pc_rec k]
    omega
  | i + 1, k, h => by
    obtain ⟨e1, e2⟩ := half_or_pow k i
    rw [Nat.testBit_add_one] at h
    rw [pc_rec (k ||| 2 ^ (i + 1)), e1, e2, pc_set i (k / 2) h, pc_rec k]
    omega
theorem pc_or_pow (i k : Nat) : pc (k ||| 2 ^ i) ≤ pc k + 1 := by
  cases h : k.testBit i with
  | false => rw [pc_set i k h]; exact Nat.le_refl _
  | true =>
    have e : k ||| 2 ^ i = k := by
      apply Nat.eq_of_testBit_eq
      intro j
      rw [Nat.testBit_or, Nat.testBit_two_pow]
      by_cases hj : i = j
      · subst hj; rw [h]; rfl
      · rw [decide_eq_false hj, Bool.or_false]
    rw [e]
    omega
/-- the mask of numbers -/
def maskOf (g : List Nat) : Nat := g.foldl (fun m i => m ||| 2 ^ i) 0
theorem foldl_or_bit : ∀ (g : List Nat) (m i : Nat), (g.foldl (fun m i => m ||| 2 ^ i) m).testBit i = (m.testBit i || decide (i ∈ g))
  | [], m, i => by simp
  | a :: g, m, i => by
    rw [List.foldl_cons, foldl_or_bit g, Nat.testBit_or, Nat.testBit_two_pow, Bool.or_assoc]
    congr 1
    rw [← Bool.decide_or]
    apply decide_eq_decide.mpr
    rw [List.mem_cons, eq_comm]
theorem maskOf_bit (g : List Nat) (i : Nat) : (maskOf g).testBit i = decide (i ∈ g) := by
  unfold maskOf
  rw [foldl_or_bit, Nat.zero_testBit, Bool.false_or]
theorem foldl_pc : ∀ (g : List Nat) (m : Nat), pc (g.foldl (fun m i => m ||| 2 ^ i) m) ≤ pc m + g.length
  | [], m => Nat.le_refl _
  | a :: g, m => by
    rw [List.foldl_cons, List.length_cons]
    have h1 := foldl_pc g (m ||| 2 ^ a)
    have h2 := pc_or_pow a m
    omega
theorem maskOf_pc (g : List Nat) : pc (maskOf g) ≤ g.length := by
  have := foldl_pc g 0
  rw [pc_zero] at this
  unfold maskOf
  omega
theorem foldl_or_lt : ∀ (g : List Nat) (m n : Nat), m < 2 ^ n → (∀ i ∈ g, i < n) → g.foldl (fun m i => m ||| 2 ^ i) m < 2 ^ n
  | [], m, n, h, _ => h
  | a :: g, m, n, h, k => foldl_or_lt g _ n (Nat.or_lt_two_pow h (Nat.pow_lt_pow_right (by decide) (k a List.mem_cons_self))) fun i hi => k i (List.mem_cons_of_mem _ hi)
theorem maskOf_lt {g : List Nat} {n : Nat} (h : ∀ i ∈ g, i < n) : maskOf g < 2 ^ n := foldl_or_lt g 0 n (Nat.pow_pos (by decide)) h
theorem or_add : ∀ (a b n : Nat), a ≤ n → a &&& b = 0 → a ||| b = a + b
  | a, b, 0, h, _ => by
    have e : a = 0 := by omega
    subst e
    rw [Nat.zero_or, Nat.zero_add]
  | a, b, n + 1, h, e => by
    by_cases h0 : a = 0
    · subst h0
      rw [Nat.zero_or, Nat.zero_add]
    have e1 : a / 2 &&& b / 2 = 0 := by rw [← Nat.and_div_two, e]
    have ih := or_add (a / 2) (b / 2) n (by omega) e1
    have e2 : (a ||| b) / 2 = a / 2 ||| b / 2 := by
      apply Nat.eq_of_testBit_eq
      intro j
      rw [← Nat.testBit_add_one, Nat.testBit_or, Nat.testBit_or, Nat.testBit_add_one, Nat.testBit_add_one]
    have e3 : ¬ (a % 2 = 1 ∧ b % 2 = 1) := fun z => by
      have := Nat.and_mod_two_eq_one.mpr z
      omega
    have e4 : (a ||| b).testBit 0 = (a.testBit 0 || b.testBit 0) := Nat.testBit_or a b 0
    rw [Nat.testBit_zero, Nat.testBit_zero, Nat.testBit_zero, ← Bool.decide_or, decide_eq_decide] at e4
    omega
theorem or_and_xor (a b : Nat) : a ||| b = (a ^^^ b) + (a &&& b) := by
  rw [← or_add (a ^^^ b) (a &&& b) _ (Nat.le_refl _)]
  · apply Nat.eq_of_testBit_eq
    intro i
    rw [Nat.testBit_or, Nat.testBit_or, Nat.testBit_xor, Nat.testBit_and]
    cases a.testBit i <;> cases b.testBit i <;> rfl
  · apply Nat.eq_of_testBit_eq
    intro i
    rw [Nat.testBit_and, Nat.testBit_xor, Nat.testBit_and, Nat.zero_testBit]
    cases a.testBit i <;> cases b.testBit i <;> rfl
theorem or_disj {a b : Nat} (h : ∀ i, a.testBit i = true → b.testBit i = true → False) : a ||| b = a + b := by
  have e : a &&& b = 0 := Classical.byContradiction fun ne => by
    obtain ⟨i, h1, h2⟩ := and_ne.mp ne
    exact h i h1 h2
  exact or_add a b a (Nat.le_refl _) e
theorem foldl_or_sum : ∀ (g : List Nat) (m : Nat), g.Nodup → (∀ i ∈ g, m.testBit i = false) → g.foldl (fun m i => m ||| 2 ^ i) m = m + (g.map (2 ^ ·)).sum
  | [], m, _, _ => by simp
  | a :: g, m, hn, h => by
    obtain ⟨h1, h2⟩ := List.nodup_cons.mp hn
    have e : m ||| 2 ^ a = m + 2 ^ a := or_disj fun i x y => by
      rw [Nat.testBit_two_pow] at y
      have := of_decide_eq_true y
      subst this
      rw [h a List.mem_cons_self] at x
      cases x
    rw [List.foldl_cons, foldl_or_sum g _ h2 (fun i hi => ?_), e, List.map_cons, List.sum_cons]
    · omega
    · rw [Nat.testBit_or, h i (List.mem_cons_of_mem _ hi), Nat.testBit_two_pow, Bool.false_or, decide_eq_false]
      rintro rfl
      exact h1 hi
theorem maskOf_sum {g : List Nat} (h : g.Nodup) : (g.map (2 ^ ·)).sum = maskOf g := by
  unfold maskOf
  rw [foldl_or_sum g 0 h fun i _ => Nat.zero_testBit i]
  omega
/-- one of each group -/
def due1 (due g : List Nat) : List Nat := due.flatMap fun m => g.map fun i => m ||| 2 ^ i
def dueOf (gs : List (List Nat)) : List Nat := gs.foldl due1 [0]
structure Due (gs : List (List Nat)) (n many : Nat) (due : List Nat) : Prop where
  nd : due.Nodup
  pcs : ∀ x ∈ due, pc x = n
  inn : ∀ x ∈ due, ∀ i, x.testBit i = true → i ∈ gs.flatten
  mem : ∀ x, x ∈ due ↔ MinOf (Tr (gs.map maskOf) many) x
theorem due_step {gs : List (List Nat)} {n many : Nat} {due g : List Nat} (D : Due gs n many due) (hg : g.Nodup) (hd : ∀ i ∈ g, i ∉ gs.flatten) (hl : ∀ i ∈ g, i < many) : Due (gs ++ [g]) (n + 1) many (due1 due g) := by
  have off : ∀ x ∈ due, ∀ i ∈ g, x.testBit i = false := fun x hx i hi => by
    cases h : x.testBit i with
    | false => rfl
    | true => exact absurd (D.inn x hx i h) (hd i hi)
  have pcs : ∀ x ∈ due1 due g, pc x = n + 1 := fun x hx => by
    obtain ⟨k, hk, hx⟩ := List.mem_flatMap.mp hx
    obtain ⟨i, hi, rfl⟩ := List.mem_map.mp hx
    rw [pc_set i k (off k hk i hi), D.pcs k hk]
  refine ⟨?_, pcs, fun x hx i hb => ?_, fun x => ?_⟩
  · show (due.flatMap _).Pairwise _
    rw [List.pairwise_flatMap]
    refine ⟨fun k hk => ?_, D.nd.imp_of_mem fun {a b} ha hb ne x hx y hy e => ?_⟩
    · rw [List.pairwise_map]
      refine hg.imp_of_mem fun {i j} hi hj ne e => ?_
      have h1 : (k ||| 2 ^ i).testBit i = true := by rw [Nat.testBit_or, Nat.testBit_two_pow]; simp
      rw [e, Nat.testBit_or, off k hk i hi, Bool.false_or, Nat.testBit_two_pow] at h1
      exact ne (of_decide_eq_true h1).symm
    · obtain ⟨i, hi, rfl⟩ := List.mem_map.mp hx
      obtain ⟨j, hj, rfl⟩ := List.mem_map.mp hy
      apply ne
      apply Nat.eq_of_testBit_eq
      intro l
      by_cases hl : l ∈ g
      · rw [off a ha l hl, off b hb l hl]
      · have h1 : (a ||| 2 ^ i).testBit l = (b ||| 2 ^ j).testBit l := by rw [e]
        rw [Nat.testBit_or, Nat.testBit_or, Nat.testBit_two_pow, Nat.testBit_two_pow, decide_eq_false (fun (z : i = l) => hl (z ▸ hi)), decide_eq_false (fun (z : j = l) => hl (z ▸ hj)), Bool.or_false, Bool.or_false] at h1
        exact h1
  · obtain ⟨k, hk, hx⟩ := List.mem_flatMap.mp hx
    obtain ⟨j, hj, rfl⟩ := List.mem_map.mp hx
    rw [Nat.testBit_or, Bool.or_eq_true, Nat.testBit_two_pow, decide_eq_true_eq] at hb
    rw [List.flatten_append, List.mem_append]
    rcases hb with hb | hb
    · exact .inl (D.inn k hk i hb)
    · subst hb
      exact .inr (by simpa using hj)
  · have key : ∀ y, y ∈ due1 due g ↔ y ∈ grow (maskOf g) many due := fun y => by
      unfold due1 grow
      rw [List.mem_flatMap, List.mem_flatMap]
      refine exists_congr fun k => and_congr_right fun hk => ?_
      unfold grow1
      have z : k &&& maskOf g = 0 := Classical.byContradiction fun ne => by
        obtain ⟨i, h1, h2⟩ := and_ne.mp ne
        rw [maskOf_bit, decide_eq_true_eq] at h2
        rw [off k hk i h2] at h1
        cases h1
      rw [if_neg (fun ne => ne z), List.mem_map, List.mem_map]
      refine exists_congr fun i => and_congr_left fun _ => ?_
      rw [mem_bitsOf, maskOf_bit, decide_eq_true_eq]
      exact ⟨fun h => ⟨hl i h, h⟩, fun h => h.2⟩
    rw [List.map_append]
    have := grow_min (m := maskOf g) D.mem x
    rw [List.map_singleton, ← this, ← MinOf.congr key x]
    constructor
    · intro hx
      exact ⟨hx, fun k hk hs => pc_inj hs (by rw [pcs k hk, pcs x hx]; exact Nat.le_refl _)⟩
    · exact fun h => h.1
theorem due_nil (many : Nat) : Due [] 0 many [0] := by
  refine ⟨List.pairwise_singleton _ _, fun x hx => ?_, fun x hx i hi => ?_, fun x => tr_nil many x⟩
  · rw [List.mem_singleton.mp hx]; rfl
  · rw [List.mem_singleton.mp hx, Nat.zero_testBit] at hi
    cases hi
/-- the masks of the groups are apart -/
theorem mask_anti {gs : List (List Nat)} (hn : gs.flatten.Nodup) (h0 : ∀ g ∈ gs, g ≠ []) : (gs.map maskOf).Nodup ∧ ∀ x, MinOf (· ∈ gs.map maskOf) x ↔ x ∈ gs.map maskOf := by
  have fl : ∀ gs : List (List Nat), gs.flatten.Nodup → (∀ g ∈ gs, g ≠ []) → gs.Pairwise (fun a b => ∀ i, i ∈ a → i ∉ b) := by
    intro gs
    induction gs with
    | nil => intro _ _; exact List.Pairwise.nil
    | cons g gs ih =>
      intro h h0
      rw [List.flatten_cons] at h
      obtain ⟨h1, h2, h3⟩ := List.nodup_append.mp h
      refine List.pairwise_cons.mpr ⟨fun b hb i hi hib => ?_, ih h2 fun x hx => h0 x (List.mem_cons_of_mem _ hx)⟩
      exact h3 i hi i (List.mem_flatten.mpr ⟨b, hb, hib⟩) rfl
  have pw := fl gs hn h0
  have sub_no : ∀ a b : List Nat, a ≠ [] → (∀ i, i ∈ a → i ∉ b) → ¬ sub (maskOf a) (maskOf b) := fun a b ha hab hs => by
    obtain ⟨i, hi⟩ := List.exists_mem_of_ne_nil a ha
    have h1 := sub_iff.mp hs i (by rw [maskOf_bit, decide_eq_true_eq]; exact hi)
    rw [maskOf_bit, decide_eq_true_eq] at h1
    exact hab i hi h1
  constructor
  · show (gs.map maskOf).Pairwise _
    rw [List.pairwise_map]
    refine pw.imp_of_mem fun {a b} ha hb hab e => sub_no a b (h0 a ha) hab ?_
    rw [e]
    exact sub_refl _
  · intro x
    refine ⟨fun h => h.1, fun h => ⟨h, fun k hk hs => ?_⟩⟩
    obtain ⟨b, hb, rfl⟩ := List.mem_map.mp h
    obtain ⟨a, ha, rfl⟩ := List.mem_map.mp hk
    obtain ⟨i, hi⟩ := List.getElem?_of_mem ha
    obtain ⟨j, hj⟩ := List.getElem?_of_mem hb
    have at_ : ∀ {i j : Nat} {a b : List Nat}, gs[i]? = some a → gs[j]? = some b → i < j → ∀ l, l ∈ a → l ∉ b := fun {i j a b} hi hj hij => by
      obtain ⟨hi', e1⟩ := List.getElem?_eq_some_iff.mp hi
      obtain ⟨hj', e2⟩ := List.getElem?_eq_some_iff.mp hj
      rw [← e1, ← e2]
      exact List.pairwise_iff_getElem.mp pw i j hi' hj' hij
    rcases Nat.lt_trichotomy i j with z | z | z
    · exact absurd hs (sub_no a b (h0 a ha) (at_ hi hj z))
    · subst z
      rw [hi] at hj
      rw [Option.some.inj hj]
    · exact absurd hs (sub_no a b (h0 a ha) fun l hl hlb => at_ hj hi z l hlb hl)
/-- supersets of masks that stand there add nothing -/
theorem tr_more {ms more : List Nat} {many : Nat} (h : ∀ m ∈ more, ∃ k ∈ ms, sub k m) (t : Nat) : Tr (ms ++ more) many t ↔ Tr ms many t := by
  constructor
  · exact fun a => ⟨a.1, fun m hm => a.2 m (List.mem_append_left _ hm)⟩
  · refine fun a => ⟨a.1, fun m hm => ?_⟩
    rcases List.mem_append.mp hm with hm | hm
    · exact a.2 m hm
    · obtain ⟨k, hk, hs⟩ := h m hm
      rw [Nat.and_comm]
      refine meet_mono hs ?_
      rw [Nat.and_comm]
      exact a.2 k hk
theorem tr_perm {ms ns : List Nat} {many : Nat} (h : ∀ x, x ∈ ms ↔ x ∈ ns) (t : Nat) : Tr ms many t ↔ Tr ns many t := by
  unfold Tr
  refine and_congr_right fun _ => ⟨fun f m hm => f m ((h m).mpr hm), fun f m hm => f m ((h m).mp hm)⟩
end MK
/-! KBase: rules of our own beside the hand layer: sorted by a def as key, the items of a list op=. -/
namespace L2.KK
open PySem PySem.Spec PyProof.Rows
section
variable {X : Cx} {pins : List (Addr × Obj)} {σ : St} {H H' : Hp} {s : Shared} {h' : Heap} {a : Addr} {o : HO}
/-- an object of ours that nobody tracked is changed and tracked from now on -/
theorem adopt {t' : Nat} (I : Inv X pins σ H s) (f : FpOk X pins H a) (k : ∀ b u, b ≠ a → s.heap.get? b = some u → h'.get? b = some u) (new : ObjOk X.prog X.w (upd H a o) h' a o) :
    Inv X pins σ (upd H a o) { s with heap := h', toks := t' } := by
  obtain ⟨f0, f1, f2, f3, f4, f5⟩ := f
  have nb : ∀ b u, H b = some u → b ≠ a := fun b u e => ne_of_none e f0
  refine I.step (g' := s.gens) (d' := s.drawn) (ch := [a]) (fun b hb => ?_) (fun b u _ _ hc e _ => k b u (fun z => hc (by rw [z]; exact List.mem_singleton.mpr rfl)) e)
    (fun b u _ _ hc e _ => ⟨u.slots, k b u (fun z => hc (by rw [z]; exact List.mem_singleton.mpr rfl)) e⟩) (fun b u hc e n => ?_) (fun b u hc e => ⟨u, k b u (fun z => hc (by rw [z]; exact List.mem_singleton.mpr rfl)) e⟩)
    (fun b xs e => by rw [upd_ne (nb b _ e)]; exact e) (fun b u xs e => by rw [upd_ne (nb b _ e)]; exact e) (fun b ps e => ⟨#[], by rw [upd_ne (nb b _ e), e]; simp⟩) (fun m hm => ?_) (fun b u e => ?_) I.bare
  · rw [List.mem_singleton.mp hb]
    exact ⟨f3, f1, f4, f5⟩
  · rw [upd_ne (fun z => hc (by rw [z]; exact List.mem_singleton.mpr rfl))]
    exact n
  · obtain ⟨u, es, ep, ho, r⟩ := hm
    exact ⟨u, es, ep, k _ u f1.symm ho, r⟩
  · by_cases hb : b = a
    · subst hb
      rw [upd_same] at e
      cases e
      exact new
    · rw [upd_ne hb] at e
      refine (I.hok b u e).stay (fun c v hc q => k c v ?_ q) (fun c q => by rw [upd_ne (nb c _ q)]; exact q) fun c xs q => by rw [upd_ne (nb c _ q)]; exact q
      rcases hc with z | z
      · rw [z]; exact hb
      · exact nb c _ z
variable {k : Nat} {f : Addr} {fd : FuncData} {ps : List Str} {sp : Sp}
/-- a def called from within the frames of a built-in -/
theorem run_in {A : Around} {Q : VK} {E : Value → Shared → Prop} {us : List Value} {vs : List V} (F : FnOk X.prog X.w X.K X.mg X.base CX0 k f fd ps sp) (hA : A.frames = some X.stack) (hr : Room k A) (hb : Binds X.K fd ps [])
    (I : Inv X pins σ H s) (r : Vals vs us) (h : sp vs H Q E0) : wpAny (model X.prog X.w) A (call (.ref f) us) (fun u s' => CE X.stack X.prog X.w H s Q u s') E s := by
  have hl : us.length = ps.length := by
    rw [← r.length]
    exact F.len _ _ _ _ h
  have e := I.env0
  have bt := hb s us I.kIn (by simpa using hl)
  rw [List.append_nil] at bt
  refine wpAny_call (codeAny_mono (F.run A X.stack s H ⟨us, []⟩ us vs Q E0 hr ⟨by rw [hA], e.mod, e.bs, e.bsz, e.funs, e.frf, e.hok, e.bare⟩ bt r h) fun q s' hq => ?_)
  cases q with
  | error e => exact hq.elim
  | ok fl =>
    cases fl with
    | ret u => exact hq
    | next => exact hq.elim
    | brk => exact hq.elim
    | cont => exact hq.elim
theorem ce_inv {Q : VK} {u : Value} {s' : Shared} (I : Inv X pins σ H s) (h : CE X.stack X.prog X.w H s Q u s') :
    ∃ v H', Inv X pins σ H' s' ∧ RelV v u ∧ Q v H' ∧ Un (frs X.stack) [] H H' s.heap s'.heap := by
  obtain ⟨v, H', os, bare, un, hok, r, q⟩ := h
  exact ⟨v, H', I.call' os un hok bare (fun b hb => nomatch hb), r, q, un⟩
theorem notStk {b : Addr} (I : Inv X pins σ H s) (f : FpOk X pins H b) : b ∉ frs X.stack := fun hb => by
  rcases List.mem_cons.mp (I.stkSub b hb) with z | z
  · exact f.2.1 z
  · exact f.2.2.1 z

/-! ### sorted(xs, key=f), f a def of the program -/

theorem paired_append {α β : Type} {F : α → β → Prop} : ∀ {a c : List α} {b d : List β}, Paired F a b → Paired F c d → Paired F (a ++ c) (b ++ d)
  | _, _, _, _, .nil, h => h
  | _, _, _, _, .cons r t, h => .cons r (paired_append t h)
theorem paired_left {α β : Type} {F : α → β → Prop} : ∀ {a : List α} {b : List β}, Paired F a b → ∀ y ∈ a, ∃ x, F y x
  | _, _, .cons r t, y, h => by
    rcases List.mem_cons.mp h with h | h
    · exact ⟨_, h ▸ r⟩
    · exact paired_left t y h
theorem paired_zip {α β : Type} {F : α → β → Prop} : ∀ {a : List α} {b : List β}, Paired F a b → ∀ p ∈ a.zip b, F p.1 p.2
  | _, _, .nil, p, h => by simp at h
  | _, _, .cons r t, p, h => by
    rw [List.zip_cons_cons] at h
    rcases List.mem_cons.mp h with h | h
    · rw [h]; exact r
    · exact paired_zip t p h
instance : Nonempty V := ⟨.non⟩
/-- the value of the machine, as the layer has it -/
def vOf (u : Value) : V := (absV u).getD .non
theorem vOf_eq {x : V} {u : Value} (r : RelV x u) : vOf u = x := by
  unfold vOf
  rw [r.abs]
  rfl
theorem vals_vOf : ∀ {xs : List V} {us : List Value}, Vals xs us → us.map vOf = xs
  | _, _, .nil => rfl
  | _, _, .cons r t => by rw [List.map_cons, vOf_eq r, vals_vOf t]
theorem rel_vOf : ∀ {xs : List V} {us : List Value}, Vals xs us → ∀ u ∈ us, RelV (vOf u) u
  | _, _, .cons r t, u, h => by
    rcases List.mem_cons.mp h with h | h
    · rw [h, vOf_eq r]; exact r
    · exact rel_vOf t u h
theorem vals_of_rel : ∀ {us : List Value}, (∀ u ∈ us, RelV (vOf u) u) → Vals (us.map vOf) us
  | [], _ => .nil
  | u :: us, h => .cons (h u List.mem_cons_self) (vals_of_rel fun v hv => h v (List.mem_cons_of_mem _ hv))
/-- how keys compare: kv x y H: y is the key of x; rk x: its rank -/
structure KeyKind (X : Cx) {R : Type} (rk : V → R) (kv : V → V → Hp → Prop) (ltr : R → R → Bool) : Prop where
  grow : ∀ x y H H', Same H H' → kv x y H → kv x y H'
  one : ∀ x x' y H, kv x y H → kv x' y H → rk x = rk x'
  swo : SrtO.Swo ltr
  cmp : ∀ (pins : List (Addr × Obj)) (σ : St) (H : Hp) (s : Shared) (A : Around) (us : List Value) (ρ : V → R), Room 6 A → Inv X pins σ H s → 2 ≤ us.length → (∀ u ∈ us, RelV (vOf u) u ∧ ∃ x, kv x (vOf u) H ∧ rk x = ρ (vOf u)) →
    ∃ κ, (∀ (Q : SortKind → Shared → Prop) (E : Value → Shared → Prop), Q κ s → wpAny (model X.prog X.w) A (keyKind' us.toArray) Q E s) ∧
      SrtO.Cmp X.prog X.w A s κ (fun p => p.1 ∈ us) (fun p q => ltr (ρ (vOf p.1)) (ρ (vOf q.1)))
theorem zip_toList (k : Array Value) (vs : List Value) : (k.zip vs.toArray).toList = k.toList.zip vs := by simp
theorem pw_map {α β : Type} {R : β → β → Prop} {S : α → α → Prop} {g : α → β} {l : List α} (h : l.Pairwise S) (k : ∀ a b, S a b → R (g a) (g b)) : (l.map g).Pairwise R := by
  rw [List.pairwise_map]
  exact h.imp fun {a b} => k a b
variable {kS a : Addr} {e1 : Nat} {xs : List V} {vs : List Value} {R : Type} {rk : V → R} {kv : V → V → Hp → Prop} {ltr : R → R → Bool} {P : PySem.Fin → Shared → Prop} {E : Value → Shared → Prop}
theorem key_end {A : Around} {kA : Array Value} {e : Nat} {ks : List V} (K : KeyKind X rk kv ltr) (hr : Room 6 A) (I : Inv X pins σ H' s) (h1 : s.heap.get? kS = some (seqObj "list" kA e)) (h2 : s.heap.get? a = some (seqObj "list" #[] e1)) (hne : kS ≠ a)
    (f1 : FpOk X pins H' kS) (f2 : FpOk X pins H' a) (rv : Vals ks kA.toList) (rx : Vals xs vs) (hl : ks.length = xs.length) (hz : xs.length ≤ sizeLine) (ρ : V → R) (hk : ∀ y ∈ ks, ∃ x, kv x y H' ∧ rk x = ρ y)
    (h : ∀ (qs : List (V × V)) (s' : Shared), qs.Perm (ks.zip xs) → qs.Pairwise (fun p q => ltr (ρ q.1) (ρ p.1) = false) → Inv X pins σ (upd H' a (.lst (qs.map Prod.snd))) s' → P (.done (.ret .none)) s') :
    wpAny (model X.prog X.w) A (ksk_end a false vs.toArray e1 (.ref kS) kA) P E s := by
  have lk : kA.size = ks.length := by
    have := rv.length
    rw [Array.length_toList] at this
    exact this.symm
  have lv : vs.length = xs.length := rx.length.symm
  have zs : (kA.zip vs.toArray).size = xs.length := by rw [Array.size_zip, lk, List.size_toArray, lv, hl, Nat.min_self]
  -- what is left to do once the items are in order
  have fin : ∀ st : SortSt, SrtO.Srtd (fun p q : Keyed => ltr (ρ (vOf p.1)) (ρ (vOf q.1))) (arrOf st).toList → (arrOf st).toList.Perm (kA.toList.zip vs) → failedOf st = none →
      wpAny (model X.prog X.w) A (ksk_tail a false e1 (.ref kS) st) P E s := fun st hs hp hf => by
    have hp2 : ((arrOf st).toList.map fun p : Keyed => (vOf p.1, vOf p.2)).Perm (ks.zip xs) := by
      have q := hp.map fun p : Keyed => (vOf p.1, vOf p.2)
      have ez : (kA.toList.zip vs).map (fun p : Keyed => (vOf p.1, vOf p.2)) = ks.zip xs := by
        rw [← vals_vOf rv, ← vals_vOf rx, List.zip_map]
        rfl
      rw [ez] at q
      exact q
    have so : (((arrOf st).map (·.2)).toList) = (arrOf st).toList.map Prod.snd := by rw [Array.toList_map]
    have ln : ((arrOf st).map (·.2)).size = xs.length := by
      have q := hp.length_eq
      rw [Array.length_toList, List.length_zip, Array.length_toList, lk, lv, hl, Nat.min_self] at q
      rw [Array.size_map, q]
    obtain ⟨c1, g1⟩ : ∃ c, (s.heap.update kS (Obj.mapSeq fun _ => (#[] : Array Value))).get? kS = some (seqObj "list" #[] c) := ⟨_, get?_update_seq h1 fun _ => #[]⟩
    have s1 := Heap.SameBut.update s.heap kS (Obj.mapSeq fun _ => (#[] : Array Value))
    have g2 : (s.heap.update kS (Obj.mapSeq fun _ => (#[] : Array Value))).get? a = some (seqObj "list" #[] e1) := (s1.2 a hne.symm).trans h2
    have I1 : Inv X pins σ H' { s with heap := s.heap.update kS (Obj.mapSeq fun _ => (#[] : Array Value)) } :=
      I.turned (t' := s.toks) (fun b u hb e => (s1.2 b hb).trans e) f1.1 f1.2.1 f1.2.2.2.1 f1.2.2.2.2.1 f1.2.2.2.2.2
    have s2 := Heap.SameBut.update (s.heap.update kS (Obj.mapSeq fun _ => (#[] : Array Value))) a (Obj.mapSeq fun _ => (arrOf st).map (·.2))
    obtain ⟨c2, g3⟩ : ∃ c, ((s.heap.update kS (Obj.mapSeq fun _ => (#[] : Array Value))).update a (Obj.mapSeq fun _ => (arrOf st).map (·.2))).get? a = some (seqObj "list" ((arrOf st).map (·.2)) c) :=
      ⟨_, get?_update_seq g2 fun _ => (arrOf st).map (·.2)⟩
    unfold ksk_tail
    try dsimp only
    refine wpAny_bind (listUpdate_at h1 rfl ?_ (by rw [lk, hl]; exact hz) (Nat.zero_le _))
    refine wpAny_bind (wpAny_letGo ?_)
    refine wpAny_bind (seqEpoch_at g2 rfl ?_)
    simp only [Bool.false_eq_true, if_false]
    refine wpAny_bind (listUpdate_at g2 rfl ?_ (Nat.zero_le _) (Nat.le_succ_of_le (by rw [ln]; exact hz)))
    rw [hf]
    simp only [bne_self_eq_false, Bool.false_eq_true, if_false]
    have rel2 : ∀ u ∈ (arrOf st).toList.map Prod.snd, RelV (vOf u) u := fun u hu => by
      obtain ⟨p, hp', rfl⟩ := List.mem_map.mp hu
      exact rel_vOf rx _ (List.of_mem_zip (hp.mem_iff.mp hp')).2
    have em : ((arrOf st).toList.map fun p : Keyed => (vOf p.1, vOf p.2)).map Prod.snd = ((arrOf st).toList.map Prod.snd).map vOf := by
      rw [List.map_map, List.map_map]
      rfl
    refine wpAny_pure (h ((arrOf st).toList.map fun p : Keyed => (vOf p.1, vOf p.2)) _ hp2 (pw_map hs fun p q z => z) ?_)
    refine adopt (o := .lst (((arrOf st).toList.map fun p : Keyed => (vOf p.1, vOf p.2)).map Prod.snd)) (h' := (s.heap.update kS (Obj.mapSeq fun _ => (#[] : Array Value))).update a (Obj.mapSeq fun _ => (arrOf st).map (·.2))) (t' := s.toks) I1 f2 (fun b u hb e => (s2.2 b hb).trans e) ⟨?_, (arrOf st).toList.map Prod.snd, c2, ?_, ?_⟩
    · rw [List.length_map, hp2.length_eq, List.length_zip, hl, Nat.min_self]
      exact hz
    · rw [em]
      exact vals_of_rel rel2
    · rw [← so, Array.toArray_toList]
      exact g3
  unfold ksk_end
  try dsimp only
  simp only [Bool.false_eq_true, if_false]
  by_cases h2' : vs.toArray.size < 2
  · rw [if_pos h2', if_pos h2']
    refine wpAny_bind (wpAny_pure ?_)
    rw [StateT.run_pure]
    refine wpAny_bind (wpAny_pure ?_)
    try dsimp only
    refine fin (SortSt.mk' general' (kA.zip vs.toArray) #[] 7 none) ?_ (by show (kA.zip vs.toArray).toList.Perm _; rw [zip_toList]) rfl
    show List.Pairwise _ (kA.zip vs.toArray).toList
    have : (kA.zip vs.toArray).toList.length < 2 := by
      rw [Array.length_toList, zs, ← lv, ← List.size_toArray]
      exact h2'
    match (kA.zip vs.toArray).toList, this with
    | [], _ => exact List.Pairwise.nil
    | [p], _ => exact List.pairwise_singleton _ _
  · rw [if_neg h2', if_neg h2']
    rw [List.size_toArray] at h2'
    have rk' := rel_vOf rv
    obtain ⟨κ, hkind, hT⟩ := K.cmp pins σ H' s A kA.toList ρ hr I (by rw [Array.length_toList, lk, hl, ← lv]; omega) (fun u hu => ⟨rk' u hu, hk _ (by rw [← vals_vOf rv]; exact List.mem_map.mpr ⟨u, hu, rfl⟩)⟩)
    rw [Array.toArray_toList] at hkind
    refine wpAny_bind (hkind _ _ ?_)
    have swo : SrtO.Swo (fun p q : Keyed => ltr (ρ (vOf p.1)) (ρ (vOf q.1))) := ⟨fun x y => K.swo.asym _ _, fun x y z => K.swo.tr _ _ _⟩
    refine wpAny_bind (wpAny_mono (SrtO.wpS_sortO (st0 := SortSt.mk' κ (kA.zip vs.toArray) #[] 7 none)
      (Q := fun _ st' => SrtO.Srtd (fun p q : Keyed => ltr (ρ (vOf p.1)) (ρ (vOf q.1))) (arrOf st').toList ∧ (arrOf st').toList.Perm (kA.toList.zip vs) ∧ failedOf st' = none) swo hT rfl (fun p hp => ?_) rfl rfl fun st' a1 a2 a3 => ⟨a1, ?_, a3⟩) ?_ fun _ _ e => e)
    · have hp' : p ∈ (kA.zip vs.toArray).toList := hp
      rw [zip_toList] at hp'
      obtain ⟨u, v⟩ := p
      exact (List.of_mem_zip hp').1
    · have q : (arrOf st').toList.Perm (kA.zip vs.toArray).toList := a2.perm
      rw [zip_toList] at q
      exact q
    · rintro ⟨⟨⟩, st'⟩ s' ⟨rfl, q1, q2, q3⟩
      try dsimp only
      exact fin st' q1 q2 q3
theorem key_rest {A : Around} {f : Addr} {fd : FuncData} {ps : List Str} {sp : Sp} {k : Nat} (F : FnOk X.prog X.w X.K X.mg X.base CX0 k f fd ps sp) (hA : A.frames = some X.stack) (hrk : Room k A) (hb : Binds X.K fd ps []) (K : KeyKind X rk kv ltr) (hr : Room 6 A)
    (I : Inv X pins σ H s) (h1 : s.heap.get? kS = some (seqObj "list" #[] 0)) (h2 : s.heap.get? a = some (seqObj "list" #[] e1)) (hne : kS ≠ a) (f1 : ∀ H', H' kS = none → FpOk X pins H' kS) (f2 : ∀ H', H' a = none → FpOk X pins H' a) (n1 : H kS = none) (n2 : H a = none)
    (rx : Vals xs vs) (hz : xs.length ≤ sizeLine) (hsp : ∀ x ∈ xs, ∀ H', Same H H' → ∀ Q : VK, (∀ y H'', Same H' H'' → kv x y H'' → Q y H'') → sp [x] H' Q E0)
    (h : ∀ (ys : List V) (H' : Hp) (s' : Shared), Same H H' → H' a = none → ys.Perm xs → ys.Pairwise (fun x y => ltr (rk y) (rk x) = false) → Inv X pins σ (upd H' a (.lst ys)) s' → P (.done (.ret .none)) s') :
    wpAny (model X.prog X.w) A (ksk_rest a (.ref f) false vs.toArray e1 (.ref kS)) P E s := by
  have lv : vs.length = xs.length := rx.length.symm
  unfold ksk_rest
  refine wpAny_bind (wpAny_rule ?_)
  rw [List.forIn_toArray]
  refine wpAny_bind (ksk_fold (fun i s' => ∃ (H' : Hp) (kA : Array Value) (e : Nat) (ks : List V), Inv X pins σ H' s' ∧ Same H H' ∧ s'.heap.get? kS = some (seqObj "list" kA e) ∧ s'.heap.get? a = some (seqObj "list" #[] e1) ∧
    H' kS = none ∧ H' a = none ∧ Vals ks kA.toList ∧ Paired (fun y x => kv x y H') ks (xs.take i)) vs 0 s ⟨H, #[], 0, [], I, Same.refl H, h1, h2, n1, n2, .nil, by rw [List.take_zero]; exact .nil⟩ ?step ?done)
  case step =>
    rintro j u s1 hu ⟨H1, kA, e, ks, I1, sm, g1, g2, m1, m2, rv, pk⟩
    rw [Nat.zero_add] at pk ⊢
    obtain ⟨hj, _⟩ := List.getElem?_eq_some_iff.mp hu
    have hjx : j < xs.length := by rw [← lv]; exact hj
    obtain ⟨u', hu', ru⟩ := rx.get (List.getElem?_eq_getElem hjx)
    rw [hu] at hu'
    cases hu'
    have lks : ks.length = j := by
      have q := pk.length
      rw [List.length_take] at q
      omega
    refine wpAny_bind (wpAny_attempt (wpAny_mono (run_in F hA hrk hb I1 (.cons ru .nil) (hsp _ (List.getElem_mem hjx) H1 sm (fun y H'' => Same H1 H'' ∧ kv xs[j] y H'') fun y H'' a b => ⟨a, b⟩)) (fun v s2 hc => ?_) fun _ _ z => z))
    obtain ⟨y, H2, I2, ry, ⟨sm2, ky⟩, un⟩ := ce_inv I1 hc
    try dsimp only
    have k1 := un.keep kS _ g1 m1 (notStk I1 (f1 _ m1)) (fun z => nomatch z)
    have k2 := un.keep a _ g2 m2 (notStk I1 (f2 _ m2)) (fun z => nomatch z)
    have p1 := un.free kS _ g1 m1 (fun z => nomatch z)
    have p2 := un.free a _ g2 m2 (fun z => nomatch z)
    have sk : kA.size = j := by
      have q : ks.length = kA.toList.length := Paired.length rv
      rw [Array.length_toList] at q
      exact q.symm.trans lks
    have sb := Heap.SameBut.update s2.heap kS (Obj.mapSeq (·.push v))
    obtain ⟨c, hc⟩ : ∃ c, (s2.heap.update kS (Obj.mapSeq (·.push v))).get? kS = some (seqObj "list" (kA.push v) c) := ⟨_, get?_update_seq k1 (·.push v)⟩
    have fk := f1 _ p1
    refine wpAny_bind (listUpdate_at k1 rfl ?_ (by rw [sk]; omega) (by rw [Array.size_push, sk]; omega))
    refine wpAny_pure ⟨rfl, H2, kA.push v, c, ks ++ [y], I2.turned (t' := s2.toks) (fun b o hb e => (sb.2 b hb).trans e) p1 fk.2.1 fk.2.2.2.1 fk.2.2.2.2.1 fk.2.2.2.2.2, sm.trans sm2, hc, (sb.2 a hne.symm).trans k2, p1, p2, ?_, ?_⟩
    · rw [Array.toList_push]
      exact rv.append (.cons ry .nil)
    · rw [List.take_add_one, List.getElem?_eq_getElem hjx]
      exact paired_append (Paired.mapP pk fun a b z => K.grow _ _ _ _ sm2 z) (.cons ky .nil)
  case done =>
    rintro s1 ⟨H1, kA, e, ks, I1, sm, g1, g2, m1, m2, rv, pk⟩
    have et : xs.take (0 + vs.length) = xs := List.take_of_length_le (by omega)
    rw [et] at pk
    try dsimp only
    refine wpAny_bind (listItems_at g1 rfl ?_)
    have rho : ∀ y x, kv x y H1 → rk x = rk (Classical.epsilon fun x => kv x y H1) := fun y x hx => K.one _ _ _ _ hx (Classical.epsilon_spec (p := fun x => kv x y H1) ⟨x, hx⟩)
    refine key_end K hr I1 g1 g2 hne (f1 _ m1) (f2 _ m2) rv rx pk.length hz (fun y => rk (Classical.epsilon fun x => kv x y H1)) (fun y hy => ?_) fun qs s' a1 a2 a3 => h (qs.map Prod.snd) H1 s' sm m2 ?_ ?_ a3
    · obtain ⟨x, hx⟩ := paired_left pk y hy
      exact ⟨x, hx, rho y x hx⟩
    · have q := a1.map Prod.snd
      rw [List.map_snd_zip (by rw [pk.length]; exact Nat.le_refl _)] at q
      exact q
    · rw [List.pairwise_map]
      refine a2.imp_of_mem fun {p q} hp hq z => ?_
      rw [rho _ _ (paired_zip pk _ (a1.mem_iff.mp hp)), rho _ _ (paired_zip pk _ (a1.mem_iff.mp hq))]
      exact z
/-- sorted(xs, key=f) -/
def rSortedF (K : PySem.W.Frag) (f : Addr) (sp : Sp) {R : Type} (rk : V → R) (kv : V → V → Hp → Prop) (ltr : R → R → Bool) : List V → List V → Hp → VK → Prop := fun vs zs H Q => ∃ (a : Addr) (xs : List V), vs = [.ref a] ∧ zs = [.ref f] ∧ SqL K H a xs ∧
  (∀ x ∈ xs, ∀ H', Same H H' → ∀ Q : VK, (∀ y H'', Same H' H'' → kv x y H'' → Q y H'') → sp [x] H' Q E0) ∧
  ∀ (ys : List V) (p : Addr) (H' : Hp), Same H H' → H' p = none → ys.Perm xs → ys.Pairwise (fun x y => ltr (rk y) (rk x) = false) → Q (.ref p) (upd H' p (.lst ys))
theorem cr_sortedF {f : Addr} {fd : FuncData} {ps : List Str} {sp : Sp} {k : Nat} (F : FnOk X.prog X.w X.K X.mg X.base CX0 k f fd ps sp) (hb : Binds X.K fd ps []) (hr : Room (k + 8) X.A) (K : KeyKind X rk kv ltr) : CallRK X (.builtin "sorted") [Str.ofString "key"] (rSortedF X.K f sp rk kv ltr) := by
  intro pins s σ H ws zs us ts Q I r rz h
  obtain ⟨l, xs, rfl, rfl, hl, hsp, q⟩ := h
  obtain rfl := Vals.ref1 r
  obtain ⟨w1, rfl, ew⟩ := vals1 rz
  obtain rfl : w1 = Value.ref f := ew
  obtain ⟨vs, rx, pl, hz⟩ := I.list hl
  have lv : vs.length = xs.length := rx.length.symm
  have r2 : Room (k + 6) X.A.in1.in1 := (show Room (k + 6 + 1) X.A.in1 from Room.in1 hr).in1
  refine call_function_entry_kw kind_sorted plain_sorted entry_sorted (ksk_s1 _ _) ?_
  unfold Builtin.«sorted»
  refine wpAny_bind (m := checkCount "sorted" 1 1 _) (wpAny_pure ?_)
  refine wpAny_bind (collect_list pl.isList ?_ (by rw [lv]; exact hz))
  refine wpAny_bind (wpAny_newList ?_ (by rw [lv]; exact hz))
  generalize hg : (s.heap.push (seqObj "list" #[] 0)).update s.heap.objs.size (Obj.mapSeq (· ++ vs.toArray)) = g
  have gs : g.objs.size = s.heap.objs.size + 1 := by rw [← hg, Heap.size_update, size_push']
  have keep : ∀ b o, s.heap.get? b = some o → g.get? b = some o := fun b o e => by
    rw [← hg, Heap.get?_update_ne _ _ _ _ (Nat.ne_of_lt (Heap.lt_size e))]
    exact Heap.get?_push_of_some _ e
  have I1 : Inv X pins σ H { s with heap := g } := I.kept (t' := s.toks) keep
  have ho : (g.push (seqObj "list" vs.toArray 0)).get? g.objs.size = some (seqObj "list" vs.toArray 0) := Heap.get?_push_size _ rfl
  have I2 : Inv X pins σ H { s with heap := g.push (seqObj "list" vs.toArray 0) } := I1.kept (t' := s.toks) fun b o e => Heap.get?_push_of_some _ e
  have f2 : ∀ H', H' g.objs.size = none → FpOk X pins H' g.objs.size := fun H' n => I1.fpOk (s := { s with heap := g }) (Nat.le_refl _) n
  have n2 : H g.objs.size = none := I1.hok.fresh (Nat.le_refl _)
  refine wpAny_bind (wpAny_holding (wpAny_call_entry_kw (T := "list") (s := { s with heap := g.push (seqObj "list" vs.toArray 0) }) slot_list_sort ⟨_, ho, rfl⟩ entry_list_sort ?body (ksk_l1 _ _)))
  case body =>
    show wpAny _ X.A.in1.in1 (Builtin.«list.sort» ⟨[.ref g.objs.size], [(Str.ofString "key", .ref f)]⟩) _ _ _
    rw [ksk_t1]
    unfold ksk_tree
    have s1 := Heap.SameBut.update (g.push (seqObj "list" vs.toArray 0)) g.objs.size (Obj.mapSeq fun _ => (#[] : Array Value))
    obtain ⟨e1, g1⟩ : ∃ e1, ((g.push (seqObj "list" vs.toArray 0)).update g.objs.size (Obj.mapSeq fun _ => (#[] : Array Value))).get? g.objs.size = some (seqObj "list" #[] e1) := ⟨_, get?_update_seq ho fun _ => #[]⟩
    generalize hg2 : (g.push (seqObj "list" vs.toArray 0)).update g.objs.size (Obj.mapSeq fun _ => (#[] : Array Value)) = g2 at s1 g1
    have gs2 : g2.objs.size = g.objs.size + 1 := by rw [← hg2, Heap.size_update, size_push']
    have fa := f2 H n2
    have I3 : Inv X pins σ H { s with heap := g2 } := I2.turned (t' := s.toks) (fun b o hb e => (s1.2 b hb).trans e) fa.1 fa.2.1 fa.2.2.2.1 fa.2.2.2.2.1 fa.2.2.2.2.2
    refine wpAny_bind (listItems_at ho rfl ?_)
    refine wpAny_bind (listUpdate_at ho rfl ?_ (by rw [List.size_toArray, lv]; exact hz) (Nat.zero_le _))
    rw [hg2]
    refine wpAny_bind (seqEpoch_at g1 rfl ?_)
    refine wpAny_bind (wpAny_newTuple ?_ (by show vs.length ≤ _; rw [lv]; exact hz))
    have I4 : Inv X pins σ H { s with heap := g2.push (seqObj "tuple" vs.toArray 0) } := I3.kept (t' := s.toks) fun b o e => Heap.get?_push_of_some _ e
    generalize hg3 : g2.push (seqObj "tuple" vs.toArray 0) = g3 at I4
    have gs3 : g3.objs.size = g2.objs.size + 1 := by rw [← hg3, size_push']
    have e3 : g3.get? g.objs.size = some (seqObj "list" #[] e1) := by rw [← hg3]; exact Heap.get?_push_of_some _ g1
    refine wpAny_bind (wpAny_newList ?_ (Nat.zero_le _))
    refine wpAny_holding ?_
    have I5 : Inv X pins σ H { s with heap := g3.push (seqObj "list" #[] 0) } := I4.kept (t' := s.toks) fun b o e => Heap.get?_push_of_some _ e
    have f1 : ∀ H', H' g3.objs.size = none → FpOk X pins H' g3.objs.size := fun H' n => I4.fpOk (s := { s with heap := g3 }) (Nat.le_refl _) n
    have hX := I.ok.frames
    refine key_rest F (by rw [← hX]) (r2.mono (by omega)) hb K (r2.mono (by omega)) I5 (Heap.get?_push_size _ rfl) (Heap.get?_push_of_some _ e3) (fun z => by have z' : (g3.objs.size : Nat) = g.objs.size := z; omega) f1 f2 (I4.hok.fresh (Nat.le_refl _)) n2 rx hz hsp fun ys H' s' a1 a2 a3 a4 a5 => ?_
    refine ⟨_, rfl, ?_⟩
    exact wpAny_pure ⟨_, rfl, .ref g.objs.size, _, a5, rfl, q ys _ H' a1 a2 a3 a4⟩
end
end L2.KK
namespace L2.KK
open PySem PySem.Spec PyProof.Rows
section
variable {X : Cx}
/-! ### o[i] of a list, for o[i] op= e -/
/-- o[j], 0 ≤ j, of a list -/
def rGetL (K : PySem.W.Frag) : V → V → Hp → VK → Prop := fun x y H Q => ∃ (p : Addr) (xs : List V) (j : Nat) (v : V), x = .ref p ∧ y = .int (j : Int) ∧ SqL K H p xs ∧ xs[j]? = some v ∧ j < 1000 ∧ Q v H
theorem get_list : PGet X (rGetL X.K) := by
  intro pins s σ H o i ov iv Q I ro ri h
  obtain ⟨p, xs, j, v, rfl, rfl, hl, hj, hb, q⟩ := h
  obtain rfl : ov = Value.ref p := ro
  obtain ⟨t, rfl⟩ := ri
  obtain ⟨its, rv, pl, hz⟩ := I.list hl
  obtain ⟨u, hu, ru⟩ := rv.get hj
  have hlt : j < its.length := (List.getElem?_eq_some_iff.mp hu).1
  refine wpAny_getItem_list (x := u) pl.isList (by omega) (by omega) ?_ ?_ 
  all_goals first
    | exact ⟨v, H, I, ru, q⟩
    | (simp; omega)
    | simpa using hu
/-! ### keys that are ints -/
def kInt (g : V → Int) : V → V → Hp → Prop := fun x y _ => y = .int (g x)
theorem key_int (g : V → Int) : KeyKind X g (kInt g) (fun i j => decide (i < j)) where
  grow := fun _ _ _ _ _ h => h
  one := fun x x' y H h h' => by
    have a : y = .int (g x) := h
    have b : y = .int (g x') := h'
    rw [a] at b
    injection b
  swo := ⟨fun x y h => by
    have := of_decide_eq_true h
    exact decide_eq_false (by omega), fun x y z h1 h2 => by
    have a := of_decide_eq_false h1
    have b := of_decide_eq_false h2
    exact decide_eq_false (by omega)⟩
  cmp := fun pins σ H s A us ρ hr I h2 hu => by
    have ex : ∀ u ∈ us, ∃ t, u = .int (ρ (vOf u)) t := fun u m => by
      obtain ⟨r, x, hx, e⟩ := hu u m
      have e2 : vOf u = .int (g x) := hx
      rw [e2] at r
      obtain ⟨t, et⟩ := r
      exact ⟨t, by rw [← e]; exact et⟩
    have all : ∀ l : List Value, (∀ u ∈ l, ∃ t, u = .int (ρ (vOf u)) t) → IntsAre l (l.map fun u => ρ (vOf u)) := by
      intro l
      induction l with
      | nil => intro _; exact .nil
      | cons u l ih =>
        intro h
        rw [List.map_cons]
        obtain ⟨t, e⟩ := h u List.mem_cons_self
        have q : IntsAre (.int (ρ (vOf u)) t :: l) (ρ (vOf u) :: l.map fun u => ρ (vOf u)) := .cons _ _ (ih fun v hv => h v (List.mem_cons_of_mem _ hv))
        rw [← e] at q
        exact q
    obtain ⟨κ, k1, k2⟩ := SrtO.ints_sortable (prog := X.prog) (w := X.w) (A := A) (s := s) (a := 0) (all us ex) h2 s.heap fun _ _ _ e => e
    refine ⟨κ, k1, fun p q hp hq => ?_⟩
    have q1 := k2 p q hp hq
    have ip : ∀ u ∈ us, SrtO.iv u = ρ (vOf u) := fun u m => by
      obtain ⟨t, e⟩ := ex u m
      have q : SrtO.iv (.int (ρ (vOf u)) t) = ρ (vOf u) := rfl
      rw [← e] at q
      exact q
    have el : SrtO.lt2 SrtO.ltIv p q = decide (ρ (vOf p.1) < ρ (vOf q.1)) := by
      show decide (SrtO.iv p.1 < SrtO.iv q.1) = _
      rw [ip _ hp, ip _ hq]
    rw [el] at q1
    exact q1

/-! ### keys (len(lot), lot), lot a tuple of ints -/
def ltLot (a b : List Int) : Bool := if a.length = b.length then HT.lexLt a b else decide (a.length < b.length)
def kLot (K : PySem.W.Frag) (rk : V → List Int) : V → V → Hp → Prop := fun x y H => ∃ t p, x = .ref t ∧ y = .ref p ∧ SqT K H t ((rk x).map V.int) ∧ H p = some (.tup [.int ((rk x).length : Int), .ref t])
theorem lexLt_self : ∀ l : List Int, HT.lexLt l l = false
  | [] => rfl
  | x :: l => by rw [HT.lexLt_cons, if_pos rfl, lexLt_self l]
theorem same_seqT {K : PySem.W.Frag} {H H' : Hp} {a : Addr} {xs : List V} (e : Same H H') (h : SqT K H a xs) : SqT K H' a xs := by
  rcases h with (h | ⟨o, h⟩) | h
  · exact .inl (.inl (e _ _ h))
  · exact .inl (.inr ⟨o, e _ _ h⟩)
  · exact .inr h
theorem swo_lot : SrtO.Swo ltLot := by
  refine ⟨fun x y h => ?_, fun x y z h1 h2 => ?_⟩
  · unfold ltLot at h ⊢
    by_cases e : x.length = y.length
    · rw [if_pos e] at h
      rw [if_pos e.symm]
      exact NtL.lex_asym _ _ h
    · rw [if_neg e] at h
      rw [if_neg (Ne.symm e)]
      have := of_decide_eq_true h
      exact decide_eq_false (by omega)
  · unfold ltLot at h1 h2 ⊢
    by_cases e1 : y.length = x.length
    · rw [if_pos e1] at h1
      by_cases e2 : z.length = y.length
      · rw [if_pos e2] at h2
        rw [if_pos (e2.trans e1)]
        exact NtL.lex_tr _ _ _ h1 h2
      · rw [if_neg e2] at h2
        have := of_decide_eq_false h2
        rw [if_neg (by omega)]
        exact decide_eq_false (by omega)
    · rw [if_neg e1] at h1
      have := of_decide_eq_false h1
      by_cases e2 : z.length = y.length
      · rw [if_neg (by omega)]
        exact decide_eq_false (by omega)
      · rw [if_neg e2] at h2
        have := of_decide_eq_false h2
        rw [if_neg (by omega)]
        exact decide_eq_false (by omega)
theorem ltLot_anti {a b : List Int} (h1 : ltLot a b = false) (h2 : ltLot b a = false) : a = b := by
  have key : ∀ a b : List Int, a.length = b.length → HT.lexLt a b = false → HT.lexLt b a = false → a = b := by
    intro a
    induction a with
    | nil => intro b h _ _; cases b with
      | nil => rfl
      | cons _ _ => simp at h
    | cons x a ih =>
      intro b h h1 h2
      cases b with
      | nil => simp at h
      | cons y b =>
        rw [HT.lexLt_cons] at h1 h2
        by_cases e : x = y
        · subst e
          rw [if_pos rfl] at h1 h2
          rw [ih b (by simpa using h) h1 h2]
        · rw [if_neg e] at h1
          rw [if_neg (Ne.symm e)] at h2
          have := of_decide_eq_false h1
          have := of_decide_eq_false h2
          exact absurd (by omega) e
  unfold ltLot at h1 h2
  by_cases e : a.length = b.length
  · rw [if_pos e] at h1
    rw [if_pos e.symm] at h2
    exact key a b e h1 h2
  · rw [if_neg e] at h1
    rw [if_neg (Ne.symm e)] at h2
    have := of_decide_eq_false h1
    have := of_decide_eq_false h2
    omega
theorem readsAll_ints {h : Heap} : ∀ {its : List Value} {ns : List Int}, IntsAre its ns → ∃ as, ReadsAll h its (ns.map PyData.int) as
  | _, _, .nil => ⟨_, .nil⟩
  | _, _, .cons n t r => by
    obtain ⟨as, q⟩ := readsAll_ints (h := h) r
    exact ⟨_, .cons (.int n t) q⟩
theorem shaped_ints (ns : List Int) : SeqAt.shaped (.tuple (ns.map PyData.int)) = true := by
  have h := PySem.W.plainAll_map (α := Int) ns
  have d := PySem.W.depthAll_map (α := Int) ns
  have c : PyData.canLayAll0 (ns.map PyData.int) = true := by
    induction ns with
    | nil => rfl
    | cons n ns ih =>
      rw [List.map_cons]
      unfold PyData.canLayAll0
      rw [ih (PySem.W.plainAll_map (α := Int) ns) (PySem.W.depthAll_map (α := Int) ns)]
      rfl
  unfold SeqAt.shaped
  rw [Bool.and_eq_true]
  refine ⟨?_, decide_eq_true ?_⟩
  · unfold PyData.canLay0
    exact c
  · unfold PyData.depth
    have e : PySem.W.Datum.depth Int = 0 := rfl
    rw [e] at d
    have d' : PyData.depthAll (ns.map PyData.int) ≤ 0 := d
    omega
theorem key_lot (rk : V → List Int) : KeyKind X rk (kLot X.K rk) ltLot where
  grow := fun x y H H' e ⟨t, p, h1, h2, h3, h4⟩ => ⟨t, p, h1, h2, same_seqT e h3, e _ _ h4⟩
  one := fun x x' y H ⟨t, p, h1, h2, h3, h4⟩ ⟨t', p', k1, k2, k3, k4⟩ => by
    subst h2
    injection k2 with e
    subst e
    rw [h4] at k4
    injection k4 with e
    injection e with e
    injection e with _ e
    injection e with e _
    rw [h1, k1, e]
  swo := swo_lot
  cmp := fun pins σ H s A us ρ hr I h2 hu => by
    -- what each key is
    have at_ : ∀ u ∈ us, ∃ (p : Addr) (o : Obj) (t : Addr) (tk : Tok) (n : Nat) (its : List Value), u = .ref p ∧ s.heap.get? p = some o ∧ o.cls = .type "tuple" ∧ o.data = .seq (List.toArray [.int ((ρ (vOf u)).length : Int) tk, .ref t]) n ∧
        IsTup s.heap t its.toArray ∧ IntsAre its (ρ (vOf u)) := fun u m => by
      obtain ⟨r, x, ⟨t, p, e1, e2, h3, h4⟩, e⟩ := hu u m
      rw [e2] at r
      obtain ⟨its, rv, pt, _⟩ := I.tuple h3
      obtain ⟨_, its2, rv2, o, ho, hc, n, hd⟩ := I.hok _ _ h4
      obtain ⟨u1, u2, rfl, r1, r2⟩ := vals2 rv2
      obtain ⟨tk, rfl⟩ := r1
      obtain rfl : u2 = Value.ref t := r2
      have er : u = Value.ref p := r
      refine ⟨p, o, t, tk, n, its, er, ho, hc, ?_, pt, ?_⟩
      · rw [← e]
        exact hd
      · rw [← e]
        have q := intsAre_of rv
        simpa using q
    have firsts : ∀ l : List Value, (∀ u ∈ l, u ∈ us) → ∃ fs : List Value, PySem.W.KatTups s.heap l fs ∧ fs.length = l.length ∧ ∀ f ∈ fs, ∃ i t, f = Value.int i t := by
      intro l
      induction l with
      | nil => intro _; exact ⟨[], PySem.W.KatTups.nil, rfl, fun _ h => nomatch h⟩
      | cons u l ih =>
        intro h
        obtain ⟨fs, k1, k2, k3⟩ := ih fun v hv => h v (List.mem_cons_of_mem _ hv)
        obtain ⟨p, o, t, tk, n, its, rfl, ho, hc, hd, _, _⟩ := at_ u (h u List.mem_cons_self)
        refine ⟨_ :: fs, PySem.W.KatTups.cons ho hc hd rfl k1, by rw [List.length_cons, List.length_cons, k2], fun f hf => ?_⟩
        rcases List.mem_cons.mp hf with hf | hf
        · exact ⟨_, _, hf⟩
        · exact k3 f hf
    obtain ⟨fs, k1, k2, k3⟩ := firsts us fun _ h => h
    refine ⟨tuples' true, fun Q E hq => ?_, fun p q hp hq => ?_⟩
    · refine PySem.W.kat_kind (T := .type "int") k1 (by omega) (fun f hm => ?_) (by rfl) ?_
      · obtain ⟨x, t, rfl⟩ := k3 f hm
        exact PySem.W.Looks.now
      · have e : (Value.type "int" != Value.type "tuple") = true := by first | decide +kernel | rfl | decide
        rw [e]
        exact hq
    · obtain ⟨p1, o1, t1, tk1, n1, its1, e1, ho1, hc1, hd1, pt1, ia1⟩ := at_ _ hp
      obtain ⟨p2, o2, t2, tk2, n2, its2, e2, ho2, hc2, hd2, pt2, ia2⟩ := at_ _ hq
      show wpAny _ _ (keyLt' (tuples' true) p.1 q.1) (fun r s' => s' = s ∧ r = ltLot (ρ (vOf p.1)) (ρ (vOf q.1))) _ s
      generalize ρ (vOf p.1) = a at *
      generalize ρ (vOf q.1) = b at *
      rw [e1, e2]
      have un := hr.un
      refine PySem.W.kat_lt ho1 hd1 ho2 hd2 ?_
      show PySem.W.KatLex X.prog X.w A true (decide (2 < 2)) _ [(.int (a.length : Int) tk1, .int (b.length : Int) tk2), (.ref t1, .ref t2)] 0 s
      refine PySem.W.kat_cons (SeqAt.EqAt.int_int _ tk1 _ tk2 X.prog X.w _ _ ?_)
      refine PySem.W.kat_go (fun x1 => ?_) (fun x1 => ?_)
      · have el : a.length = b.length := by
          have := eq_of_beq x1
          omega
        refine PySem.W.kat_yes (PySem.W.kat_cons ?_)
        obtain ⟨as, ra⟩ := readsAll_ints (h := s.heap) ia1
        obtain ⟨bs, rb⟩ := readsAll_ints (h := s.heap) ia2
        obtain ⟨o3, g3, c3, m3, d3⟩ := id pt1
        obtain ⟨o4, g4, c4, m4, d4⟩ := id pt2
        have R1 : Reads s.heap (.ref t1) (.tuple (a.map PyData.int)) as := .tuple g3 c3 d3 (by simpa using ra)
        have R2 : Reads s.heap (.ref t2) (.tuple (b.map PyData.int)) bs := .tuple g4 c4 d4 (by simpa using rb)
        refine SeqAt.eqAt_reads _ _ A s _ _ _ _ R1 R2 (SeqAt.canLay_of_shaped (shaped_ints a)) (SeqAt.canLay_of_shaped (shaped_ints b)) (SeqAt.room_of_shaped (shaped_ints a) (by omega)) X.prog X.w _ _ ?_
        have ev : PyData.eqv (.tuple (a.map PyData.int)) (.tuple (b.map PyData.int)) = decide (a = b) := by
          show PyData.eqvAll _ _ = _
          exact PySem.W.ked_eqvAll a b
        rw [ev]
        refine PySem.W.kat_go (fun x2 => ?_) (fun x2 => ?_)
        · have eab : a = b := of_decide_eq_true x2
          refine PySem.W.kat_yes (PySem.W.kat_nil ⟨rfl, ?_⟩)
          unfold ltLot
          rw [if_pos el, eab, lexLt_self]
          rfl
        · refine PySem.W.kat_no (PySem.W.kat_one _ _ ?_)
          refine HT.lt_tupInts pt1 pt2 (by simpa using ia1) (by simpa using ia2) (by omega) ⟨rfl, ?_⟩
          unfold ltLot
          rw [if_pos el]
      · have el : ¬ a.length = b.length := fun z => by
          have : ¬ ((a.length : Int) == (b.length : Int)) = true := by rw [x1]; exact Bool.false_ne_true
          exact this (by rw [z]; exact beq_self_eq_true _)
        refine PySem.W.kat_no ?_
        show wpAny _ _ (oneLt' true _ _) _ _ _
        refine oneLt_int ⟨rfl, ?_⟩
        unfold ltLot
        rw [if_neg el]
        exact decide_eq_decide.mpr (by omega)
end
end L2.KK
namespace L2.KK
open PySem PySem.Spec PyProof.Rows
abbrev emptySet (w : World) : Obj := { cls := .type "set", dict := none, data := .set #[] 0 (.fresh 0 0 (!w.params.followText "set-order")) }
section
variable {P : Program} {w : World} {A : Around} {E : Value → Shared → Prop} {s : Shared}
/-- set(xs), xs a list of ints -/
theorem set_of_ints {l : Addr} {items : Array Value} (ns : List Int) {Q : Value → Shared → Prop} (hh : A.handled = none) (hl : s.heap.IsList l items) (hit : IntsAre items.toList ns) (hb : ns.length + 1 < scanBound)
    (h : ∀ (h' : Heap) (tk c : Nat), SetR w h' s.heap.objs.size (fun j => decide (j ∈ ns)) c → c ≤ ns.length → (∀ b o, s.heap.get? b = some o → h'.get? b = some o) → Q (.ref s.heap.objs.size) { s with heap := h', toks := tk }) :
    wpAny (model P w) A (call (.type "set") [.ref l]) Q E s := by
  have hisz : items.size = ns.length := by
    have q := IntsAre.length hit
    rw [Array.length_toList] at q
    exact q
  obtain ⟨c, tl, hmro⟩ := PySem.F.called_set.mro
  have hmade := PySem.F.called_set.made
  have hsub := PySem.F.called_set.sub
  refine wpAny_call (codeAny_of_tree ?_)
  show wpAny _ _ (callAny (.type "set") _) _ _ _
  refine wpAny_pure ⟨Code.quiet_builtin _ (by decide +kernel), codeAny_builtin PySem.F.entry_type_call ?_⟩
  rw [Around.under_plain (weight_type_call_type "set" [.ref l] []) rfl]
  have h1 := PySem.F.called_set.notType
  have h2 := PySem.F.called_set.canCreate
  have hct := PySem.F.typeCall_set_1 (.ref l)
  repeat (any_goals (first | assumption | wp_step))
  refine codeAny_mono (code_set_led1 (.ref l) (E := E) (Q₁ := fun obj s₁ => obj = .ref s.heap.objs.size ∧ s₁ = { s with heap := s.heap.push (emptySet w) }) ⟨rfl, rfl⟩) fun r s₁ hr => ?_
  cases r with
  | error e => exact hr
  | ok fl =>
    cases fl with
    | ret obj =>
      obtain ⟨rfl, rfl⟩ := hr
      have hS : (s.heap.push (emptySet w)).get? s.heap.objs.size = some (emptySet w) := Heap.get?_push_size _ rfl
      have hT : Shared.TypeIs { s with heap := s.heap.push (emptySet w) } (.ref s.heap.objs.size) "set" := ⟨_, hS, rfl⟩
      have hli := PySem.F.called_set.init.lookup
      have hbi := PySem.F.called_set.init.bind (.ref s.heap.objs.size)
      repeat (any_goals (first | assumption | wp_step))
      refine codeAny_mono (codeAny_call_builtin (R := wants (fun r s₂ => r = .none ∧ ∃ h' tk c, s₂ = { s with heap := h', toks := tk } ∧ SetR w h' s.heap.objs.size (fun j => decide (j ∈ ns)) c ∧ c ≤ ns.length ∧
          (∀ b o, s.heap.get? b = some o → h'.get? b = some o)) E) PySem.F.called_set.init.plain PySem.F.entry_set_init (PySem.check_set_init_1 hT ?_)) fun r₂ s₂ hr₂ => ?_
      · obtain ⟨ol, hol, hcl, nl, hdl⟩ := id hl
        obtain ⟨ocls, odict, odata, oslots⟩ := ol
        simp only at hcl hdl
        subst hcl; subst hdl
        have hol' : (s.heap.push (emptySet w)).get? l = some { cls := .type "list", dict := odict, data := .seq items nl, slots := oslots } := Heap.get?_push_of_some _ hol
        have hsls := PySem.F.sub_list_set
        have hslf := PySem.F.sub_list_frozenset
        have hne : (Value.type "list" == Value.type "dict") = false := by decide
        have hl1 : (s.heap.push (emptySet w)).IsList l items := hl.push _
        unfold Builtin.«set.__init__» noKeywords Builtin.Frozenset.updateFrom
        generalize hPI : pyIter = PI
        wp_walk
        subst hPI
        refine wpAny_pyIter_list hl1 ?_
        refine wpAny_bind (wpAny_runValue ?_)
        have hlS : l < s.heap.objs.size := Heap.lt_size hol
        have hh3 : A.in1.in1.in1.handled = none := by simp [hh]
        have hz1 : (s.heap.push (emptySet w)).objs.size = s.heap.objs.size + 1 := Heap.size_push ..
        have hneI : l ≠ (s.heap.push (emptySet w)).objs.size := by
          rw [hz1]; exact Nat.ne_of_lt (Nat.lt_succ_of_lt hlS)
        have hSf : s.heap.objs.size ∉ [(s.heap.push (emptySet w)).objs.size, l] := by
          rw [hz1]; simp only [List.mem_cons, List.not_mem_nil, or_false, not_or]
          exact ⟨Nat.ne_of_lt (Nat.lt_succ_self _), Nat.ne_of_gt hlS⟩
        have hval : ∀ (i : Nat) (v : Value), items[i]? = some v → ∃ k t, ns[i]? = some k ∧ v = .int k t := fun i v hv => by
          have hi : i < ns.length := by rw [← hisz]; exact (Array.getElem?_eq_some_iff.mp hv).1
          obtain ⟨t, e⟩ := IntsAre.int_at hit i v (by rw [Array.getElem?_toList]; exact hv)
          exact ⟨ns[i], t, List.getElem?_eq_getElem hi, by rw [e, List.getD_eq_getElem?_getD, List.getElem?_eq_getElem hi]; rfl⟩
        refine set_update_ints ((Walks.list hh3 _ l hneI items).toS) s.heap.objs.size hSf ns hisz hb hval (items.size - 0) 0 _ (by omega) (Nat.zero_le _) ⟨⟨_, Heap.get?_push_size _ rfl, rfl, rfl⟩, (hl1.push _)⟩ ?hS0 ?hR
        case hS0 => exact ⟨0, Nat.le_refl 0, setR_new_at (Heap.get?_push_of_some _ hS)⟩
        case hR =>
          intro s' c' hm hc' hS'
          obtain ⟨h', g2, d', tk', os'⟩ := s'
          have eg : g2 = s.gens := hm.gens
          have ed : d' = s.drawn := hm.drawn
          have eo : os' = s.os := hm.os
          subst eg; subst ed; subst eo
          show wpAny _ _ _ _ _ _
          refine wpAny_pure ?_
          show wpAny _ _ (ret Value.none) _ _ _
          rw [hisz] at hc'
          refine wpAny_pure ⟨rfl, h', tk', c', rfl, hS', hc', fun b o e => ?_⟩
          have hb0 : b < s.heap.objs.size := Heap.lt_size e
          refine hm.heap b o (fun hmem => ?_) (Heap.get?_push_of_some _ (Heap.get?_push_of_some _ e))
          rcases List.mem_cons.mp hmem with z | z
          · exact Nat.ne_of_lt hb0 z
          · have e1 : b = s.heap.objs.size + 1 := (List.mem_singleton.mp z).trans hz1
            exact absurd hb0 (by rw [e1]; exact Nat.not_lt.mpr (Nat.le_succ _))
      · cases r₂ with
        | error e => exact hr₂
        | ok fl₂ =>
          cases fl₂ with
          | ret r =>
            obtain ⟨rfl, h', tk, c', rfl, hS', hc', hk'⟩ := hr₂
            repeat (any_goals (first | assumption | wp_step))
            exact h _ _ _ hS' hc' hk'
          | _ => exact hr₂.elim
    | _ => exact hr.elim
end
section
variable {X : Cx}
def rSetL (K : PySem.W.Frag) (w : World) : List V → Hp → VK → Prop := fun vs H Q => ∃ (a : Addr) (ns : List Int), vs = [.ref a] ∧ SqL K H a (ns.map V.int) ∧ ns.length ≤ 4000 ∧
  ∀ (p : Addr) (c : Nat), H p = none → c ≤ ns.length → Q (.ref p) (upd H p (SetO w p (fun j => decide (j ∈ ns)) c))
theorem cr_setL (hc : X.calm = true) : CallR X (.type "set") (rSetL X.K X.w) := by
  intro pins s σ H vs us Q I r h
  obtain ⟨a, ns, rfl, hs, hz, q⟩ := h
  obtain rfl := Vals.ref1 r
  obtain ⟨its, rv, pl, _⟩ := I.list hs
  have hi : IntsAre its ns := rv.ints
  have hn : H s.heap.objs.size = none := I.hok.fresh (Nat.le_refl _)
  refine set_of_ints (P := X.prog) ns (I.ok.hd hc) pl.isList (by simpa using hi) (Nat.lt_of_le_of_lt (Nat.succ_le_succ hz) (by decide)) fun h' tk c R hcl k => ?_
  exact ⟨.ref s.heap.objs.size, _, I.laid (t' := tk) k (Nat.le_refl _) (setO_new R), rfl, q _ c hn hcl⟩
end
end L2.KK
/-! whole numbers that are not negative; lists made by a comprehension; sorted by a def, two ways -/
namespace L2.KK
open PySem PySem.Spec PyProof.Rows
abbrev nV (n : Nat) : V := .int (n : Int)
def rN (g : Nat → Nat → V) : R2 := fun x y H Q => ∃ a b : Nat, x = nV a ∧ y = nV b ∧ Q (g a b) H
def rNC (C : Nat → Nat → Prop) (g : Nat → Nat → V) : R2 := fun x y H Q => ∃ a b : Nat, x = nV a ∧ y = nV b ∧ C a b ∧ Q (g a b) H
section
variable {X : Cx}
theorem op_andN : OpR X (binaryOp .BitAnd) (rN fun a b => nV (a &&& b)) := by
  intro pins s σ H x y v u Q I rx ry ⟨a, b, e1, e2, q⟩
  refine op_and pins s σ H x y v u Q I rx ry ⟨_, _, e1, e2, ?_⟩
  show Q (V.int (Builtin.bitAnd (a : Int) (b : Int))) H
  rw [PySem.W.os_band]
  exact q
theorem op_orN : OpR X (binaryOp .BitOr) (rN fun a b => nV (a ||| b)) := by
  intro pins s σ H x y v u Q I rx ry ⟨a, b, e1, e2, q⟩
  refine op_or pins s σ H x y v u Q I rx ry ⟨_, _, e1, e2, ?_⟩
  show Q (V.int (Builtin.bitOr (a : Int) (b : Int))) H
  rw [bitOr_nn (Int.natCast_nonneg a) (Int.natCast_nonneg b), Int.toNat_natCast, Int.toNat_natCast]
  exact q
theorem op_xorN : OpR X (binaryOp .BitXor) (rN fun a b => nV (a ^^^ b)) := by
  intro pins s σ H x y v u Q I rx ry ⟨a, b, e1, e2, q⟩
  refine op_xor pins s σ H x y v u Q I rx ry ⟨_, _, e1, e2, ?_⟩
  have e : Builtin.bitXor (a : Int) (b : Int) = ((a ^^^ b : Nat) : Int) := by
    show Builtin.bitOr (a : Int) (b : Int) - Builtin.bitAnd (a : Int) (b : Int) = _
    rw [bitOr_nn (Int.natCast_nonneg a) (Int.natCast_nonneg b), Int.toNat_natCast, Int.toNat_natCast, PySem.W.os_band]
    have := MK.or_and_xor a b
    omega
  show Q (V.int (Builtin.bitXor (a : Int) (b : Int))) H
  rw [e]
  exact q
theorem op_addNN : OpR X (binaryOp .Add) (rN fun a b => nV (a + b)) := by
  intro pins s σ H x y v u Q I rx ry ⟨a, b, e1, e2, q⟩
  refine op_add pins s σ H x y v u Q I rx ry ⟨_, _, e1, e2, ?_⟩
  show Q (V.int ((a : Int) + (b : Int))) H
  rw [← Int.natCast_add]
  exact q
theorem op_subNN : OpR X (binaryOp .Sub) (rNC (fun a b => b ≤ a) fun a b => nV (a - b)) := by
  intro pins s σ H x y v u Q I rx ry ⟨a, b, e1, e2, c, q⟩
  refine op_sub pins s σ H x y v u Q I rx ry ⟨_, _, e1, e2, ?_⟩
  show Q (V.int ((a : Int) - (b : Int))) H
  rw [show (a : Int) - (b : Int) = ((a - b : Nat) : Int) by omega]
  exact q
theorem op_shrNN : OpR X (binaryOp .RShift) (rN fun a b => nV (a >>> b)) := by
  intro pins s σ H x y v u Q I rx ry ⟨a, b, e1, e2, q⟩
  refine op_shr pins s σ H x y v u Q I rx ry ⟨_, _, e1, e2, Int.natCast_nonneg b, ?_⟩
  show Q (V.int ((a : Int) / (2 : Int) ^ (b : Int).toNat)) H
  rw [Int.toNat_natCast, show (a : Int) / (2 : Int) ^ b = ((a >>> b : Nat) : Int) by rw [Nat.shiftRight_eq_div_pow, Int.natCast_ediv, Int.natCast_pow]; rfl]
  exact q
/-- 1 << k -/
theorem op_shlNN : OpR X (binaryOp .LShift) (rNC (fun a b => b ≤ 1000000 ∧ a < 18446744073709551616) fun a b => nV (a * 2 ^ b)) := by
  intro pins s σ H x y v u Q I rx ry ⟨a, b, e1, e2, ⟨c1, c2⟩, q⟩
  refine op_shl pins s σ H x y v u Q I rx ry ⟨_, _, e1, e2, ⟨Int.natCast_nonneg b, by omega, by omega⟩, ?_⟩
  show Q (V.int ((a : Int) * (2 : Int) ^ (b : Int).toNat)) H
  rw [Int.toNat_natCast, show (a : Int) * (2 : Int) ^ b = ((a * 2 ^ b : Nat) : Int) by rw [Int.natCast_mul, Int.natCast_pow]; rfl]
  exact q

/-! ### comprehensions whose turns change nothing that stood -/
variable {K : PySem.W.Frag} {H H1 : Hp} {D : Addr} {σ : St} {k : Nat} {tt : TT} {te : TE} {Qd : Hp → Prop}
theorem paired_snoc {α β : Type} {F : α → β → Prop} {a : List α} {b : List β} {x : α} {y : β} (h : Paired F a b) (r : F x y) : Paired F (a ++ [x]) (b ++ [y]) := paired_append h (.cons r .nil)
theorem same_fresh {H H' : Hp} {p : Addr} {o : HO} (e : Same H H') (h : H p = none) : Same H (upd H' p o) := fun b u q => by
  rw [upd_ne (ne_of_none q h)]
  exact e b u q
theorem same_new {H : Hp} {p : Addr} {o : HO} (h : H p = none) : Same H (upd H p o) := same_fresh (Same.refl H) h
def NotL : HO → Prop
  | .lst _ => False
  | _ => True
/-- all but lists is as it was -/
def SameT (H H' : Hp) : Prop := ∀ b o, H b = some o → NotL o → H' b = some o
theorem sameT_of {H H' : Hp} (e : Same H H') : SameT H H' := fun b o q _ => e b o q
theorem sameT_lst {H : Hp} {D : Addr} {xs ys : List V} (h : H D = some (.lst xs)) : SameT H (upd H D (.lst ys)) := fun b o q n => by
  have nb : b ≠ D := fun z => by
    rw [z, h] at q
    cases q
    exact n
  rw [upd_ne nb]
  exact q
/-- the turns of a comprehension: sel: which are kept; P i y H: y is what turn i makes -/
structure Turns (H : Hp) (σ : St) (k : Nat) (item : Nat → V) (n : Nat) (tt : TT) (te : TE) (sel : Nat → Bool) (P : Nat → V → Hp → Prop) : Prop where
  mono : ∀ i y H H', SameT H H' → P i y H → P i y H'
  test : ∀ i H', i < n → Same H H' → ∀ Q : Bool → Hp → Prop, (∀ H'', Same H' H'' → Q (sel i) H'') → tt ((σ.set k none).set k (some (item i))) H' Q
  elt : ∀ i H', i < n → sel i = true → Same H H' → ∀ Q : VK, (∀ y H'', Same H' H'' → P i y H'' → Q y H'') → te ((σ.set k none).set k (some (item i))) H' Q
variable {item : Nat → V} {n : Nat} {sel : Nat → Bool} {P : Nat → V → Hp → Prop}
def Made (H : Hp) (D : Addr) (sel : Nat → Bool) (P : Nat → V → Hp → Prop) (i : Nat) (H' : Hp) : Prop := Same H H' ∧ ∃ ys, H' D = some (.lst ys) ∧ ys.length ≤ i ∧ Paired (fun y j => P j y H') ys ((List.range i).filter sel)
theorem Turns.go (T : Turns H σ k item n tt te sel P) (hD : H D = none) (hz : n ≤ sizeLine) {i : Nat} {H' : Hp} (hi : i < n) (M : Made H D sel P i H') :
    gName k (item i) (wipe σ [k]) H' fun σ2 H2 => wipe σ2 [k] = wipe σ [k] ∧ tt σ2 H2 fun b H3 =>
      if b = true then te σ2 H3 fun y H4 => ∃ acc, H4 D = some (.lst acc) ∧ acc.length < sizeLine ∧ Made H D sel P (i + 1) (upd H4 D (.lst (acc ++ [y]))) else Made H D sel P (i + 1) H3 := by
  obtain ⟨sm, ys, hd, hl, pr⟩ := M
  show wipe ((σ.set k none).set k (some (item i))) [k] = wipe σ [k] ∧ tt ((σ.set k none).set k (some (item i))) H' _
  refine ⟨by show ((σ.set k none).set k (some (item i))).set k none = σ.set k none; rw [List.set_set, List.set_set], ?_⟩
  refine T.test i H' hi sm _ fun H3 s3 => ?_
  have rs : (List.range (i + 1)).filter sel = (List.range i).filter sel ++ (if sel i = true then [i] else []) := by
    rw [List.range_succ, List.filter_append]
    rw [List.filter_cons, List.filter_nil]
  cases hsel : sel i with
  | true =>
    refine iteT ?_
    refine T.elt i H3 hi hsel (sm.trans s3) _ fun y H4 s4 p => ?_
    refine ⟨ys, s4 _ _ (s3 _ _ hd), by omega, same_fresh ((sm.trans s3).trans s4) hD, ys ++ [y], upd_same, by rw [List.length_append]; show ys.length + 1 ≤ i + 1; omega, ?_⟩
    rw [rs, hsel, if_pos rfl]
    have s5 := sameT_lst (ys := ys ++ [y]) (s4 _ _ (s3 _ _ hd))
    exact paired_snoc (Paired.mapP pr fun y j q => T.mono _ _ _ _ s5 (T.mono _ _ _ _ (sameT_of (s3.trans s4)) q)) (T.mono _ _ _ _ s5 p)
  | false =>
    refine iteF ?_
    exact ⟨sm.trans s3, ys, s3 _ _ hd, by omega, by rw [rs, hsel, if_neg Bool.false_ne_true, List.append_nil]; exact Paired.mapP pr fun y j q => T.mono _ _ _ _ (sameT_of s3) q⟩
theorem Turns.start (hD : H D = none) : Made H D sel P 0 (upd H D (.lst [])) := ⟨same_new hD, [], upd_same, Nat.zero_le _, .nil⟩
theorem lc_rangeT {lo : Int} (T : Turns H σ k (fun i => .int (lo + i)) n tt te sel P) (hD : H D = none) (hz : n ≤ sizeLine) (hd : ∀ H' ys, Same H H' → H' D = some (.lst ys) → ys.length ≤ n → Paired (fun y j => P j y H') ys ((List.range n).filter sel) → Qd H') :
    ∃ W : Nat → Nat → Hp → Prop, (∃ m, W 0 m (upd H D (.lst []))) ∧ ∀ i m H, W i m H →
      ((Itr lo n).stop i H ∧ Qd H) ∨ ((Itr lo n).go i H ∧ ∃ Nx : Hp → Prop, (∀ H', Nx H' → ∃ m', m' < m ∧ W (i + 1) m' H') ∧ ∀ x H', (Itr lo n).yld i H x H' → gName k x (wipe σ [k]) H' fun σ2 H2 => wipe σ2 [k] = wipe σ [k] ∧ tt σ2 H2 fun b H3 =>
        if b = true then te σ2 H3 fun y H4 => ∃ acc, H4 D = some (.lst acc) ∧ acc.length < sizeLine ∧ Nx (upd H4 D (.lst (acc ++ [y]))) else Nx H3) :=
  lc_range (lo := lo) (n := n) (Made H D sel P) (Turns.start hD) (fun i H' hi M => T.go hD hz hi M) fun H' ⟨a, ys, b, c, d⟩ => hd H' ys a b c d
theorem lc_listT {a : Addr} {xs : List V} (hx : SqL K H a xs) (T : Turns H σ k (fun i => xs.getD i .non) xs.length tt te sel P) (hD : H D = none) (hz : xs.length ≤ sizeLine)
    (hd : ∀ H' ys, Same H H' → H' D = some (.lst ys) → ys.length ≤ xs.length → Paired (fun y j => P j y H') ys ((List.range xs.length).filter sel) → Qd H') :
    ∃ W : Nat → Nat → Hp → Prop, (∃ m, W 0 m (upd H D (.lst []))) ∧ ∀ i m H, W i m H →
      ((Itl K a).stop i H ∧ Qd H) ∨ ((Itl K a).go i H ∧ ∃ Nx : Hp → Prop, (∀ H', Nx H' → ∃ m', m' < m ∧ W (i + 1) m' H') ∧ ∀ x H', (Itl K a).yld i H x H' → gName k x (wipe σ [k]) H' fun σ2 H2 => wipe σ2 [k] = wipe σ [k] ∧ tt σ2 H2 fun b H3 =>
        if b = true then te σ2 H3 fun y H4 => ∃ acc, H4 D = some (.lst acc) ∧ acc.length < sizeLine ∧ Nx (upd H4 D (.lst (acc ++ [y]))) else Nx H3) :=
  lc_list (K := K) (a := a) (xs := xs) (Made H D sel P) (Turns.start hD) (fun i H' _ M => M.1.seq hx) (fun i x H' hi M => by
    obtain ⟨hl, e⟩ := List.getElem?_eq_some_iff.mp hi
    have q := T.go hD hz hl M
    rw [List.getD_eq_getElem?_getD, hi] at q
    exact q) fun H' ⟨a, ys, b, c, d⟩ => hd H' ys a b c d
theorem paired_map_eq {α β : Type} {g : β → α} : ∀ {ys : List α} {l : List β}, Paired (fun y j => y = g j) ys l → ys = l.map g
  | _, _, .nil => rfl
  | _, _, .cons r t => by rw [List.map_cons, ← r, ← paired_map_eq t]
theorem filter_yes (n : Nat) : (List.range n).filter (fun _ => true) = List.range n := List.filter_eq_self.mpr fun _ _ => rfl
theorem map_range_get {α : Type} (xs : List α) (d : α) : (List.range xs.length).map (fun i => xs.getD i d) = xs := by
  apply List.ext_getElem
  · rw [List.length_map, List.length_range]
  · intro i h1 h2
    rw [List.getElem_map, List.getElem_range, List.getD_eq_getElem?_getD, List.getElem?_eq_getElem h2]
    rfl
/-! ### sorted by a def, whatever the ranks -/
variable {f : Addr} {fd : FuncData} {ps : List Str} {sp : Sp} {j : Nat}
def rSortedI (K : PySem.W.Frag) (f : Addr) (sp : Sp) : List V → List V → Hp → VK → Prop := fun vs zs H Q => ∃ g : V → Int, rSortedF K f sp g (kInt g) (fun i j => decide (i < j)) vs zs H Q
def rSortedLot (K : PySem.W.Frag) (f : Addr) (sp : Sp) : List V → List V → Hp → VK → Prop := fun vs zs H Q => ∃ g : V → List Int, rSortedF K f sp g (kLot K g) ltLot vs zs H Q
theorem cr_sortedBy (F : FnOk X.prog X.w X.K X.mg X.base CX0 j f fd ps sp) (hb : Binds X.K fd ps []) (hr : Room (j + 8) X.A) : CallRK X (.builtin "sorted") [Str.ofString "key"] (rSortedI X.K f sp) :=
  fun pins s σ H xs zs us ws Q I r rz ⟨g, h⟩ => cr_sortedF F hb hr (key_int g) pins s σ H xs zs us ws Q I r rz h
theorem cr_sortedLot (F : FnOk X.prog X.w X.K X.mg X.base CX0 j f fd ps sp) (hb : Binds X.K fd ps []) (hr : Room (j + 8) X.A) : CallRK X (.builtin "sorted") [Str.ofString "key"] (rSortedLot X.K f sp) :=
  fun pins s σ H xs zs us ws Q I r rz ⟨g, h⟩ => cr_sortedF F hb hr (key_lot g) pins s σ H xs zs us ws Q I r rz h
/-! ### the state that the law's draws hang on -/
structure Dr (H : Hp) (d c : Addr) : Prop where
  ex : ∃ (ns : List Int) (i r z : Int), H d = some (.lst [.ref c, .int i, .int r, .int z]) ∧ H c = some (.lst (ns.map V.int)) ∧ 0 ≤ i ∧ ns.length ≤ 1000
/-- all but the object at d is as it was -/
def Kp (d : Addr) (H H' : Hp) : Prop := ∀ b o, H b = some o → b ≠ d → H' b = some o
theorem Kp.refl (d : Addr) (H : Hp) : Kp d H H := fun _ _ h _ => h
theorem Kp.trans {d : Addr} {H H1 H2 : Hp} (a : Kp d H H1) (b : Kp d H1 H2) : Kp d H H2 := fun c o h n => b c o (a c o h n) n
theorem Kp.of {d : Addr} {H H' : Hp} (e : Same H H') : Kp d H H' := fun b o h _ => e b o h
theorem Kp.new {d p : Addr} {H H' : Hp} {o : HO} (e : Kp d H H') (h : H p = none) : Kp d H (upd H' p o) := fun b u q n => by
  rw [upd_ne (ne_of_none q h)]
  exact e b u q n
theorem Dr.keep {H H' : Hp} {d c : Addr} (D : Dr H d c) (k : Same H H') : Dr H' d c := by
  obtain ⟨ns, i, r, z, h1, h2, h3, h4⟩ := D.ex
  exact ⟨ns, i, r, z, k _ _ h1, k _ _ h2, h3, h4⟩
theorem Dr.ne {H : Hp} {d c p : Addr} (D : Dr H d c) (h : H p = none) : p ≠ d ∧ p ≠ c := by
  obtain ⟨ns, i, r, z, h1, h2, h3, h4⟩ := D.ex
  exact ⟨(ne_of_none h1 h).symm, (ne_of_none h2 h).symm⟩
/-- another object changes -/
theorem Dr.put {H : Hp} {d c p : Addr} {o : HO} (D : Dr H d c) (h1 : p ≠ d) (h2 : p ≠ c) : Dr (upd H p o) d c := by
  obtain ⟨ns, i, r, z, e1, e2, e3, e4⟩ := D.ex
  exact ⟨ns, i, r, z, by rw [upd_ne h1.symm]; exact e1, by rw [upd_ne h2.symm]; exact e2, e3, e4⟩
theorem Dr.cd {H : Hp} {d c : Addr} (D : Dr H d c) : c ≠ d := by
  obtain ⟨ns, i, r, z, hd, hc, _, _⟩ := D.ex
  rintro rfl
  rw [hd] at hc
  injection hc with e
  injection e with e
  cases ns with
  | nil => cases e
  | cons x l => injection e with e _; cases e
end
end L2.KK
namespace L2.KK
open PySem PySem.Spec PyProof.Rows C8
section
variable {P : Program} {w : World} {K : PySem.W.Frag} {mg : Str → Option Value} {base : Heap}
abbrev FnP (K : PySem.W.Frag) (x qual : Str) (st : Stmt) (f : Addr) (fd : FuncData) : Prop := FunD K x qual (defArgs st) (defBody st) (defScope st) [] [] f fd
/-- the def st stands in the module under its name -/
structure FnAt (K : PySem.W.Frag) (mg : Str → Option Value) (x : Str) (st : Stmt) : Prop where
  ex : ∃ f fd, FnP K x x st f fd ∧ mg x = some (.ref f)
theorem calOf {x : Str} {st : Stmt} {N ps : List Str} {sp : Sp} {k : Nat} (D : FnAt K mg x st) (S : FnScope N ps (defScope st))
    (bn : ∀ (kV doc pm : Value) (an : Option Addr) (cdv ct : Value) (us : List Value), us.length = ps.length → bindArgs (PySem.W.fnOf x x (defArgs st) (defBody st) (defScope st) .none kV doc pm an cdv ct) ⟨us, []⟩ = pure (ps.zip us))
    (len : ∀ vs H Q E, sp vs H Q E → vs.length = ps.length)
    (body : ∀ (f : Addr) (cdv : Value) (A : Around) (outer : List Env) (s : Shared) (H : Hp) (vs : List V) (Q : VK) (E : XK), Room k (A.deeper (envOfC x (defScope st) s.heap.objs.size f cdv)) → sp vs H Q E →
      ∃ t, PSs (cxOf CX0 P w K mg base N x (defScope st) f cdv A outer s H E).nox (defBody st) t ∧ t { nx := fun _ H' => Q .non H', rt := Q } (start N vs) H) : Cal P w K mg base (k + 1) x sp [] := by
  obtain ⟨f, fd, F, m⟩ := D.ex
  refine ⟨f, fd, ps, [], ?_, m, F.kp, F.bindsN bn, .nil⟩
  refine F.ok S len fun cdv A outer s H vs Q E hr hsp => ?_
  obtain ⟨t, h, q⟩ := body f cdv A outer s H vs Q E hr hsp
  exact ⟨t, h.nox, q⟩
/-- the parts of a def that is handed on as a key -/
theorem cal_parts {k : Nat} {x : Str} {sp : Sp} (c : Cal P w K mg base k x sp []) : ∃ (f : Addr) (fd : FuncData) (ps : List Str), FnOk P w K mg base CX0 k f fd ps sp ∧ mg x = some (.ref f) ∧ Binds K fd ps [] := by
  obtain ⟨f, fd, ps, ds, F, m, _, b, d⟩ := c.ex
  cases d
  exact ⟨f, fd, ps, F, m, b⟩
end
end L2.KK
/-! rules whose reading names the written part by a letter: they stand within comprehensions too -/
namespace L2.KK
open PySem PySem.Spec PyProof.Rows C8
section
variable (K : PySem.W.Frag) {X : Cx}
def rLenQ (K : PySem.W.Frag) : List V → Hp → VK → Prop := fun xs H Q => ∃ p ys, xs = [.ref p] ∧ (SqL K H p ys ∨ SqT K H p ys) ∧ Q (.int ys.length) H
def rListQ (K : PySem.W.Frag) : List V → Hp → VK → Prop := fun xs H Q => ∃ p ys, xs = [.ref p] ∧ (SqL K H p ys ∨ SqT K H p ys) ∧ ∀ l, H l = none → Q (.ref l) (upd H l (.lst ys))
def rTupQ (K : PySem.W.Frag) : List V → Hp → VK → Prop := fun xs H Q => ∃ p ys, xs = [.ref p] ∧ ((SqL K H p ys ∧ ∀ l, H l = none → Q (.ref l) (upd H l (.tup ys))) ∨ (SqT K H p ys ∧ Q (.ref p) H))
def tTruQ (K : PySem.W.Frag) (ta : TE) : TT := fun σ H Q => ta σ H fun x H' => ∃ k, TruV K x H' k ∧ Q k H'
theorem ixL (h : X.K = K := by rfl) : IxR X (rIxL K) := by subst h; exact ix_list
theorem ixT (h : X.K = K := by rfl) : IxR X (rIxT K) := by subst h; exact ix_tup
theorem eqD (hu : X.A.units + 64 < cLine) (h : X.K = K := by rfl) : OpR X (compareOp .Eq) (rEqD K) := by subst h; exact op_eqD hu
theorem neD (hu : X.A.units + 64 < cLine) (h : X.K = K := by rfl) : OpR X (compareOp .NotEq) (rNeD K) := by subst h; exact op_neD hu
theorem inSeq (h : X.K = K := by rfl) : OpR X (compareOp .In) (rIn K false) := by subst h; exact op_in_seq
theorem notInSeq (h : X.K = K := by rfl) : OpR X (compareOp .NotIn) (rIn K true) := by subst h; exact op_notIn_seq
theorem catA (h : X.K = K := by rfl) : OpR X (binaryOp .Add) (rCatA K) := by subst h; exact op_catA
theorem slL (h : X.K = K := by rfl) : SlR X (rSlL K) := by subst h; exact sl_list
theorem slT (h : X.K = K := by rfl) : SlR X (rSlA K) := by subst h; exact sl_tupA
theorem crLen (h : X.K = K := by rfl) : CallR X (.builtin "len") (rLenQ K) := by subst h; exact call_len_seq
theorem crList (h : X.K = K := by rfl) : CallR X (.type "list") (rListQ K) := by subst h; exact call_list_of
theorem crTup (h : X.K = K := by rfl) : CallR X (.type "tuple") (rTupQ K) := by subst h; exact call_tuple_of
theorem crSum (h : X.K = K := by rfl) (hc : X.calm = true := by rfl) : CallR X (.builtin "sum") (rSum K) := by subst h; exact cr_sum hc
theorem crMax (h : X.K = K := by rfl) (hc : X.calm = true := by rfl) : CallR X (.builtin "max") (rMax K) := by subst h; exact cr_max hc
theorem crMin (h : X.K = K := by rfl) (hc : X.calm = true := by rfl) : CallR X (.builtin "min") (rMin K) := by subst h; exact cr_min hc
theorem crAny (h : X.K = K := by rfl) (hc : X.calm = true := by rfl) : CallR X (.builtin "any") (rAny K) := by subst h; exact cr_any hc
theorem crAll (h : X.K = K := by rfl) (hc : X.calm = true := by rfl) : CallR X (.builtin "all") (rAll K) := by subst h; exact cr_all hc
theorem crSortI (h : X.K = K := by rfl) : CallR X (.builtin "sorted") (L2.rSortedI K) := by subst h; exact cr_sortedI
theorem crSortP (h : X.K = K := by rfl) : CallR X (.builtin "sorted") (rSortedPO K) := by subst h; exact cr_sortedPO
theorem crIsi (h : X.K = K := by rfl) : CallR X (.builtin "isinstance") (rIsi K) := by subst h; exact call_isi
theorem crSetL (h : X.K = K := by rfl) (hc : X.calm = true := by rfl) : CallR X (.type "set") (rSetL K X.w) := by subst h; exact cr_setL hc
variable {f : Addr} {fd : FuncData} {ps : List Str} {sp : Sp} {j : Nat}
theorem crSortBy (F : FnOk X.prog X.w X.K X.mg X.base CX0 j f fd ps sp) (hb : Binds X.K fd ps []) (hr : Room (j + 8) X.A) (h : X.K = K := by rfl) : CallRK X (.builtin "sorted") [Str.ofString "key"] (rSortedI K f sp) := by subst h; exact cr_sortedBy F hb hr
theorem crSortLot (F : FnOk X.prog X.w X.K X.mg X.base CX0 j f fd ps sp) (hb : Binds X.K fd ps []) (hr : Room (j + 8) X.A) (h : X.K = K := by rfl) : CallRK X (.builtin "sorted") [Str.ofString "key"] (rSortedLot K f sp) := by subst h; exact cr_sortedLot F hb hr
variable {e o : Expr} {es : List Expr} {ta to : TE} {t : TA} {pos apos cpos p : Pos} {name : Str} {T id : String} {r : V → List V → Hp → VK → Prop}
theorem ptTru (ha : PE X e ta) (he : ∀ whole, isTrue e X.env whole = (do let v ← whole; standAt e.pos; holding [v] (truthy v)) := by intro _; rfl) (h : X.K = K := by rfl) : PT X e (tTruQ K ta) := by subst h; exact pt_truth ha he
theorem peFld (ha : PE X e ta) {f : Str} (hb : attributeBase e f X.env (eval e X.env) = eval e X.env := by rfl) (h : X.K = K := by rfl) : PE X (.Attribute e f pos) (tFld K ta f) := by subst h; exact pe_fld ha hb
theorem peBm (pa : PlainAttrs T) (slot : Slot T name id) (hty : typeOf (.builtin id) = pure (.type "method_descriptor")) (hm : MtR X id r) (ho : PE X o to) (ha : PA X (e :: es) t)
    (hx : PA X (e :: es) t → PE X o to → PE X (.Call (.Attribute o name apos) (e :: es) [] cpos) (tBM X.K T r to t)) (h : X.K = K := by rfl) : PE X (.Call (.Attribute o name apos) (e :: es) [] cpos) (tBM K T r to t) := by
  subst h
  exact hx ha ho
theorem piList (ha : PE X e ta) {tg : Expr} (h : X.K = K := by rfl) : PI X tg e (iList K ta) := by subst h; exact pi_list ha
theorem piTup (ha : PE X e ta) {tg : Expr} (h : X.K = K := by rfl) : PI X tg e (iTup K ta) := by subst h; exact pi_tup ha
theorem pgTup {es : List Expr} {k : Nat} {t : TGs} {n : Nat} (hc : X.calm = true) (hp : PGs X es t) (hn : (assignEach es X.env).length = n := by rfl) (hst : (assignEach es X.env).findIdx? (·.1) = none := by rfl) (h : X.K = K := by rfl) : PG X (.Tuple es k pos) (gTup K n t) := by
  subst h
  exact pg_tup hc hp hn hst
theorem getL (h : X.K = K := by rfl) : PGet X (rGetL K) := by subst h; exact get_list
end
end L2.KK
namespace L2.KK
open PySem PySem.Spec PyProof.Rows C8
section
variable {P : Program} {w : World} {K : PySem.W.Frag} {mg : Str → Option Value} {base : Heap}
/-- calOf for the def that the statement calls: its function object is known -/
theorem okOf {x : Str} {st : Stmt} {N ps : List Str} {sp : Sp} {k : Nat} {f : Addr} {fd : FuncData} (F : FnP K x x st f fd) (S : FnScope N ps (defScope st))
    (len : ∀ vs H Q E, sp vs H Q E → vs.length = ps.length)
    (body : ∀ (f : Addr) (cdv : Value) (A : Around) (outer : List Env) (s : Shared) (H : Hp) (vs : List V) (Q : VK) (E : XK), Room k (A.deeper (envOfC x (defScope st) s.heap.objs.size f cdv)) → sp vs H Q E →
      ∃ t, PSs (cxOf CX0 P w K mg base N x (defScope st) f cdv A outer s H E).nox (defBody st) t ∧ t { nx := fun _ H' => Q .non H', rt := Q } (start N vs) H) : FnOk P w K mg base CX0 (k + 1) f fd ps sp := by
  refine F.ok S len fun cdv A outer s H vs Q E hr hsp => ?_
  obtain ⟨t, h, q⟩ := body f cdv A outer s H vs Q E hr hsp
  exact ⟨t, h.nox, q⟩
end
end L2.KK
namespace L2.KK
open PySem PySem.Spec PyProof.Rows C8
def top (i : Nat) : Stmt := PySem.Challenge.pw_pricedrules_k76_blockers.main.body.getD i (.Pass ⟨0, 0, 0, 0⟩)
abbrev s_bits_of : Stmt := top 1
abbrev s_bit_count : Stmt := top 2
abbrev s_minimal_masks : Stmt := top 4
abbrev s_blocker : Stmt := top 5
abbrev s_as_lots : Stmt := top 6
abbrev s_lot_rank : Stmt := top 7
abbrev s_law_begin : Stmt := top 9
abbrev s_law_draw : Stmt := top 10
abbrev s_law_pick : Stmt := top 11
abbrev s_law_pop : Stmt := top 12
abbrev s_law_rare : Stmt := top 13
abbrev s_law_shuffled : Stmt := top 14
abbrev s_law_is_int : Stmt := top 15
abbrev s_law_ones : Stmt := top 16
abbrev s_law_least_masks : Stmt := top 17
abbrev s_law_lots : Stmt := top 18
abbrev s_law_lot_rank : Stmt := top 19
abbrev s_law_meets : Stmt := top 20
abbrev s_law_due_blocker : Stmt := top 21
abbrev s_law_is_sorted : Stmt := top 22
abbrev s_law_planted_ok : Stmt := top 23
abbrev s_law : Stmt := top 24
theorem sc_law_begin : FnScope ["script", "cell"] ["script"] (defScope s_law_begin) := ⟨rfl, rfl, rfl, by decide +kernel, rfl, by decide +kernel, by decide +kernel⟩
theorem sc_law_draw : FnScope ["d", "many", "found", "size", "cell"] ["d", "many"] (defScope s_law_draw) := ⟨rfl, rfl, rfl, by decide +kernel, rfl, by decide +kernel, by decide +kernel⟩
structure Bl (mg : Str → Option Value) : Prop where
  b_abs : mg "abs" = none
  b_all : mg "all" = none
  b_any : mg "any" = none
  b_bool : mg "bool" = none
  b_int : mg "int" = none
  b_isinstance : mg "isinstance" = none
  b_len : mg "len" = none
  b_list : mg "list" = none
  b_range : mg "range" = none
  b_set : mg "set" = none
  b_sorted : mg "sorted" = none
  b_sum : mg "sum" = none
  b_tuple : mg "tuple" = none
section
variable {P : Program} {w : World} {K : PySem.W.Frag} {mg : Str → Option Value} {base : Heap}
/-! ### the law's draws -/
def spBegin (K : PySem.W.Frag) : Sp := fun vs H Q _ => ∃ (a : Addr) (ns : List Int), vs = [.ref a] ∧ SqL K H a (ns.map V.int) ∧ ns.length ≤ 63 ∧ ∀ d c H', Same H H' → H d = none → H c = none → Dr H' d c → Q (.ref d) H'
def spDraw : Sp := fun vs H Q _ => ∃ (d c : Addr) (m : Int), vs = [.ref d, .int m] ∧ Dr H d c ∧ 1 ≤ m ∧ m < 1073741824 ∧ ∀ (n : Nat) H', (n : Int) < m → Dr H' d c → Kp d H H' → Q (nV n) H'
theorem c_begin (D : FnAt K mg "_law_begin" s_law_begin) (T : Bl mg) : Cal P w K mg base 1 "_law_begin" (spBegin K) [] := by
  refine calOf D sc_law_begin (fun _ _ _ _ _ _ us hl => match us, hl with | [_], _ => rfl) (fun vs H Q E h => ?_) (fun f cdv A outer s H vs Q E hr h => ?_)
  · obtain ⟨a, ns, rfl, _⟩ := h
    rfl
  · obtain ⟨a, ns, rfl, hS, hl, k⟩ := h
    have nd := sc_law_begin.nd
    refine ⟨_, (pss_one (ps_ret (pe_lst (pa_cons (pe_lc (own := [("cell", 1)]) (g := gName 1) (tt := tYes) rfl nd (piList K (pv 0)) (blkOk_by (N := ["script", "cell"]) (sc := defScope s_law_begin) (own := [("cell", 1)]) (by decide +kernel)) (fun _ _ _ _ _ => (pg_name (i := 1) nd rfl (by first | exact Or.inl rfl | exact Or.inr rfl))) (fun _ _ _ _ _ => pts_nil) (fun _ _ _ _ _ => (pe_callTy call_int1 (by rfl) T.b_int (by decide +kernel) (pa_cons (pv 1) pa_nil)))) (pa_cons pe_int (pa_cons pe_int (pa_cons pe_int pa_nil))))))), ?_⟩
    have hz : (ns.map V.int).length ≤ sizeLine := Nat.le_of_lt (small1000 (by rw [List.length_map]; omega))
    refine ⟨.ref a, rfl, a, rfl, ⟨_, hS⟩, fun D hD => lc_listT hS (sel := fun _ => true) (P := fun i y _ => y = .int (ns.getD i 0)) ⟨fun _ _ _ _ _ h => h, fun i H' _ _ R r => r H' (Same.refl H'), fun i H' hi _ _ R r => ?_⟩ hD hz (fun H1 ys sm hd _ pr => ?_)⟩
    · have e : (ns.map V.int).getD i .non = .int (ns.getD i 0) := by
        rw [List.length_map] at hi
        rw [List.getD_eq_getElem?_getD, List.getD_eq_getElem?_getD, List.getElem?_map, List.getElem?_eq_getElem hi]
        rfl
      exact ⟨_, rfl, .inl ⟨ns.getD i 0, by rw [e], r _ H' (Same.refl H') rfl⟩⟩
    · rw [filter_yes] at pr
      have ey : ys = ns.map V.int := by
        rw [paired_map_eq pr, List.length_map]
        have q := congrArg (List.map V.int) (map_range_get ns 0)
        rw [List.map_map] at q
        exact q
      refine ⟨by show 4 ≤ sizeLine; decide, fun d hd0 => ?_⟩
      have nD : D ≠ d := ne_of_none hd hd0
      refine k d D _ (same_fresh sm (sm.free hd0)) (sm.free hd0) hD ⟨ns, 0, 0, 7, upd_same, ?_, Int.le_refl 0, by omega⟩
      rw [upd_ne nD, hd, ey]
theorem mod_pos {a m : Int} (h : 1 ≤ m) : ∃ n : Nat, a.fmod m = (n : Int) ∧ (n : Int) < m := by
  have h1 := Int.fmod_nonneg_of_pos a (show 0 < m by omega)
  have h2 := Int.fmod_lt_of_pos a (show 0 < m by omega)
  exact ⟨(a.fmod m).toNat, by omega, by omega⟩
theorem c_draw (D : FnAt K mg "_law_draw" s_law_draw) (T : Bl mg) : Cal P w K mg base 1 "_law_draw" spDraw [] := by
  refine calOf D sc_law_draw (fun _ _ _ _ _ _ us hl => match us, hl with | [_, _], _ => rfl) (fun vs H Q E h => ?_) (fun f cdv A outer s H vs Q E hr h => ?_)
  · obtain ⟨d, c, m, rfl, _⟩ := h
    rfl
  · obtain ⟨d, c, m, rfl, D, h1, h2, k⟩ := h
    obtain ⟨ns, i, r, z, hd, hc, hi, hn⟩ := D.ex
    have nd := sc_law_draw.nd
    have ncd : c ≠ d := D.cd
    -- d as it is changed: the items at 1, 2, 3
    have fin : ∀ (a : Int) (i r z : Int) (H' : Hp), 0 ≤ i → H' d = some (.lst [.ref c, .int i, .int r, .int z]) → Kp d H H' → Q (.int (a.fmod m)) H' := fun a i r z H' hi' e kp => by
      obtain ⟨n, en, ln⟩ := mod_pos (a := a) h1
      rw [en]
      exact k n H' ln ⟨ns, i, r, z, e, kp c _ hc ncd, hi', hn⟩ kp
    have kpd : ∀ o, Kp d H (upd H d o) := fun o b u e n => by rw [upd_ne n]; exact e
    refine ⟨_, (pss_cons (ps_if (pt_cmpR op_gt (pe_ix (ixL K) (pv 0) pe_int (fun _ _ => rfl)) pe_int (nomark _))
        (pss_cons (ps_set (i := 2) nd rfl (by first | exact Or.inl rfl | exact Or.inr rfl) (pe_ix (ixL K) (pv 0) pe_int (fun _ _ => rfl)))
        (pss_cons (ps_asg (pe_op op_fdivN (pv 2) (pv 1)) (pg_sub (pv 0) pe_int set_list))
        (pss_one (ps_ret (pe_op op_modN (pe_callTy call_int1 (by rfl) T.b_int (by decide +kernel) (pa_cons (pv 2) pa_nil)) (pv 1))))))
        pss_nil)
      (pss_cons (ps_set (i := 3) nd rfl (by first | exact Or.inl rfl | exact Or.inr rfl) pe_int)
      (pss_cut (ps_if (pt_cmpR op_lt (pe_ix (ixL K) (pv 0) pe_int (fun _ _ => rfl)) (pe_callB (crLen K) (by rfl) T.b_len (by decide +kernel) (pa_cons (pe_ix (ixL K) (pv 0) pe_int (fun _ _ => rfl)) pa_nil)) (nomark _))
        (pss_cons (ps_set (i := 4) nd rfl (by first | exact Or.inl rfl | exact Or.inr rfl) (pe_ix (ixL K) (pe_ix (ixL K) (pv 0) pe_int (fun _ _ => rfl)) (pe_ix (ixL K) (pv 0) pe_int (fun _ _ => rfl)) (fun _ _ => rfl)))
        (pss_one (ps_set (i := 3) nd rfl (by first | exact Or.inl rfl | exact Or.inr rfl) (pe_op op_add (pe_op op_mul pe_int (pe_callB call_abs (by rfl) T.b_abs (by decide +kernel) (pa_cons (pv 4) pa_nil))) (pe_callTy call_int1 (by rfl) T.b_int (by decide +kernel) (pa_cons (pe_cmpR op_lt (pv 4) pe_int (nomark _)) pa_nil))))))
        pss_nil)
      (pss_cons (ps_augS (pv 0) pe_int (getL K) pe_int ip_add set_list)
      (pss_cons (ps_if (pt_cmpR op_ge (pv 3) (pe_op op_mul pe_int (pe_op op_pow pe_int pe_int)) (nomark _))
        (pss_cons (ps_set (i := 2) nd rfl (by first | exact Or.inl rfl | exact Or.inr rfl) (pe_op op_modN (pe_callTy call_int1 (by rfl) T.b_int (by decide +kernel) (pa_cons (pe_op op_fdivN (pv 3) pe_int) pa_nil)) (pe_op op_shl pe_int pe_int)))
        (pss_cons (ps_asg (pe_op op_fdivN (pv 2) (pv 1)) (pg_sub (pv 0) pe_int set_list))
        (pss_one (ps_ret (pe_op op_modN (pe_callTy call_int1 (by rfl) T.b_int (by decide +kernel) (pa_cons (pv 2) pa_nil)) (pv 1))))))
        pss_nil)
      (pss_cons (ps_asg (pe_op op_modN (pe_callTy call_int1 (by rfl) T.b_int (by decide +kernel) (pa_cons (pe_op op_add (pe_op op_add (pe_op op_add (pe_op op_mul (pe_ix (ixL K) (pv 0) pe_int (fun _ _ => rfl)) pe_int) (pe_op op_mul (pe_op op_modN (pe_callTy call_int1 (by rfl) T.b_int (by decide +kernel) (pa_cons (pv 3) pa_nil)) pe_int) pe_int)) (pe_op op_mul (pe_ix (ixL K) (pv 0) pe_int (fun _ _ => rfl)) pe_int)) pe_int) pa_nil)) pe_int) (pg_sub (pv 0) pe_int set_list))
      (pss_one (ps_ret (pe_op op_modN (pe_callTy call_int1 (by rfl) T.b_int (by decide +kernel) (pa_cons (pe_op op_fdivN (pe_ix (ixL K) (pv 0) pe_int (fun _ _ => rfl)) pe_int) pa_nil)) (pv 1)))))))))), ?_⟩
    have m0 : m ≠ 0 ∧ m.natAbs < 1073741824 := ⟨by omega, by omega⟩
    -- if d[2] > 0
    refine ⟨_, rfl, d, _, 2, .int r, rfl, rfl, SqL.of hd, rfl, r, 0, rfl, rfl, _, rfl, ite2 (fun _ => ?_) (fun _ => ?_)⟩
    · refine ⟨_, rfl, d, _, 2, .int r, rfl, rfl, SqL.of hd, rfl, ?_⟩
      refine ⟨_, rfl, _, rfl, r, m, rfl, rfl, m0, _, rfl, d, _, 2, 2, rfl, rfl, hd, rfl, ?_⟩
      refine ⟨_, rfl, .inl ⟨r, rfl, _, rfl, r, m, rfl, rfl, m0.1, ?_⟩⟩
      exact fin r i (r.fdiv m) z _ hi upd_same (kpd _)
    · -- size = 0; if d[1] < len(d[0])
      refine ⟨fun σ' H' => H' = H ∧ ∃ (size : Int) (c4 : Option V), σ' = [some (.ref d), some (.int m), none, some (.int size), c4], ?_, ?_⟩
      · refine ⟨_, rfl, d, _, 1, .int i, rfl, rfl, SqL.of hd, rfl, _, rfl, d, _, 0, .ref c, rfl, rfl, SqL.of hd, rfl, c, _, rfl, .inl (SqL.of hc), i, _, rfl, rfl, _, rfl, ite2 (fun hlt => ?_) (fun _ => ⟨rfl, 0, none, rfl⟩)⟩
        have hlt' := of_decide_eq_true hlt
        rw [List.length_map] at hlt'
        have hix : (ns.map V.int)[i.toNat]? = some (.int (ns.getD i.toNat 0)) := by
          rw [List.getElem?_map, List.getD_eq_getElem?_getD, List.getElem?_eq_getElem (show i.toNat < ns.length by omega)]
          rfl
        have ei : (i.toNat : Int) = i := by omega
        have hat : atI (ns.map V.int) i = some (.int (ns.getD i.toNat 0)) := by
          have q := atI_nat hix
          rw [ei] at q
          exact q
        refine ⟨_, rfl, d, _, 0, .ref c, rfl, rfl, SqL.of hd, rfl, _, rfl, d, _, 1, .int i, rfl, rfl, SqL.of hd, rfl, c, _, i, _, rfl, rfl, SqL.of hc, hat, ?_⟩
        generalize ns.getD i.toNat 0 = cell
        refine ⟨_, rfl, cell, rfl, 2, _, rfl, rfl, .inl ⟨by decide, by decide⟩, _, rfl, cell, 0, rfl, rfl, .inr ⟨_, rfl, _, _, rfl, rfl, rfl, _, _, rfl⟩⟩
      · rintro σ' H' ⟨rfl, size, c4, rfl⟩
        -- d[1] += 1
        refine ⟨_, rfl, d, _, 1, .int i, rfl, rfl, SqL.of hd, rfl, by decide, i, 1, rfl, rfl, d, _, 1, 1, rfl, rfl, hd, rfl, ?_⟩
        have hd1 : upd H' d (.lst [.ref c, .int (i + 1), .int r, .int z]) d = some (.lst [.ref c, .int (i + 1), .int r, .int z]) := upd_same
        -- if size >= 2 * 10 ** 18
        refine ⟨_, rfl, 10, 18, rfl, rfl, ⟨by decide, by decide, by decide⟩, 2, _, rfl, rfl, .inl ⟨by decide, by decide⟩, size, _, rfl, rfl, _, rfl, ite2 (fun _ => ?_) (fun _ => ?_)⟩
        · refine ⟨_, rfl, size, 2, rfl, rfl, ⟨by decide, by decide⟩, .inl ⟨_, rfl, 1, 6000, rfl, rfl, ⟨by decide, by decide, by decide⟩, _, _, rfl, rfl, ?_, ?_⟩⟩
          · exact Int.ne_of_gt (by rw [Int.one_mul]; exact Int.pow_pos (by decide))
          · refine ⟨_, rfl, _, rfl, _, m, rfl, rfl, m0, _, rfl, d, _, 2, 2, rfl, rfl, hd1, rfl, ?_⟩
            refine ⟨_, rfl, .inl ⟨_, rfl, _, rfl, _, m, rfl, rfl, m0.1, ?_⟩⟩
            exact fin _ (i + 1) _ z _ (by omega) upd_same fun b u e n => by rw [upd_ne n, upd_ne n]; exact e
        · refine ⟨_, rfl, d, _, 3, .int z, rfl, rfl, SqL.of hd1, rfl, z, 48271, rfl, rfl, .inr ⟨by decide, by decide⟩, ?_⟩
          refine ⟨_, rfl, .inl ⟨size, rfl, size, 2147483629, rfl, rfl, (show (2147483629 : Int) ≠ 0 by decide), _, 16807, rfl, rfl, .inr ⟨by decide, by decide⟩, _, _, rfl, rfl, ?_⟩⟩
          refine ⟨_, rfl, d, _, 1, .int (i + 1), rfl, rfl, SqL.of hd1, rfl, _, 69621, rfl, rfl, .inr ⟨by decide, by decide⟩, _, _, rfl, rfl, _, 11, rfl, rfl, .inl ⟨_, rfl, _, 2147483647, rfl, rfl, (show (2147483647 : Int) ≠ 0 by decide), ?_⟩⟩
          refine ⟨_, rfl, d, _, 3, 3, rfl, rfl, hd1, rfl, ?_⟩
          refine ⟨_, rfl, d, _, 3, _, rfl, rfl, SqL.of upd_same, rfl, _, 16, rfl, rfl, ⟨by decide, by decide⟩, .inl ⟨_, rfl, _, rfl, _, m, rfl, rfl, m0.1, ?_⟩⟩
          exact fin _ (i + 1) r _ _ (by omega) upd_same fun b u e n => by rw [upd_ne n, upd_ne n]; exact e

end
end L2.KK
namespace L2.KK
open PySem PySem.Spec PyProof.Rows C8
theorem sc_law_rare : FnScope ["d", "many"] ["d", "many"] (defScope s_law_rare) := ⟨rfl, rfl, rfl, by decide +kernel, rfl, by decide +kernel, by decide +kernel⟩
theorem sc_law_pick : FnScope ["d", "row"] ["d", "row"] (defScope s_law_pick) := ⟨rfl, rfl, rfl, by decide +kernel, rfl, by decide +kernel, by decide +kernel⟩
theorem sc_law_pop : FnScope ["d", "row"] ["d", "row"] (defScope s_law_pop) := ⟨rfl, rfl, rfl, by decide +kernel, rfl, by decide +kernel, by decide +kernel⟩
theorem sc_law_shuffled : FnScope ["d", "row", "left", "found", "k"] ["d", "row"] (defScope s_law_shuffled) := ⟨rfl, rfl, rfl, by decide +kernel, rfl, by decide +kernel, by decide +kernel⟩
section
variable {P : Program} {w : World} {K : PySem.W.Frag} {mg : Str → Option Value} {base : Heap}
abbrev nL (xs : List Nat) : List V := xs.map nV
theorem nL_get {xs : List Nat} {i : Nat} (h : i < xs.length) : (nL xs)[i]? = some (nV xs[i]) := by
  rw [List.getElem?_map, List.getElem?_eq_getElem h]
  rfl
/-! ### drawn things -/
def spRare : Sp := fun vs H Q _ => ∃ (d c : Addr) (m : Int), vs = [.ref d, .int m] ∧ Dr H d c ∧ 1 ≤ m ∧ m < 1073741824 ∧ ∀ (b : Bool) H', Dr H' d c → Kp d H H' → Q (.bl b) H'
def spPick : Sp := fun vs H Q _ => ∃ (d c a : Addr) (xs : List V), vs = [.ref d, .ref a] ∧ Dr H d c ∧ H a = some (.lst xs) ∧ a ≠ d ∧ a ≠ c ∧ 0 < xs.length ∧ xs.length ≤ 100000 ∧
  ∀ (i : Nat) (v : V) H', xs[i]? = some v → Dr H' d c → Kp d H H' → Q v H'
def spPop : Sp := fun vs H Q _ => ∃ (d c a : Addr) (xs : List V), vs = [.ref d, .ref a] ∧ Dr H d c ∧ H a = some (.lst xs) ∧ a ≠ d ∧ a ≠ c ∧ 0 < xs.length ∧ xs.length ≤ 100000 ∧
  ∀ (i : Nat) (v : V) H', xs[i]? = some v → Dr H' d c → H' a = some (.lst (xs.eraseIdx i)) → (∀ b o, H b = some o → b ≠ d → b ≠ a → H' b = some o) → Q v H'
def spShuf (K : PySem.W.Frag) : Sp := fun vs H Q _ => ∃ (d c a : Addr) (xs : List V), vs = [.ref d, .ref a] ∧ Dr H d c ∧ SqL K H a xs ∧ xs.length ≤ 100000 ∧
  ∀ (p : Addr) (ys : List V) H', ys.Perm xs → H p = none → H' p = some (.lst ys) → Dr H' d c → Kp d H H' → Q (.ref p) H'
theorem c_rare (D : FnAt K mg "_law_rare" s_law_rare) (T : Bl mg) (c_law_draw : Cal P w K mg base 1 "_law_draw" spDraw []) : Cal P w K mg base 2 "_law_rare" spRare [] := by
  refine calOf D sc_law_rare (fun _ _ _ _ _ _ us hl => match us, hl with | [_, _], _ => rfl) (fun vs H Q E h => ?_) (fun f cdv A outer s H vs Q E hr h => ?_)
  · obtain ⟨d, c, m, rfl, _⟩ := h
    rfl
  · obtain ⟨d, c, m, rfl, D, h1, h2, k⟩ := h
    refine ⟨_, (pss_one (ps_ret (pe_cmpR op_eq (pe_c c_law_draw hr (by decide) rfl (pa_cons (pv 0) (pa_cons (pv 1) pa_nil))) (pe_op op_fdivN (pv 1) pe_int) (nomark _)))), ?_⟩
    refine ⟨_, rfl, _, rfl, d, c, m, rfl, D, h1, h2, fun n H' _ D' kp => ?_⟩
    exact ⟨_, rfl, m, 2, rfl, rfl, ⟨by decide, by decide⟩, rfl, k _ H' D' kp⟩
theorem c_pick (D : FnAt K mg "_law_pick" s_law_pick) (T : Bl mg) (c_law_draw : Cal P w K mg base 1 "_law_draw" spDraw []) : Cal P w K mg base 2 "_law_pick" spPick [] := by
  refine calOf D sc_law_pick (fun _ _ _ _ _ _ us hl => match us, hl with | [_, _], _ => rfl) (fun vs H Q E h => ?_) (fun f cdv A outer s H vs Q E hr h => ?_)
  · obtain ⟨d, c, a, xs, rfl, _⟩ := h
    rfl
  · obtain ⟨d, c, a, xs, rfl, D, ha, ne, nc, h0, hz, k⟩ := h
    refine ⟨_, (pss_one (ps_ret (pe_ix (ixL K) (pv 1) (pe_c c_law_draw hr (by decide) rfl (pa_cons (pv 0) (pa_cons (pe_callB (crLen K) (by rfl) T.b_len (by decide +kernel) (pa_cons (pv 1) pa_nil)) pa_nil))) (fun _ _ => rfl)))), ?_⟩
    refine ⟨_, rfl, _, rfl, _, rfl, a, xs, rfl, .inl (SqL.of ha), d, c, _, rfl, D, by omega, by omega, fun n H' hn D' kp => ?_⟩
    have hn' : n < xs.length := by omega
    exact ⟨a, xs, _, xs[n], rfl, rfl, SqL.of (kp _ _ ha ne), atI_nat (List.getElem?_eq_getElem hn'), k n _ H' (List.getElem?_eq_getElem hn') D' kp⟩
theorem erase_perm {α : Type} : ∀ (l : List α) (i : Nat) (h : i < l.length), (l[i] :: l.eraseIdx i).Perm l
  | [], _, h => absurd h (Nat.not_lt_zero _)
  | _ :: _, 0, _ => List.Perm.refl _
  | a :: l, i + 1, h => by
    show (l[i]'(Nat.lt_of_succ_lt_succ h) :: a :: l.eraseIdx i).Perm (a :: l)
    exact (List.Perm.swap a _ _).trans ((erase_perm l i (Nat.lt_of_succ_lt_succ h)).cons a)
theorem seqIx {n k : Nat} (h : k < n) : seqIndex? (k : Int) n = some k := by
  unfold seqIndex?
  have h0 : ¬ (k : Int) < 0 := by omega
  simp [h0]
  omega
theorem c_pop (D : FnAt K mg "_law_pop" s_law_pop) (T : Bl mg) (c_law_draw : Cal P w K mg base 1 "_law_draw" spDraw []) : Cal P w K mg base 2 "_law_pop" spPop [] := by
  refine calOf D sc_law_pop (fun _ _ _ _ _ _ us hl => match us, hl with | [_, _], _ => rfl) (fun vs H Q E h => ?_) (fun f cdv A outer s H vs Q E hr h => ?_)
  · obtain ⟨d, c, a, xs, rfl, _⟩ := h
    rfl
  · obtain ⟨d, c, a, xs, rfl, D, ha, ne, nc, h0, hz, k⟩ := h
    refine ⟨_, (pss_one (ps_ret (pe_bm PySem.F.plainAttrs_list PySem.F.slot_list_pop PySem.F.type_list_pop mt_popAt (pv 1) (pa_cons (pe_c c_law_draw hr (by decide) rfl (pa_cons (pv 0) (pa_cons (pe_callB (crLen K) (by rfl) T.b_len (by decide +kernel) (pa_cons (pv 1) pa_nil)) pa_nil))) pa_nil)))), ?_⟩
    refine ⟨_, rfl, .inl ⟨rfl, _, SqL.of ha⟩, _, rfl, _, rfl, a, xs, rfl, .inl (SqL.of ha), d, c, _, rfl, D, by omega, by omega, fun n H' hn D' kp => ?_⟩
    have hn' : n < xs.length := by omega
    refine ⟨a, xs, _, n, xs[n], rfl, rfl, kp _ _ ha ne, by omega, by omega, seqIx hn', List.getElem?_eq_getElem hn', ?_⟩
    exact k n _ _ (List.getElem?_eq_getElem hn') (D'.put ne nc) upd_same fun b o e n1 n2 => by rw [upd_ne n2]; exact kp b o e n1
theorem c_shuf (D : FnAt K mg "_law_shuffled" s_law_shuffled) (T : Bl mg) (c_law_draw : Cal P w K mg base 1 "_law_draw" spDraw []) : Cal P w K mg base 2 "_law_shuffled" (spShuf K) [] := by
  refine calOf D sc_law_shuffled (fun _ _ _ _ _ _ us hl => match us, hl with | [_, _], _ => rfl) (fun vs H Q E h => ?_) (fun f cdv A outer s H vs Q E hr h => ?_)
  · obtain ⟨d, c, a, xs, rfl, _⟩ := h
    rfl
  · obtain ⟨d, c, a, xs, rfl, D, ha, hz, k⟩ := h
    have nd := sc_law_shuffled.nd
    refine ⟨_, (pss_cons (ps_set (i := 2) nd rfl (by first | exact Or.inl rfl | exact Or.inr rfl) (pe_callTy (crList K) (by rfl) T.b_list (by decide +kernel) (pa_cons (pv 1) pa_nil)))
      (pss_cons (ps_set (i := 3) nd rfl (by first | exact Or.inl rfl | exact Or.inr rfl) (pe_lst pa_nil))
      (pss_cons (ps_for PassesOwn.never rfl (pi_range1 (by rfl) T.b_range (pa_cons (pe_callB (crLen K) (by rfl) T.b_len (by decide +kernel) (pa_cons (pv 2) pa_nil)) pa_nil)) (pg_name (i := 4) nd rfl (by first | exact Or.inl rfl | exact Or.inr rfl))
        (pss_one (ps_expr (pe_bm PySem.F.plainAttrs_list PySem.F.slot_list_append PySem.F.type_list_append mt_append (pv 3) (pa_cons (pe_bm PySem.F.plainAttrs_list PySem.F.slot_list_pop PySem.F.type_list_pop mt_popAt (pv 2) (pa_cons (pe_c c_law_draw hr (by decide) rfl (pa_cons (pv 0) (pa_cons (pe_callB (crLen K) (by rfl) T.b_len (by decide +kernel) (pa_cons (pv 2) pa_nil)) pa_nil))) pa_nil)) pa_nil)))))
      (pss_one (ps_ret (pv 3)))))), ?_⟩
    refine ⟨_, rfl, a, xs, rfl, .inl ha, fun l hl => ?_⟩
    obtain ⟨ld, lc⟩ := D.ne hl
    refine ⟨Nat.zero_le _, fun q hq => ?_⟩
    have hq0 : H q = none := (same_new hl).free hq
    have nql : q ≠ l := fun z => by rw [z, upd_same] at hq; cases hq
    obtain ⟨qd, qc⟩ := D.ne hq0
    refine ⟨_, rfl, l, xs, rfl, .inl (SqL.of (by rw [upd_ne nql.symm]; exact upd_same)), _, rfl, by omega, by omega, ?_⟩
    rw [Int.toNat_natCast]
    refine for_range (lo := 0) (n := xs.length) (fun i σ' H' => ∃ (ys zs : List V) (v4 : Option V), σ' = [some (.ref d), some (.ref a), some (.ref l), some (.ref q), v4] ∧ H' l = some (.lst ys) ∧ H' q = some (.lst zs) ∧ (zs ++ ys).Perm xs ∧ zs.length = i ∧
      Dr H' d c ∧ Kp d H H') ⟨xs, [], none, rfl, by rw [upd_ne nql.symm]; exact upd_same, upd_same, List.Perm.refl _, rfl, (D.put ld lc).put qd qc, ((Kp.refl d H).new hl).new hq0⟩ ?_ ?_
    · rintro i σ' H' hi ⟨ys, zs, v4, rfl, e1, e2, pm, lz, D', kp⟩
      have hlen := pm.length_eq
      rw [List.length_append] at hlen
      refine ⟨_, rfl, .inl ⟨rfl, _, SqL.of e2⟩, _, rfl, .inl ⟨rfl, _, SqL.of e1⟩, _, rfl, _, rfl, l, ys, rfl, .inl (SqL.of e1), d, c, _, rfl, D', by omega, by omega, fun n H2 hn D2 kp2 => ?_⟩
      have hn' : n < ys.length := by omega
      refine ⟨l, ys, _, n, ys[n], rfl, rfl, kp2 _ _ e1 ld, by omega, by omega, seqIx hn', List.getElem?_eq_getElem hn', ?_⟩
      refine ⟨q, zs, _, rfl, rfl, by rw [upd_ne nql]; exact kp2 _ _ e2 qd, Nat.lt_of_le_of_lt (show zs.length ≤ 100000 by omega) (by decide), ?_⟩
      refine ⟨ys.eraseIdx n, zs ++ [ys[n]], _, rfl, by rw [upd_ne nql.symm]; exact upd_same, upd_same, ?_, by rw [List.length_append, lz]; rfl, (D2.put ld lc).put qd qc, ?_⟩
      · refine List.Perm.trans ?_ pm
        rw [List.append_assoc]
        refine List.Perm.append_left zs ?_
        exact erase_perm ys n hn'
      · intro b o e nb
        rw [upd_ne (ne_of_none e hq0), upd_ne (ne_of_none e hl)]
        exact kp2 _ _ (kp _ _ e nb) nb
    · rintro σ' H' ⟨ys, zs, v4, rfl, e1, e2, pm, lz, D', kp⟩
      have hlen := pm.length_eq
      rw [List.length_append] at hlen
      have : ys = [] := List.eq_nil_of_length_eq_zero (by omega)
      subst this
      rw [List.append_nil] at pm
      exact ⟨_, rfl, k q zs H' pm hq0 e2 D' kp⟩
end
end L2.KK
namespace L2.KK
open PySem PySem.Spec PyProof.Rows C8
theorem sc_law_ones : FnScope ["mask", "many"] ["mask"] (defScope s_law_ones) := ⟨rfl, rfl, rfl, by decide +kernel, rfl, by decide +kernel, by decide +kernel⟩
theorem sc_bit_count : FnScope ["mask", "many"] ["mask"] (defScope s_bit_count) := ⟨rfl, rfl, rfl, by decide +kernel, rfl, by decide +kernel, by decide +kernel⟩
theorem sc_bits_of : FnScope ["mask", "many", "spot"] ["mask", "many"] (defScope s_bits_of) := ⟨rfl, rfl, rfl, by decide +kernel, rfl, by decide +kernel, by decide +kernel⟩
section
variable {P : Program} {w : World} {K : PySem.W.Frag} {mg : Str → Option Value} {base : Heap}
/-! ### bits -/
def spOnes : Sp := fun vs H Q _ => ∃ m : Nat, vs = [nV m] ∧ Q (nV (MK.pc m)) H
theorem clear_step {k c n : Nat} (h : MK.pc k + c = n) (h0 : 0 < k) : MK.pc (k &&& (k - 1)) + (c + 1) = n ∧ k &&& (k - 1) < k := by
  obtain ⟨a, b⟩ := MK.clear_low k k (Nat.le_refl _) h0
  exact ⟨by omega, b⟩
theorem c_ones (D : FnAt K mg "_law_ones" s_law_ones) (T : Bl mg) : Cal P w K mg base 1 "_law_ones" spOnes [] := by
  refine calOf D sc_law_ones (fun _ _ _ _ _ _ us hl => match us, hl with | [_], _ => rfl) (fun vs H Q E h => ?_) (fun f cdv A outer s H vs Q E hr h => ?_)
  · obtain ⟨m, rfl, _⟩ := h
    rfl
  · obtain ⟨m, rfl, k⟩ := h
    have nd := sc_law_ones.nd
    refine ⟨_, (pss_cons (ps_set (i := 1) nd rfl (by first | exact Or.inl rfl | exact Or.inr rfl) pe_int)
      (pss_cons (ps_while PassesOwn.never (pt_cmpR op_gt (pv 0) pe_int (nomark _))
        (pss_cons (ps_set (i := 0) nd rfl (by first | exact Or.inl rfl | exact Or.inr rfl) (pe_op op_andN (pv 0) (pe_op op_subNN (pv 0) pe_int)))
        (pss_one (ps_aug (i := 1) nd rfl (by first | exact Or.inl rfl | exact Or.inr rfl) pe_int ip_add))))
      (pss_one (ps_ret (pv 1))))), ?_⟩
    refine ⟨fun n σ' H' => ∃ c, σ' = [some (nV n), some (nV c)] ∧ H' = H ∧ MK.pc n + c = MK.pc m, ⟨m, 0, rfl, rfl, rfl⟩, ?_⟩
    rintro n σ' H' ⟨c, rfl, rfl, e⟩
    refine ⟨_, rfl, _, 0, rfl, rfl, _, rfl, ite2 (fun h => ?_) (fun h => ?_)⟩
    · have h0 : 0 < n := by
        have := of_decide_eq_true h
        omega
      obtain ⟨e1, e2⟩ := clear_step e h0
      refine ⟨fun σ' H'' => ∃ c, σ' = [some (nV (n &&& (n - 1))), some (nV c)] ∧ H'' = H' ∧ MK.pc (n &&& (n - 1)) + c = MK.pc m, fun σ' H'' ⟨c', a1, a2, a3⟩ => ⟨_, e2, c', a1, a2, a3⟩, ?_⟩
      refine ⟨_, rfl, _, rfl, n, 1, rfl, rfl, h0, n, n - 1, rfl, rfl, ?_⟩
      exact ⟨_, rfl, _, 1, rfl, rfl, c + 1, rfl, rfl, e1⟩
    · have h0 : n = 0 := by
        have := of_decide_eq_false (by simpa using h : decide ((0 : Int) < (n : Int)) = false)
        omega
      subst h0
      rw [MK.pc_zero, Nat.zero_add] at e
      rw [← e] at k
      exact ⟨_, rfl, k⟩
theorem c_bit_count (D : FnAt K mg "bit_count" s_bit_count) (T : Bl mg) : Cal P w K mg base 1 "bit_count" spOnes [] := by
  refine calOf D sc_bit_count (fun _ _ _ _ _ _ us hl => match us, hl with | [_], _ => rfl) (fun vs H Q E h => ?_) (fun f cdv A outer s H vs Q E hr h => ?_)
  · obtain ⟨m, rfl, _⟩ := h
    rfl
  · obtain ⟨m, rfl, k⟩ := h
    have nd := sc_bit_count.nd
    refine ⟨_, (pss_cons (ps_set (i := 1) nd rfl (by first | exact Or.inl rfl | exact Or.inr rfl) pe_int)
      (pss_cons (ps_while PassesOwn.never (ptTru K (pv 0))
        (pss_cons (ps_set (i := 0) nd rfl (by first | exact Or.inl rfl | exact Or.inr rfl) (pe_op op_andN (pv 0) (pe_op op_subNN (pv 0) pe_int)))
        (pss_one (ps_set (i := 1) nd rfl (by first | exact Or.inl rfl | exact Or.inr rfl) (pe_op op_add (pv 1) pe_int)))))
      (pss_one (ps_ret (pv 1))))), ?_⟩
    refine ⟨fun n σ' H' => ∃ c, σ' = [some (nV n), some (nV c)] ∧ H' = H ∧ MK.pc n + c = MK.pc m, ⟨m, 0, rfl, rfl, rfl⟩, ?_⟩
    rintro n σ' H' ⟨c, rfl, rfl, e⟩
    refine ⟨_, rfl, _, rfl, ite2 (fun h => ?_) (fun h => ?_)⟩
    · have h0 : 0 < n := by
        have : (n : Int) ≠ 0 := by simpa using h
        omega
      obtain ⟨e1, e2⟩ := clear_step e h0
      refine ⟨fun σ' H'' => ∃ c, σ' = [some (nV (n &&& (n - 1))), some (nV c)] ∧ H'' = H' ∧ MK.pc (n &&& (n - 1)) + c = MK.pc m, fun σ' H'' ⟨c', a1, a2, a3⟩ => ⟨_, e2, c', a1, a2, a3⟩, ?_⟩
      refine ⟨_, rfl, _, rfl, n, 1, rfl, rfl, h0, n, n - 1, rfl, rfl, ?_⟩
      exact ⟨_, rfl, _, 1, rfl, rfl, c + 1, rfl, rfl, e1⟩
    · have h0 : n = 0 := by
        have : ¬ (n : Int) ≠ 0 := by simpa using h
        omega
      subst h0
      rw [MK.pc_zero, Nat.zero_add] at e
      rw [← e] at k
      exact ⟨_, rfl, k⟩
/-- a new list comes back, all that stood stands -/
def NewL (H : Hp) (Q : VK) (xs : List V) : Prop := ∀ p H', Same H H' → H p = none → H' p = some (.lst xs) → Q (.ref p) H'
def spBits : Sp := fun vs H Q _ => ∃ m n : Nat, vs = [nV m, nV n] ∧ n ≤ 100000 ∧ NewL H Q (nL (MK.bitsOf m n))
theorem shr_bit (m i : Nat) : (((m >>> i &&& 1 : Nat) : Int) != 0) = m.testBit i := by
  rw [Nat.testBit_eq_decide_div_mod_eq, Nat.and_one_is_mod, Nat.shiftRight_eq_div_pow]
  have : m / 2 ^ i % 2 = 0 ∨ m / 2 ^ i % 2 = 1 := by omega
  rcases this with e | e <;> rw [e] <;> rfl
theorem lt_line {n : Nat} (h : n ≤ 16777216) : n ≤ sizeLine := by rw [sizeLine_eq]; exact h
theorem c_bits_of (D : FnAt K mg "bits_of" s_bits_of) (T : Bl mg) : Cal P w K mg base 1 "bits_of" spBits [] := by
  refine calOf D sc_bits_of (fun _ _ _ _ _ _ us hl => match us, hl with | [_, _], _ => rfl) (fun vs H Q E h => ?_) (fun f cdv A outer s H vs Q E hr h => ?_)
  · obtain ⟨m, n, rfl, _⟩ := h
    rfl
  · obtain ⟨m, n, rfl, hn, k⟩ := h
    have nd := sc_bits_of.nd
    refine ⟨_, (pss_one (ps_ret (pe_lc (own := [("spot", 2)]) (g := gName 2) rfl nd (pi_range1 (by rfl) T.b_range (pa_cons (pv 1) pa_nil)) (blkOk_by (N := ["mask", "many", "spot"]) (sc := defScope s_bits_of) (own := [("spot", 2)]) (by decide +kernel)) (fun _ _ _ _ _ => (pg_name (i := 2) nd rfl (by first | exact Or.inl rfl | exact Or.inr rfl))) (fun _ _ _ _ _ => (pts_one (ptTru K (pe_op op_andN (pe_op op_shrNN (pv 0) (pv 2)) pe_int)))) (fun _ _ _ _ _ => (pv 2))))), ?_⟩
    refine ⟨_, rfl, n, rfl, by omega, by omega, ?_⟩
    rw [Int.toNat_natCast]
    refine fun D hD => lc_rangeT (lo := 0) (sel := fun i => m.testBit i) (P := fun i y _ => y = nV i) ⟨fun _ _ _ _ _ h => h, fun i H' hi _ R r => ?_, fun i H' hi _ _ R r => ?_⟩ hD (lt_line (by omega)) (fun H1 ys sm hd _ pr => ?_)
    · refine ⟨_, rfl, _, rfl, m, i, rfl, by rw [Int.zero_add], _, 1, rfl, rfl, m.testBit i, ?_, r H' (Same.refl H')⟩
      exact (shr_bit m i).symm
    · exact ⟨_, rfl, r _ H' (Same.refl H') (by rw [Int.zero_add])⟩
    · rw [paired_map_eq pr] at hd
      exact k D H1 sm hD hd
end
end L2.KK
namespace L2.KK
open PySem PySem.Spec PyProof.Rows C8
theorem sc_minimal_masks : FnScope ["masks", "ordered", "mask", "found", "size", "known"] ["masks"] (defScope s_minimal_masks) := ⟨rfl, rfl, rfl, by decide +kernel, rfl, by decide +kernel, by decide +kernel⟩
section
variable {P : Program} {w : World} {K : PySem.W.Frag} {mg : Str → Option Value} {base : Heap}
theorem nL_getD {ms : List Nat} {i : Nat} (h : i < (nL ms).length) : (nL ms).getD i .non = nV (ms.getD i 0) := by
  rw [List.length_map] at h
  rw [List.getD_eq_getElem?_getD, List.getD_eq_getElem?_getD, nL_get h, List.getElem?_eq_getElem h]
  rfl
theorem paired_map_of {α β γ : Type} {F : α → β → Prop} {f : α → γ} {g : β → γ} : ∀ {a : List α} {b : List β}, Paired F a b → (∀ x y, F x y → f x = g y) → a.map f = b.map g
  | _, _, .nil, _ => rfl
  | _, _, .cons r t, h => by rw [List.map_cons, List.map_cons, h _ _ r, paired_map_of t h]
theorem nL_snoc (g : List Nat) (m : Nat) : nL (g ++ [m]) = nL g ++ [nV m] := by
  show (g ++ [m]).map nV = _
  rw [List.map_append]
  rfl
/-! ### least masks -/
def pairOf (H : Hp) (x : V) : Int × Int := match x with
  | .ref t => (match H t with
    | some (.tup [.int a, .int b]) => (a, b)
    | _ => (0, 0))
  | _ => (0, 0)
theorem pairOf_eq {H : Hp} {t : Addr} {a b : Int} (h : H t = some (.tup [.int a, .int b])) : pairOf H (.ref t) = (a, b) := by
  show (match H t with
    | some (.tup [.int a, .int b]) => (a, b)
    | _ => (0, 0)) = (a, b)
  rw [h]
def spMin (K : PySem.W.Frag) : Sp := fun vs H Q _ => ∃ (a : Addr) (ms : List Nat), vs = [.ref a] ∧ SqL K H a (nL ms) ∧ ms.length ≤ 10000000 ∧ ∀ G, MK.Least G (· ∈ ms) → NewL H Q (nL G)
/-- is one of the kept ones within m? -/
theorem any_list {g : List Nat} {m : Nat} {bs : List V} (h : bs = (List.range g.length).map fun j => V.bl (decide (((g.getD j 0 &&& m : Nat) : Int) = ((g.getD j 0 : Nat) : Int)))) :
    ∃ cs : List Bool, bs = cs.map V.bl ∧ cs.any id = g.any (fun k => k &&& m == k) := by
  refine ⟨g.map fun k => k &&& m == k, ?_, by rw [List.any_map]; rfl⟩
  rw [h, List.map_map]
  have e : (List.range g.length).map (fun j => g.getD j 0) = g := map_range_get g 0
  have q := congrArg (List.map fun k : Nat => V.bl (k &&& m == k)) e
  rw [List.map_map] at q
  rw [show (V.bl ∘ fun k : Nat => k &&& m == k) = fun k : Nat => V.bl (k &&& m == k) from rfl, ← q]
  refine List.map_congr_left fun j _ => ?_
  show V.bl _ = V.bl _
  congr 1
  rw [Bool.eq_iff_iff, decide_eq_true_iff, beq_iff_eq]
  exact Int.ofNat_inj
theorem c_minimal (D : FnAt K mg "minimal_masks" s_minimal_masks) (T : Bl mg) (c_bit_count : Cal P w K mg base 1 "bit_count" spOnes []) : Cal P w K mg base 2 "minimal_masks" (spMin K) [] := by
  refine calOf D sc_minimal_masks (fun _ _ _ _ _ _ us hl => match us, hl with | [_], _ => rfl) (fun vs H Q E h => ?_) (fun f cdv A outer s H vs Q E hr h => ?_)
  · obtain ⟨a, ms, rfl, _⟩ := h
    rfl
  · obtain ⟨a, ms, rfl, hS, hl, k⟩ := h
    have nd := sc_minimal_masks.nd
    have hu := hr.units
    refine ⟨_, (pss_cons (ps_set (i := 1) nd rfl (by first | exact Or.inl rfl | exact Or.inr rfl) (pe_callB (crSortP K) (by rfl) T.b_sorted (by decide +kernel) (pa_cons (pe_lc (own := [("mask", 2)]) (g := gName 2) (tt := tYes) rfl nd (piList K (pv 0)) (blkOk_by (N := ["masks", "ordered", "mask", "found", "size", "known"]) (sc := defScope s_minimal_masks) (own := [("mask", 2)]) (by decide +kernel)) (fun _ _ _ _ _ => (pg_name (i := 2) nd rfl (by first | exact Or.inl rfl | exact Or.inr rfl))) (fun _ _ _ _ _ => pts_nil) (fun _ _ _ _ _ => (pe_tup (pa_cons (pe_c c_bit_count hr (by decide) rfl (pa_cons (pv 2) pa_nil)) (pa_cons (pv 2) pa_nil))))) pa_nil)))
      (pss_cons (ps_set (i := 3) nd rfl (by first | exact Or.inl rfl | exact Or.inr rfl) (pe_lst pa_nil))
      (pss_cons (ps_for PassesOwn.never rfl (piList K (pv 1)) (pgTup K rfl (pgs_cons (pg_name (i := 4) nd rfl (by first | exact Or.inl rfl | exact Or.inr rfl)) (pgs_cons (pg_name (i := 2) nd rfl (by first | exact Or.inl rfl | exact Or.inr rfl)) pgs_nil)))
        (pss_one (ps_if (pt_not (pt_val (pe_callB (crAny K) (by rfl) T.b_any (by decide +kernel) (pa_cons (pe_lc (own := [("known", 5)]) (g := gName 5) (tt := tYes) rfl nd (piList K (pv 3)) (blkOk_by (N := ["masks", "ordered", "mask", "found", "size", "known"]) (sc := defScope s_minimal_masks) (own := [("known", 5)]) (by decide +kernel)) (fun _ _ _ _ _ => (pg_name (i := 5) nd rfl (by first | exact Or.inl rfl | exact Or.inr rfl))) (fun _ _ _ _ _ => pts_nil) (fun _ _ _ _ _ => (pe_cmpR op_eq (pe_op op_andN (pv 5) (pv 2)) (pv 5) (nomark _)))) pa_nil))))
          (pss_one (ps_expr (pe_bm PySem.F.plainAttrs_list PySem.F.slot_list_append PySem.F.type_list_append mt_append (pv 3) (pa_cons (pv 2) pa_nil))))
          pss_nil)))
      (pss_one (ps_ret (pv 3)))))), ?_⟩
    have hlm : (nL ms).length = ms.length := List.length_map _
    -- the pairs
    refine ⟨_, rfl, a, rfl, ⟨_, hS⟩, fun D hD => lc_listT hS (sel := fun _ => true) (P := fun i y H => ∃ t, y = .ref t ∧ H t = some (.tup [nV (MK.pc (ms.getD i 0)), nV (ms.getD i 0)]))
      ⟨fun i y H H' sm ⟨t, e1, e2⟩ => ⟨t, e1, sm _ _ e2 trivial⟩, fun i H' _ _ R r => r H' (Same.refl H'), fun i H' hi _ _ R r => ?_⟩ hD (lt_line (by omega)) (fun H1 ys sm hd hyl pr => ?_)⟩
    · refine ⟨_, rfl, ms.getD i 0, by rw [nL_getD hi]; rfl, _, rfl, by show 2 ≤ sizeLine; decide, fun p hp => ?_⟩
      refine r _ _ (same_new hp) ⟨p, rfl, ?_⟩
      rw [upd_same, nL_getD hi]
    · rw [filter_yes] at pr
      have lp := pr.length
      rw [List.length_range, hlm] at lp
      have at_ : ∀ x ∈ ys, ∃ (t : Addr) (m : Nat), x = .ref t ∧ H1 t = some (.tup [nV (MK.pc m), nV m]) := fun x hx => by
        obtain ⟨j, t, e1, e2⟩ := paired_left pr x hx
        exact ⟨t, _, e1, e2⟩
      refine ⟨D, ys, pairOf H1, rfl, SqL.of hd, fun x hx => ?_, fun zs o srt stb ho => ?_⟩
      · obtain ⟨t, m, e1, e2⟩ := at_ x hx
        subst e1
        exact ⟨t, rfl, by rw [pairOf_eq e2]; exact e2⟩
      -- the masks in their order
      have h1L : (zs.map fun x => (pairOf H1 x).2.toNat).Perm ms := by
        have q := stb.perm.map fun x => (pairOf H1 x).2.toNat
        refine q.trans (List.Perm.of_eq ?_)
        have e : ys.map (fun x => (pairOf H1 x).2.toNat) = (List.range (nL ms).length).map fun i => ms.getD i 0 := by
          refine paired_map_of pr fun y j ⟨t, e1, e2⟩ => ?_
          rw [e1, pairOf_eq e2]
          exact Int.toNat_natCast _
        rw [e, hlm, map_range_get]
      have atz : ∀ x ∈ zs, ∃ (t : Addr) (m : Nat), x = .ref t ∧ H1 t = some (.tup [nV (MK.pc m), nV m]) := fun x hx => at_ x (stb.perm.mem_iff.mp hx)
      have h2L : (zs.map fun x => (pairOf H1 x).2.toNat).Pairwise (fun x y => MK.pc x ≤ MK.pc y) := by
        rw [List.pairwise_map]
        refine srt.imp_of_mem fun {x y} hx hy h => ?_
        obtain ⟨t, m, e1, e2⟩ := atz x hx
        obtain ⟨t', m', e1', e2'⟩ := atz y hy
        have q := SrtO.lexB_no.mp h
        rw [e1, e1', pairOf_eq e2, pairOf_eq e2'] at *
        show MK.pc (Int.toNat (m : Int)) ≤ MK.pc (Int.toNat (m' : Int))
        rw [Int.toNat_natCast, Int.toNat_natCast]
        simp only [] at q
        omega
      generalize hLd : (zs.map fun x => (pairOf H1 x).2.toNat) = L at h1L h2L
      have lz : zs.length = L.length := by rw [← hLd, List.length_map]
      have lL : L.length ≤ 10000000 := by rw [h1L.length_eq]; exact hl
      have get : ∀ i x, zs[i]? = some x → ∃ t c, x = .ref t ∧ H1 t = some (.tup [nV c, nV (L.getD i 0)]) ∧ L[i]? = some (L.getD i 0) := fun i x hx => by
        obtain ⟨t, m, e1, e2⟩ := atz x (List.mem_of_getElem? hx)
        have e3 : L[i]? = some m := by
          rw [← hLd, List.getElem?_map, hx, e1]
          show some (pairOf H1 (.ref t)).2.toNat = some m
          rw [pairOf_eq e2]
          exact congrArg some (Int.toNat_natCast m)
        have e4 : L.getD i 0 = m := by rw [List.getD_eq_getElem?_getD, e3]; rfl
        exact ⟨t, _, e1, by rw [e4]; exact e2, by rw [e4]; exact e3⟩
      have sm1 := same_fresh (o := .lst zs) (Same.refl H1) ho
      refine ⟨Nat.zero_le _, fun q hq => ?_⟩
      have hq1 : H1 q = none := sm1.free hq
      have noq : o ≠ q := fun z => by rw [← z, upd_same] at hq; cases hq
      refine ⟨_, rfl, o, rfl, ⟨_, SqL.of (by rw [upd_ne noq]; exact upd_same)⟩, ?_⟩
      refine for_list (xs := zs) (fun i σ' H' => ∃ v2 v4, σ' = [some (.ref a), some (.ref o), v2, some (.ref q), v4, none] ∧ Same H1 H' ∧ H' o = some (.lst zs) ∧ H' q = some (.lst (nL (MK.greedy [] (L.take i)))) ∧ (MK.greedy [] (L.take i)).length ≤ i)
        ⟨none, none, rfl, (same_new ho).trans (same_new hq), by rw [upd_ne noq]; exact upd_same, by rw [upd_same]; rfl, Nat.le_refl 0⟩ (fun i σ' H' _ ⟨_, _, _, _, e, _⟩ => SqL.of e) (fun i x σ' H' hx hp => ?_) (fun σ' H' hp => ?_)
      · obtain ⟨v2, v4, rfl, sm2, e1, e2, e3⟩ := hp
        obtain ⟨t, c, rfl, ht, hLi⟩ := get i x hx
        have hi : i < zs.length := (List.getElem?_eq_some_iff.mp hx).1
        generalize L.getD i 0 = m at ht hLi
        have eg : MK.greedy [] (L.take (i + 1)) = if (MK.greedy [] (L.take i)).any (fun k => k &&& m == k) then MK.greedy [] (L.take i) else MK.greedy [] (L.take i) ++ [m] := by
          rw [List.take_add_one, hLi, MK.greedy_append]
          rfl
        rw [eg]
        generalize MK.greedy [] (L.take i) = g at e2 e3 ⊢
        refine ⟨t, _, rfl, SqT.of (sm2 _ _ ht), rfl, nV c, _, rfl, nV m, _, rfl, rfl, ?_⟩
        -- any([known & mask == known for known in found])
        refine ⟨_, rfl, q, rfl, ⟨_, SqL.of e2⟩, fun B hB => lc_listT (SqL.of e2) (sel := fun _ => true) (P := fun j y _ => y = V.bl (decide (((g.getD j 0 &&& m : Nat) : Int) = ((g.getD j 0 : Nat) : Int))))
          ⟨fun _ _ _ _ _ h => h, fun j H3 _ _ R r => r H3 (Same.refl H3), fun j H3 hj _ _ R r => ?_⟩ hB (lt_line (by rw [List.length_map]; omega)) (fun H3 bs sm3 hb _ pb => ?_)⟩
        · have ej := nL_getD hj
          exact ⟨_, rfl, _, rfl, g.getD j 0, m, ej, rfl, _, rfl, by rw [ej]; rfl, r _ H3 (Same.refl H3) (by rw [ej]; exact congrArg V.bl (decide_eq_decide.mpr ⟨fun h => V.int.inj h, fun h => congrArg V.int h⟩))⟩
        · rw [filter_yes, List.length_map] at pb
          obtain ⟨cs, rfl, ec⟩ := any_list (paired_map_eq pb)
          refine ⟨B, cs, rfl, SqL.of hb, _, rfl, ?_⟩
          rw [ec]
          cases hany : g.any (fun k => k &&& m == k) with
          | true =>
            refine iteF ?_
            exact ⟨some (nV m), some (nV c), rfl, sm2.trans sm3, sm3 _ _ e1, sm3 _ _ e2, by rw [if_pos rfl]; omega⟩
          | false =>
            refine iteT ?_
            refine ⟨_, rfl, .inl ⟨rfl, _, SqL.of (sm3 _ _ e2)⟩, _, rfl, q, _, _, rfl, rfl, sm3 _ _ e2, ?_, ?_⟩
            · rw [List.length_map]
              exact Nat.lt_of_le_of_lt (show g.length ≤ 10000000 by omega) (by rw [sizeLine_eq]; decide)
            · refine ⟨some (nV m), some (nV c), rfl, same_fresh (sm2.trans sm3) hq1, by rw [upd_ne noq]; exact sm3 _ _ e1, ?_, ?_⟩
              · rw [upd_same, if_neg Bool.false_ne_true, nL_snoc]
              · rw [if_neg Bool.false_ne_true, List.length_append]
                show g.length + 1 ≤ i + 1
                omega
      · obtain ⟨v2, v4, rfl, sm2, e1, e2, e3⟩ := hp
        rw [lz, List.take_length] at e2
        have hG := MK.greedy_least h2L
        have hG' : MK.Least (MK.greedy [] L) (· ∈ ms) := ⟨hG.nd, fun x => (hG.mem x).trans (MK.MinOf.congr (fun y => h1L.mem_iff) x), hG.up⟩
        exact ⟨_, rfl, k _ hG' q H' (sm.trans sm2) (sm.free hq1) e2⟩
end
end L2.KK
namespace L2.KK
open PySem PySem.Spec PyProof.Rows C8
theorem sc_law_least_masks : FnScope ["masks", "found", "mask", "known"] ["masks"] (defScope s_law_least_masks) := ⟨rfl, rfl, rfl, by decide +kernel, rfl, by decide +kernel, by decide +kernel⟩
theorem sc_law_meets : FnScope ["mask", "masks", "other"] ["mask", "masks"] (defScope s_law_meets) := ⟨rfl, rfl, rfl, by decide +kernel, rfl, by decide +kernel, by decide +kernel⟩
theorem sc_law_due_blocker : FnScope ["masks", "many", "mask"] ["masks", "many"] (defScope s_law_due_blocker) := ⟨rfl, rfl, rfl, by decide +kernel, rfl, by decide +kernel, by decide +kernel⟩
/-! ### lists of whole numbers as data -/
theorem dpAll_ints {K : PySem.W.Frag} {H : Hp} : ∀ ns : List Int, DpAll K H (ns.map V.int) (ns.map PyData.int)
  | [] => .nil
  | n :: ns => .cons (.int n) (dpAll_ints ns)
theorem shaped_intsL (ns : List Int) : SeqAt.shaped (.list (ns.map PyData.int)) = true := by
  have h := shaped_ints ns
  unfold SeqAt.shaped at h ⊢
  exact h
theorem eqd_ints {K : PySem.W.Frag} {H : Hp} {a b : Addr} {xs ys : List Int} {Q : VK} (ha : SqL K H a (xs.map V.int)) (hb : SqL K H b (ys.map V.int)) (q : Q (.bl (decide (xs = ys))) H) : rEqD K (.ref a) (.ref b) H Q := by
  refine ⟨_, _, .lst ha (dpAll_ints xs), .lst hb (dpAll_ints ys), shaped_intsL xs, shaped_intsL ys, ?_⟩
  have e : PyData.eqv (.list (xs.map PyData.int)) (.list (ys.map PyData.int)) = decide (xs = ys) := by
    show PyData.eqvAll _ _ = _
    exact PySem.W.ked_eqvAll xs ys
  rw [e]
  exact q
theorem ned_ints {K : PySem.W.Frag} {H : Hp} {a b : Addr} {xs ys : List Int} {Q : VK} (ha : SqL K H a (xs.map V.int)) (hb : SqL K H b (ys.map V.int)) (q : Q (.bl (!decide (xs = ys))) H) : rNeD K (.ref a) (.ref b) H Q := by
  refine ⟨_, _, .lst ha (dpAll_ints xs), .lst hb (dpAll_ints ys), shaped_intsL xs, shaped_intsL ys, ?_⟩
  have e : PyData.eqv (.list (xs.map PyData.int)) (.list (ys.map PyData.int)) = decide (xs = ys) := by
    show PyData.eqvAll _ _ = _
    exact PySem.W.ked_eqvAll xs ys
  rw [e]
  exact q
abbrev iL (xs : List Nat) : List Int := xs.map fun n : Nat => (n : Int)
theorem nL_eq (xs : List Nat) : nL xs = (iL xs).map V.int := by
  show xs.map nV = (xs.map fun n : Nat => (n : Int)).map V.int
  rw [List.map_map]
  rfl
theorem iL_inj {xs ys : List Nat} (h : iL xs = iL ys) : xs = ys := by
  have : (iL xs).map Int.toNat = (iL ys).map Int.toNat := by rw [h]
  rw [List.map_map, List.map_map, show (Int.toNat ∘ fun n : Nat => (n : Int)) = id from funext fun n => Int.toNat_natCast n, List.map_id, List.map_id] at this
  exact this
/-- two orders of the same numbers, both rising, are one -/
theorem rising_one : ∀ {xs ys : List Int}, xs.Perm ys → xs.Pairwise (· ≤ ·) → ys.Pairwise (· ≤ ·) → xs = ys
  | [], ys, p, _, _ => (List.Perm.eq_nil p.symm).symm
  | x :: xs, [], p, _, _ => by have := p.length_eq; simp at this
  | x :: xs, y :: ys, p, h1, h2 => by
    obtain ⟨a1, a2⟩ := List.pairwise_cons.mp h1
    obtain ⟨b1, b2⟩ := List.pairwise_cons.mp h2
    have e : x = y := by
      have m1 : x ∈ y :: ys := p.mem_iff.mp List.mem_cons_self
      have m2 : y ∈ x :: xs := p.mem_iff.mpr List.mem_cons_self
      have l1 : y ≤ x := by
        rcases List.mem_cons.mp m1 with z | z
        · omega
        · exact b1 x z
      have l2 : x ≤ y := by
        rcases List.mem_cons.mp m2 with z | z
        · omega
        · exact a1 y z
      omega
    subst e
    rw [rising_one (List.Perm.cons_inv p) a2 b2]
def unV : V → Nat
  | .int n => n.toNat
  | _ => 0
theorem unV_nV (n : Nat) : unV (nV n) = n := Int.toNat_natCast n
theorem nats_perm {ys : List V} {ms : List Nat} (h : ys.Perm (nL ms)) : ∃ L : List Nat, ys = nL L ∧ L.Perm ms := by
  have e : (nL ms).map unV = ms := by
    show (ms.map nV).map unV = ms
    rw [List.map_map, show (unV ∘ nV) = id from funext unV_nV, List.map_id]
  refine ⟨ys.map unV, ?_, ?_⟩
  · show ys = (ys.map unV).map nV
    rw [List.map_map]
    refine (List.map_id ys).symm.trans (List.map_congr_left fun y hy => ?_)
    obtain ⟨m, _, rfl⟩ := List.mem_map.mp (h.mem_iff.mp hy)
    show nV m = nV (unV (nV m))
    rw [unV_nV]
  · have q := h.map unV
    rw [e] at q
    exact q
section
variable {P : Program} {w : World} {K : PySem.W.Frag} {mg : Str → Option Value} {base : Heap}
def onesOf (v : V) : Int := (MK.pc (unV v) : Int)
theorem c_least (D : FnAt K mg "_law_least_masks" s_law_least_masks) (T : Bl mg) (c_law_ones : Cal P w K mg base 1 "_law_ones" spOnes []) : Cal P w K mg base 10 "_law_least_masks" (spMin K) [] := by
  refine calOf D sc_law_least_masks (fun _ _ _ _ _ _ us hl => match us, hl with | [_], _ => rfl) (fun vs H Q E h => ?_) (fun f cdv A outer s H vs Q E hr h => ?_)
  · obtain ⟨a, ms, rfl, _⟩ := h
    rfl
  · obtain ⟨a, ms, rfl, hS, hl, k⟩ := h
    have nd := sc_law_least_masks.nd
    obtain ⟨f_law_ones, fd1, ps1, F_law_ones, m_law_ones, b_law_ones⟩ := cal_parts c_law_ones
    refine ⟨_, (pss_cons (ps_set (i := 1) nd rfl (by first | exact Or.inl rfl | exact Or.inr rfl) (pe_lst pa_nil))
      (pss_cons (ps_for PassesOwn.never rfl (piList K (pe_callBK (crSortBy K F_law_ones b_law_ones (hr.mono (by decide))) (by rfl) T.b_sorted (by decide +kernel) (pa_cons (pv 0) pa_nil) (pk_cons (pe_glob (v := .ref f_law_ones) (by rfl) m_law_ones (by rfl)) pk_nil))) (pg_name (i := 2) nd rfl (by first | exact Or.inl rfl | exact Or.inr rfl))
        (pss_one (ps_if (pt_not (pt_val (pe_callB (crAny K) (by rfl) T.b_any (by decide +kernel) (pa_cons (pe_lc (own := [("known", 3)]) (g := gName 3) (tt := tYes) rfl nd (piList K (pv 1)) (blkOk_by (N := ["masks", "found", "mask", "known"]) (sc := defScope s_law_least_masks) (own := [("known", 3)]) (by decide +kernel)) (fun _ _ _ _ _ => (pg_name (i := 3) nd rfl (by first | exact Or.inl rfl | exact Or.inr rfl))) (fun _ _ _ _ _ => pts_nil) (fun _ _ _ _ _ => (pe_cmpR op_eq (pe_op op_andN (pv 3) (pv 2)) (pv 3) (nomark _)))) pa_nil))))
          (pss_one (ps_expr (pe_bm PySem.F.plainAttrs_list PySem.F.slot_list_append PySem.F.type_list_append mt_append (pv 1) (pa_cons (pv 2) pa_nil))))
          pss_nil)))
      (pss_one (ps_ret (pv 1))))), ?_⟩
    refine ⟨Nat.zero_le _, fun q hq => ?_⟩
    have sm0 := same_new (o := .lst []) hq
    refine ⟨_, rfl, onesOf, a, nL ms, rfl, rfl, sm0.seq hS, fun x hx H2 _ R r => ?_, fun ys o H1 sm ho pm pw => ?_⟩
    · obtain ⟨m, _, rfl⟩ := List.mem_map.mp hx
      exact ⟨m, rfl, r _ H2 (Same.refl H2) (by show nV (MK.pc m) = .int ((MK.pc (unV (nV m)) : Nat) : Int); rw [unV_nV])⟩
    · obtain ⟨L, rfl, h1L⟩ := nats_perm pm
      have h2L : L.Pairwise (fun x y => MK.pc x ≤ MK.pc y) := by
        have q := List.pairwise_map.mp pw
        refine q.imp fun {x y} h => ?_
        have := of_decide_eq_false h
        unfold onesOf at this
        rw [unV_nV, unV_nV] at this
        omega
      have lL : L.length ≤ 10000000 := by rw [h1L.length_eq]; exact hl
      have q1 := sm _ _ (show (upd H q (.lst [])) q = some (.lst []) from upd_same)
      have nqo : q ≠ o := ne_of_none q1 ho
      refine ⟨o, rfl, ⟨_, SqL.of upd_same⟩, ?_⟩
      refine for_list (xs := nL L) (fun i σ' H' => ∃ v2, σ' = [some (.ref a), some (.ref q), v2, none] ∧ Same H H' ∧ H' o = some (.lst (nL L)) ∧ H' q = some (.lst (nL (MK.greedy [] (L.take i)))) ∧ (MK.greedy [] (L.take i)).length ≤ i)
        ⟨none, rfl, (sm0.trans sm).trans (same_new ho), upd_same, by rw [upd_ne nqo]; exact q1, Nat.le_refl 0⟩ (fun i σ' H' _ ⟨_, _, _, e, _⟩ => SqL.of e) (fun i x σ' H' hx hp => ?_) (fun σ' H' hp => ?_)
      · obtain ⟨v2, rfl, sm2, e1, e2, e3⟩ := hp
        obtain ⟨hi, ex⟩ := List.getElem?_eq_some_iff.mp hx
        rw [List.length_map] at hi
        have hLi : L[i]? = some L[i] := List.getElem?_eq_getElem hi
        rw [nL_get hi] at hx
        cases hx
        generalize L[i] = m at hLi ⊢
        have eg : MK.greedy [] (L.take (i + 1)) = if (MK.greedy [] (L.take i)).any (fun k => k &&& m == k) then MK.greedy [] (L.take i) else MK.greedy [] (L.take i) ++ [m] := by
          rw [List.take_add_one, hLi, MK.greedy_append]
          rfl
        rw [eg]
        generalize MK.greedy [] (L.take i) = g at e2 e3 ⊢
        refine ⟨_, rfl, q, rfl, ⟨_, SqL.of e2⟩, fun B hB => lc_listT (SqL.of e2) (sel := fun _ => true) (P := fun j y _ => y = V.bl (decide (((g.getD j 0 &&& m : Nat) : Int) = ((g.getD j 0 : Nat) : Int))))
          ⟨fun _ _ _ _ _ h => h, fun j H3 _ _ R r => r H3 (Same.refl H3), fun j H3 hj _ _ R r => ?_⟩ hB (lt_line (by rw [List.length_map]; omega)) (fun H3 bs sm3 hb _ pb => ?_)⟩
        · have ej := nL_getD hj
          exact ⟨_, rfl, _, rfl, g.getD j 0, m, ej, rfl, _, rfl, by rw [ej]; rfl, r _ H3 (Same.refl H3) (by rw [ej]; exact congrArg V.bl (decide_eq_decide.mpr ⟨fun h => V.int.inj h, fun h => congrArg V.int h⟩))⟩
        · rw [filter_yes, List.length_map] at pb
          obtain ⟨cs, rfl, ec⟩ := any_list (paired_map_eq pb)
          refine ⟨B, cs, rfl, SqL.of hb, _, rfl, ?_⟩
          rw [ec]
          cases hany : g.any (fun k => k &&& m == k) with
          | true =>
            refine iteF ?_
            exact ⟨some (nV m), rfl, sm2.trans sm3, sm3 _ _ e1, sm3 _ _ e2, by rw [if_pos rfl]; omega⟩
          | false =>
            refine iteT ?_
            refine ⟨_, rfl, .inl ⟨rfl, _, SqL.of (sm3 _ _ e2)⟩, _, rfl, q, _, _, rfl, rfl, sm3 _ _ e2, ?_, ?_⟩
            · rw [List.length_map]
              exact Nat.lt_of_le_of_lt (show g.length ≤ 10000000 by omega) (by rw [sizeLine_eq]; decide)
            · refine ⟨some (nV m), rfl, same_fresh (sm2.trans sm3) hq, by rw [upd_ne nqo.symm]; exact sm3 _ _ e1, ?_, ?_⟩
              · rw [upd_same, if_neg Bool.false_ne_true, nL_snoc]
              · rw [if_neg Bool.false_ne_true, List.length_append]
                show g.length + 1 ≤ i + 1
                omega
      · obtain ⟨v2, rfl, sm2, e1, e2, e3⟩ := hp
        have lz : (nL L).length = L.length := List.length_map _
        rw [lz, List.take_length] at e2
        have hG := MK.greedy_least h2L
        have hG' : MK.Least (MK.greedy [] L) (· ∈ ms) := ⟨hG.nd, fun x => (hG.mem x).trans (MK.MinOf.congr (fun y => h1L.mem_iff) x), hG.up⟩
        exact ⟨_, rfl, k _ hG' q H' sm2 hq e2⟩
def spMeets (K : PySem.W.Frag) : Sp := fun vs H Q _ => ∃ (a : Addr) (m : Nat) (ms : List Nat), vs = [nV m, .ref a] ∧ SqL K H a (nL ms) ∧ ms.length ≤ 10000000 ∧ ∀ H', Same H H' → Q (.bl (ms.all fun o => decide (m &&& o ≠ 0))) H'
theorem c_meets (D : FnAt K mg "_law_meets" s_law_meets) (T : Bl mg) : Cal P w K mg base 1 "_law_meets" (spMeets K) [] := by
  refine calOf D sc_law_meets (fun _ _ _ _ _ _ us hl => match us, hl with | [_, _], _ => rfl) (fun vs H Q E h => ?_) (fun f cdv A outer s H vs Q E hr h => ?_)
  · obtain ⟨a, m, ms, rfl, _⟩ := h
    rfl
  · obtain ⟨a, m, ms, rfl, hS, hl, k⟩ := h
    have nd := sc_law_meets.nd
    refine ⟨_, (pss_one (ps_ret (pe_callB (crAll K) (by rfl) T.b_all (by decide +kernel) (pa_cons (pe_lc (own := [("other", 2)]) (g := gName 2) (tt := tYes) rfl nd (piList K (pv 1)) (blkOk_by (N := ["mask", "masks", "other"]) (sc := defScope s_law_meets) (own := [("other", 2)]) (by decide +kernel)) (fun _ _ _ _ _ => (pg_name (i := 2) nd rfl (by first | exact Or.inl rfl | exact Or.inr rfl))) (fun _ _ _ _ _ => pts_nil) (fun _ _ _ _ _ => (pe_cmpR op_gt (pe_op op_andN (pv 0) (pv 2)) pe_int (nomark _)))) pa_nil)))), ?_⟩
    refine ⟨_, rfl, a, rfl, ⟨_, hS⟩, fun D hD => lc_listT hS (sel := fun _ => true) (P := fun i y _ => y = .bl (decide (m &&& ms.getD i 0 ≠ 0))) ⟨fun _ _ _ _ _ h => h, fun i H' _ _ R r => r H' (Same.refl H'), fun i H' hi _ _ R r => ?_⟩ hD (lt_line (by rw [List.length_map]; omega)) (fun H1 ys sm hd _ pr => ?_)⟩
    · refine ⟨_, rfl, _, rfl, m, ms.getD i 0, rfl, nL_getD hi, _, 0, rfl, rfl, r _ H' (Same.refl H') ?_⟩
      exact congrArg V.bl (decide_eq_decide.mpr (by omega))
    · rw [filter_yes, List.length_map] at pr
      have e : ys = (ms.map fun o => decide (m &&& o ≠ 0)).map V.bl := by
        rw [paired_map_eq pr, List.map_map]
        have q := congrArg (List.map fun o => V.bl (decide (m &&& o ≠ 0))) (map_range_get ms 0)
        rw [List.map_map] at q
        exact q
      rw [e] at hd
      refine ⟨D, _, rfl, SqL.of hd, ?_⟩
      rw [List.all_map]
      exact k H1 sm
def spDue (K : PySem.W.Frag) : Sp := fun vs H Q _ => ∃ (a : Addr) (n : Nat) (ms : List Nat), vs = [.ref a, nV n] ∧ SqL K H a (nL ms) ∧ ms.length ≤ 10000000 ∧ n ≤ 10 ∧ ∀ G, MK.Least G (MK.Tr ms n) → NewL H Q (nL G)
theorem c_due (D : FnAt K mg "_law_due_blocker" s_law_due_blocker) (T : Bl mg) (c_law_least_masks : Cal P w K mg base 10 "_law_least_masks" (spMin K) []) (c_law_meets : Cal P w K mg base 1 "_law_meets" (spMeets K) []) : Cal P w K mg base 11 "_law_due_blocker" (spDue K) [] := by
  refine calOf D sc_law_due_blocker (fun _ _ _ _ _ _ us hl => match us, hl with | [_, _], _ => rfl) (fun vs H Q E h => ?_) (fun f cdv A outer s H vs Q E hr h => ?_)
  · obtain ⟨a, n, ms, rfl, _⟩ := h
    rfl
  · obtain ⟨a, n, ms, rfl, hS, hl, hn, k⟩ := h
    have nd := sc_law_due_blocker.nd
    refine ⟨_, (pss_one (ps_ret (pe_c c_law_least_masks hr (by decide) rfl (pa_cons (pe_lc (own := [("mask", 2)]) (g := gName 2) rfl nd (pi_range1 (by rfl) T.b_range (pa_cons (pe_op op_shlNN pe_int (pv 1)) pa_nil)) (blkOk_by (N := ["masks", "many", "mask"]) (sc := defScope s_law_due_blocker) (own := [("mask", 2)]) (by decide +kernel)) (fun _ _ _ _ _ => (pg_name (i := 2) nd rfl (by first | exact Or.inl rfl | exact Or.inr rfl))) (fun _ _ _ _ _ => (pts_one (pt_val (pe_c c_law_meets hr (by decide) rfl (pa_cons (pv 2) (pa_cons (pv 0) pa_nil)))))) (fun _ _ _ _ _ => (pv 2))) pa_nil)))), ?_⟩
    have h2 : 2 ^ n ≤ 1024 := Nat.pow_le_pow_right (by decide) hn
    refine ⟨_, rfl, 1, n, rfl, rfl, ⟨by omega, by decide⟩, ((1 * 2 ^ n : Nat) : Int), rfl, by omega, by omega, ?_⟩
    rw [Int.toNat_natCast, Nat.one_mul]
    refine fun D hD => lc_rangeT (lo := 0) (sel := fun i => ms.all fun o => decide (i &&& o ≠ 0)) (P := fun i y _ => y = nV i) ⟨fun _ _ _ _ _ h => h, fun i H' hi sm R r => ?_, fun i H' hi _ _ R r => ?_⟩ hD (lt_line (by omega)) (fun H1 ys sm hd hl1 pr => ?_)
    · exact ⟨_, rfl, _, rfl, a, i, ms, by rw [Int.zero_add]; rfl, sm.seq hS, hl, fun H2 sm2 => ⟨_, rfl, r H2 sm2⟩⟩
    · exact ⟨_, rfl, r _ H' (Same.refl H') (by rw [Int.zero_add])⟩
    · have ey := paired_map_eq pr
      rw [ey] at hd hl1
      rw [List.length_map] at hl1
      refine ⟨D, (List.range (2 ^ n)).filter fun i => ms.all fun o => decide (i &&& o ≠ 0), rfl, SqL.of hd, by omega, fun G hG p H' sm' hp e => ?_⟩
      refine k G ⟨hG.nd, fun x => (hG.mem x).trans (MK.MinOf.congr (fun y => ?_) x), hG.up⟩ p H' (sm.trans sm') (sm.free hp) e
      rw [List.mem_filter, List.mem_range, List.all_eq_true]
      unfold MK.Tr
      exact and_congr_right fun _ => ⟨fun h m hm => of_decide_eq_true (h m hm), fun h m hm => decide_eq_true (h m hm)⟩
end
end L2.KK
namespace L2.KK
open PySem PySem.Spec PyProof.Rows C8
theorem sc_lot_rank : FnScope ["lot"] ["lot"] (defScope s_lot_rank) := ⟨rfl, rfl, rfl, by decide +kernel, rfl, by decide +kernel, by decide +kernel⟩
theorem sc_law_lot_rank : FnScope ["lot"] ["lot"] (defScope s_law_lot_rank) := ⟨rfl, rfl, rfl, by decide +kernel, rfl, by decide +kernel, by decide +kernel⟩
theorem sc_as_lots : FnScope ["masks", "many", "lots", "mask"] ["masks", "many"] (defScope s_as_lots) := ⟨rfl, rfl, rfl, by decide +kernel, rfl, by decide +kernel, by decide +kernel⟩
theorem sc_law_lots : FnScope ["masks", "many", "lots", "spot", "mask"] ["masks", "many"] (defScope s_law_lots) := ⟨rfl, rfl, rfl, by decide +kernel, rfl, by decide +kernel, by decide +kernel⟩
theorem sc_law_is_sorted : FnScope ["masks", "sizes", "mask"] ["masks"] (defScope s_law_is_sorted) := ⟨rfl, rfl, rfl, by decide +kernel, rfl, by decide +kernel, by decide +kernel⟩
theorem sc_law_is_int : FnScope ["thing"] ["thing"] (defScope s_law_is_int) := ⟨rfl, rfl, rfl, by decide +kernel, rfl, by decide +kernel, by decide +kernel⟩
theorem paired_mapR {α β γ : Type} {F : α → γ → Prop} (g : β → γ) : ∀ {a : List α} {b : List β}, Paired (fun x y => F x (g y)) a b → Paired F a (b.map g)
  | _, _, .nil => .nil
  | _, _, .cons r t => .cons r (paired_mapR g t)
/-! ### lots: tuples of whole numbers -/
theorem bitsOf_len (m n : Nat) : (MK.bitsOf m n).length ≤ n := by
  unfold MK.bitsOf
  have := List.length_filter_le (fun i => m.testBit i) (List.range n)
  rw [List.length_range] at this
  exact this
/-- rs are tuples that hold the lots Ls -/
def LotAt (K : PySem.W.Frag) (H : Hp) (y : V) (l : List Nat) : Prop := ∃ r, y = .ref r ∧ SqT K H r (nL l)
theorem LotAt.grow {K : PySem.W.Frag} {H H' : Hp} {y : V} {l : List Nat} (h : LotAt K H y l) (e : Same H H') : LotAt K H' y l := by
  obtain ⟨r, e1, e2⟩ := h
  exact ⟨r, e1, same_seqT e e2⟩
def LotsAt (K : PySem.W.Frag) (H : Hp) (p : Addr) (Ls : List (List Nat)) : Prop := ∃ ys, SqT K H p ys ∧ Paired (LotAt K H) ys Ls
theorem dp_lot {K : PySem.W.Frag} {H : Hp} {y : V} {l : List Nat} (h : LotAt K H y l) : Dp K H y (.tuple ((iL l).map PyData.int)) := by
  obtain ⟨r, rfl, e⟩ := h
  rw [nL_eq] at e
  exact .tup e (dpAll_ints _)
theorem dp_lots {K : PySem.W.Frag} {H : Hp} : ∀ {ys : List V} {Ls : List (List Nat)}, Paired (LotAt K H) ys Ls → DpAll K H ys (Ls.map fun l => PyData.tuple ((iL l).map PyData.int))
  | _, _, .nil => .nil
  | _, _, .cons r t => .cons (dp_lot r) (dp_lots t)
theorem eqv_lots : ∀ a b : List (List Nat), PyData.eqvAll (a.map fun l => PyData.tuple ((iL l).map PyData.int)) (b.map fun l => PyData.tuple ((iL l).map PyData.int)) = decide (a = b)
  | [], [] => by simp only [List.map_nil, PyData.eqvAll, decide_true]
  | [], _ :: _ => by simp [PyData.eqvAll]
  | _ :: _, [] => by simp [PyData.eqvAll]
  | x :: xs, y :: ys => by
    rw [List.map_cons, List.map_cons, PyData.eqvAll, eqv_lots xs ys]
    have e : PyData.eqv (.tuple ((iL x).map PyData.int)) (.tuple ((iL y).map PyData.int)) = decide (x = y) := by
      show PyData.eqvAll _ _ = _
      rw [PySem.W.ked_eqvAll]
      exact decide_eq_decide.mpr ⟨iL_inj, fun h => by rw [h]⟩
    rw [e, ← Bool.decide_and]
    exact decide_eq_decide.mpr (by rw [List.cons.injEq])
theorem depth_ints (ns : List Int) : (PyData.tuple (ns.map PyData.int)).depth ≤ 1 := by
  unfold PyData.depth
  have d : PyData.depthAll (ns.map PyData.int) ≤ 0 := PySem.W.depthAll_map (α := Int) ns
  omega
theorem shaped_lots (Ls : List (List Nat)) : SeqAt.shaped (.tuple (Ls.map fun l => PyData.tuple ((iL l).map PyData.int))) = true := by
  unfold SeqAt.shaped
  rw [Bool.and_eq_true]
  constructor
  · unfold PyData.canLay0
    induction Ls with
    | nil => rfl
    | cons l Ls ih =>
      rw [List.map_cons]
      unfold PyData.canLayAll0
      rw [ih]
      have h := SeqAt.canLay_of_shaped (shaped_ints (iL l))
      rw [h]
      rfl
  · refine decide_eq_true ?_
    unfold PyData.depth
    have : PyData.depthAll (Ls.map fun l => PyData.tuple ((iL l).map PyData.int)) ≤ 1 := by
      induction Ls with
      | nil =>
        show 0 ≤ 1
        decide
      | cons l Ls ih =>
        rw [List.map_cons]
        unfold PyData.depthAll
        have := depth_ints (iL l)
        omega
    omega
theorem ned_lots {K : PySem.W.Frag} {H : Hp} {a b : Addr} {As Bs : List (List Nat)} {Q : VK} (ha : LotsAt K H a As) (hb : LotsAt K H b Bs) (q : Q (.bl (!decide (As = Bs))) H) : rNeD K (.ref a) (.ref b) H Q := by
  obtain ⟨xs, a1, a2⟩ := ha
  obtain ⟨ys, b1, b2⟩ := hb
  refine ⟨_, _, .tup a1 (dp_lots a2), .tup b1 (dp_lots b2), shaped_lots As, shaped_lots Bs, ?_⟩
  have e : PyData.eqv (.tuple (As.map fun l => PyData.tuple ((iL l).map PyData.int))) (.tuple (Bs.map fun l => PyData.tuple ((iL l).map PyData.int))) = decide (As = Bs) := by
    show PyData.eqvAll _ _ = _
    exact eqv_lots As Bs
  rw [e]
  exact q
/-- the order of lots -/
def LotLe (a b : List Nat) : Prop := ltLot (iL b) (iL a) = false
theorem lots_one : ∀ {xs ys : List (List Nat)}, xs.Perm ys → xs.Pairwise LotLe → ys.Pairwise LotLe → xs = ys := fun {xs ys} p h1 h2 =>
  List.Perm.eq_of_pairwise (le := LotLe) (fun a b _ _ h k => iL_inj (ltLot_anti k h)) h1 h2 p
section
variable {P : Program} {w : World} {K : PySem.W.Frag} {mg : Str → Option Value} {base : Heap}
def spRank (K : PySem.W.Frag) : Sp := fun vs H Q _ => ∃ (t : Addr) (l : List Nat), vs = [.ref t] ∧ SqT K H t (nL l) ∧ ∀ p H', Same H H' → H p = none → H' p = some (.tup [nV l.length, .ref t]) → Q (.ref p) H'
theorem c_rank (D : FnAt K mg "lot_rank" s_lot_rank) (T : Bl mg) : Cal P w K mg base 1 "lot_rank" (spRank K) [] := by
  refine calOf D sc_lot_rank (fun _ _ _ _ _ _ us hl => match us, hl with | [_], _ => rfl) (fun vs H Q E h => ?_) (fun f cdv A outer s H vs Q E hr h => ?_)
  · obtain ⟨t, l, rfl, _⟩ := h
    rfl
  · obtain ⟨t, l, rfl, hT, k⟩ := h
    refine ⟨_, (pss_one (ps_ret (pe_tup (pa_cons (pe_callB (crLen K) (by rfl) T.b_len (by decide +kernel) (pa_cons (pv 0) pa_nil)) (pa_cons (pv 0) pa_nil))))), ?_⟩
    refine ⟨_, rfl, t, _, rfl, .inr hT, _, rfl, by show 2 ≤ sizeLine; decide, fun p hp => ?_⟩
    exact k p _ (same_new hp) hp (by rw [upd_same, List.length_map])
theorem c_lrank (D : FnAt K mg "_law_lot_rank" s_law_lot_rank) (T : Bl mg) : Cal P w K mg base 1 "_law_lot_rank" (spRank K) [] := by
  refine calOf D sc_law_lot_rank (fun _ _ _ _ _ _ us hl => match us, hl with | [_], _ => rfl) (fun vs H Q E h => ?_) (fun f cdv A outer s H vs Q E hr h => ?_)
  · obtain ⟨t, l, rfl, _⟩ := h
    rfl
  · obtain ⟨t, l, rfl, hT, k⟩ := h
    refine ⟨_, (pss_one (ps_ret (pe_tup (pa_cons (pe_callB (crLen K) (by rfl) T.b_len (by decide +kernel) (pa_cons (pv 0) pa_nil)) (pa_cons (pv 0) pa_nil))))), ?_⟩
    refine ⟨_, rfl, t, _, rfl, .inr hT, _, rfl, by show 2 ≤ sizeLine; decide, fun p hp => ?_⟩
    exact k p _ (same_new hp) hp (by rw [upd_same, List.length_map])
def spLots (K : PySem.W.Frag) : Sp := fun vs H Q _ => ∃ (a : Addr) (n : Nat) (ms : List Nat), vs = [.ref a, nV n] ∧ SqL K H a (nL ms) ∧ ms.length ≤ 1000000 ∧ n ≤ 1000 ∧
  ∀ p H' Ls, Same H H' → H p = none → LotsAt K H' p Ls → Ls.Perm (ms.map fun m => MK.bitsOf m n) → Ls.Pairwise LotLe → Q (.ref p) H'
/-- what a lot at an address holds -/
def lotOf (H : Hp) (x : V) : List Nat := match x with
  | .ref t => (match H t with
    | some (.tup ys) => ys.map unV
    | _ => [])
  | _ => []
theorem lotOf_eq {H : Hp} {t : Addr} {l : List Nat} (h : H t = some (.tup (nL l))) : lotOf H (.ref t) = l := by
  show (match H t with
    | some (.tup ys) => ys.map unV
    | _ => []) = l
  rw [h]
  show (l.map nV).map unV = l
  rw [List.map_map, show (unV ∘ nV) = id from funext unV_nV, List.map_id]
/-- the end of both: lots stand in the list at D, they are sorted, a tuple is made of them -/
theorem lots_end {H H1 : Hp} {Q : VK} {D f : Addr} {ys : List V} {Ls : List (List Nat)} {n : Nat} {ms : List Nat} (sm : Same H H1) (hD : H D = none) (hd : H1 D = some (.lst ys)) (pr : Paired (fun y l => ∃ t, y = V.ref t ∧ H1 t = some (.tup (nL l))) ys Ls) (hL : Ls = ms.map fun m => MK.bitsOf m n) (hz : ms.length ≤ 1000000)
    (k : ∀ p H' Ls, Same H H' → H p = none → LotsAt K H' p Ls → Ls.Perm (ms.map fun m => MK.bitsOf m n) → Ls.Pairwise LotLe → Q (.ref p) H') :
    rSortedLot K f (spRank K) [.ref D] [.ref f] H1 fun v H2 => rTupQ K [v] H2 Q := by
  refine ⟨fun x => iL (lotOf H1 x), D, ys, rfl, rfl, SqL.of hd, fun x hx H2 sm2 R r => ?_, fun zs o H2 sm2 ho pm pw => ?_⟩
  · obtain ⟨l, t, rfl, ht⟩ := paired_left pr x hx
    refine ⟨t, l, rfl, SqT.of (sm2 _ _ ht), fun p H3 sm3 hp e => ?_⟩
    refine r _ H3 sm3 ⟨t, p, rfl, rfl, ?_, ?_⟩
    · show SqT K H3 t ((iL (lotOf H1 (.ref t))).map V.int)
      rw [lotOf_eq ht, ← nL_eq]
      exact SqT.of (sm3 _ _ (sm2 _ _ ht))
    · show H3 p = some (.tup [.int ((iL (lotOf H1 (.ref t))).length : Int), .ref t])
      rw [lotOf_eq ht, List.length_map]
      exact e
  · refine ⟨o, zs, rfl, .inl ⟨SqL.of upd_same, fun p hp => ?_⟩⟩
    have sm3 : Same H2 (upd H2 o (.lst zs)) := same_new ho
    have sm4 : Same H1 (upd (upd H2 o (.lst zs)) p (.tup zs)) := (sm2.trans sm3).trans (same_new hp)
    have lz : ∀ x ∈ zs, ∃ t l, x = V.ref t ∧ H1 t = some (.tup (nL l)) := fun x hx => by
      obtain ⟨l, t, e1, e2⟩ := paired_left pr x (pm.mem_iff.mp hx)
      exact ⟨t, l, e1, e2⟩
    refine k p _ (zs.map (lotOf H1)) (sm.trans sm4) (sm.free ((sm2.trans sm3).free hp)) ⟨zs, SqT.of upd_same, ?_⟩ ?_ ?_
    · have all : ∀ l : List V, (∀ x ∈ l, ∃ t l, x = V.ref t ∧ H1 t = some (.tup (nL l))) → Paired (LotAt K (upd (upd H2 o (.lst zs)) p (.tup zs))) l (l.map (lotOf H1)) := by
        intro l
        induction l with
        | nil => intro _; exact .nil
        | cons x l ih =>
          intro h
          rw [List.map_cons]
          refine .cons ?_ (ih fun y hy => h y (List.mem_cons_of_mem _ hy))
          obtain ⟨t, q, rfl, e⟩ := h x List.mem_cons_self
          rw [lotOf_eq e]
          exact ⟨t, rfl, SqT.of (sm4 _ _ e)⟩
      exact all zs lz
    · have q := pm.map (lotOf H1)
      rw [paired_map_of (g := id) pr (fun x y ⟨t, e1, e2⟩ => by rw [e1, lotOf_eq e2]; rfl), List.map_id, hL] at q
      exact q
    · rw [List.pairwise_map]
      exact pw
theorem c_as_lots (D : FnAt K mg "as_lots" s_as_lots) (T : Bl mg) (c_bits_of : Cal P w K mg base 1 "bits_of" spBits []) (c_lot_rank : Cal P w K mg base 1 "lot_rank" (spRank K) []) : Cal P w K mg base 10 "as_lots" (spLots K) [] := by
  refine calOf D sc_as_lots (fun _ _ _ _ _ _ us hl => match us, hl with | [_, _], _ => rfl) (fun vs H Q E h => ?_) (fun f cdv A outer s H vs Q E hr h => ?_)
  · obtain ⟨a, n, ms, rfl, _⟩ := h
    rfl
  · obtain ⟨a, n, ms, rfl, hS, hl, hn, k⟩ := h
    have nd := sc_as_lots.nd
    obtain ⟨f_lot_rank, fd1, ps1, F_lot_rank, m_lot_rank, b_lot_rank⟩ := cal_parts c_lot_rank
    refine ⟨_, (pss_cons (ps_setLc (i := 2) (own := [("mask", 3)]) (g := gName 3) (tt := tYes) rfl nd rfl rfl (sw_true rfl rfl rfl (by decide +kernel)) (piList K (pv 0)) (blkOk_by (N := ["masks", "many", "lots", "mask"]) (sc := defScope s_as_lots) (own := [("mask", 3)]) (by decide +kernel)) (fun _ _ _ _ _ => (pg_name (i := 3) nd rfl (by first | exact Or.inl rfl | exact Or.inr rfl))) (fun _ _ _ _ _ => pts_nil) (fun _ _ _ _ _ => (pe_callTy (crTup K) (by rfl) T.b_tuple (by decide +kernel) (pa_cons (pe_c c_bits_of hr (by decide) rfl (pa_cons (pv 3) (pa_cons (pv 1) pa_nil))) pa_nil))))
      (pss_one (ps_ret (pe_callTy (crTup K) (by rfl) T.b_tuple (by decide +kernel) (pa_cons (pe_callBK (crSortLot K F_lot_rank b_lot_rank (hr.mono (by decide))) (by rfl) T.b_sorted (by decide +kernel) (pa_cons (pv 2) pa_nil) (pk_cons (pe_glob (v := .ref f_lot_rank) (by rfl) m_lot_rank (by rfl)) pk_nil)) pa_nil))))), ?_⟩
    refine ⟨_, rfl, a, rfl, ⟨_, hS⟩, fun D hD => lc_listT hS (sel := fun _ => true) (P := fun i y H => ∃ t, y = .ref t ∧ H t = some (.tup (nL (MK.bitsOf (ms.getD i 0) n))))
      ⟨fun i y H H' sm ⟨t, e1, e2⟩ => ⟨t, e1, sm _ _ e2 trivial⟩, fun i H' _ _ R r => r H' (Same.refl H'), fun i H' hi _ _ R r => ?_⟩ hD (lt_line (by rw [List.length_map]; omega)) (fun H1 ys sm hd hyl pr => ?_)⟩
    · refine ⟨_, rfl, _, rfl, ms.getD i 0, n, by rw [nL_getD hi]; rfl, by omega, fun q H2 sm2 hq e => ?_⟩
      exact ⟨q, _, rfl, .inl ⟨SqL.of e, fun t ht => r _ _ (sm2.trans (same_new ht)) ⟨t, rfl, upd_same⟩⟩⟩
    · rw [filter_yes] at pr
      refine ⟨_, rfl, ?_⟩
      refine lots_end sm hD hd (paired_mapR (fun i => MK.bitsOf (ms.getD i 0) n) (Paired.mapP pr fun y i h => h)) ?_ hl k
      rw [List.length_map]
      have q := congrArg (List.map fun m => MK.bitsOf m n) (map_range_get ms 0)
      rw [List.map_map] at q
      exact q
theorem c_llots (D : FnAt K mg "_law_lots" s_law_lots) (T : Bl mg) (c_law_lot_rank : Cal P w K mg base 1 "_law_lot_rank" (spRank K) []) : Cal P w K mg base 10 "_law_lots" (spLots K) [] := by
  refine calOf D sc_law_lots (fun _ _ _ _ _ _ us hl => match us, hl with | [_, _], _ => rfl) (fun vs H Q E h => ?_) (fun f cdv A outer s H vs Q E hr h => ?_)
  · obtain ⟨a, n, ms, rfl, _⟩ := h
    rfl
  · obtain ⟨a, n, ms, rfl, hS, hl, hn, k⟩ := h
    have nd := sc_law_lots.nd
    obtain ⟨f_law_lot_rank, fd1, ps1, F_law_lot_rank, m_law_lot_rank, b_law_lot_rank⟩ := cal_parts c_law_lot_rank
    refine ⟨_, (pss_cons (ps_setLc (i := 2) (own := [("mask", 4)]) (g := gName 4) (tt := tYes) rfl nd rfl rfl (sw_true rfl rfl rfl (by decide +kernel)) (piList K (pv 0)) (blkOk_by (N := ["masks", "many", "lots", "spot", "mask"]) (sc := defScope s_law_lots) (own := [("mask", 4)]) (by decide +kernel)) (fun _ _ _ _ _ => (pg_name (i := 4) nd rfl (by first | exact Or.inl rfl | exact Or.inr rfl))) (fun _ _ _ _ _ => pts_nil) (fun _ _ _ _ _ => (pe_callTy (crTup K) (by rfl) T.b_tuple (by decide +kernel) (pa_cons (pe_lc (own := [("spot", 3)]) (g := gName 3) rfl nd (pi_range1 (by rfl) T.b_range (pa_cons (pv 1) pa_nil)) (blkOk_by (own := [("spot", 3)]) (by kernel_rfl)) (fun _ _ _ _ _ => (pg_name (i := 3) nd rfl (by first | exact Or.inl rfl | exact Or.inr rfl))) (fun _ _ _ _ _ => (pts_one (pt_cmpR op_eq (pe_op op_andN (pe_op op_shrNN (pv 4) (pv 3)) pe_int) pe_int (nomark _)))) (fun _ _ _ _ _ => (pv 3))) pa_nil))))
      (pss_one (ps_ret (pe_callTy (crTup K) (by rfl) T.b_tuple (by decide +kernel) (pa_cons (pe_callBK (crSortLot K F_law_lot_rank b_law_lot_rank (hr.mono (by decide))) (by rfl) T.b_sorted (by decide +kernel) (pa_cons (pv 2) pa_nil) (pk_cons (pe_glob (v := .ref f_law_lot_rank) (by rfl) m_law_lot_rank (by rfl)) pk_nil)) pa_nil))))), ?_⟩
    refine ⟨_, rfl, a, rfl, ⟨_, hS⟩, fun D hD => lc_listT hS (sel := fun _ => true) (P := fun i y H => ∃ t, y = .ref t ∧ H t = some (.tup (nL (MK.bitsOf (ms.getD i 0) n))))
      ⟨fun i y H H' sm ⟨t, e1, e2⟩ => ⟨t, e1, sm _ _ e2 trivial⟩, fun i H' _ _ R r => r H' (Same.refl H'), fun i H' hi _ sm0 R r => ?_⟩ hD (lt_line (by rw [List.length_map]; omega)) (fun H1 ys sm hd hyl pr => ?_)⟩
    · -- the inner list
      refine ⟨_, rfl, n, rfl, by omega, by omega, ?_⟩
      rw [Int.toNat_natCast]
      refine fun B hB => lc_rangeT (lo := 0) (sel := fun j => (ms.getD i 0).testBit j) (P := fun j y _ => y = nV j) ⟨fun _ _ _ _ _ h => h, fun j H3 hj _ R r => ?_, fun j H3 hj _ _ R r => ?_⟩ hB (lt_line (by omega)) (fun H2 bs sm2 hb _ pb => ?_)
      · refine ⟨_, rfl, _, rfl, ms.getD i 0, j, nL_getD hi, by rw [Int.zero_add], _, 1, rfl, rfl, rfl, _, rfl, ?_⟩
        have e : decide (nV ((ms.getD i 0) >>> j &&& 1) = V.int 1) = (ms.getD i 0).testBit j := by
          rw [← shr_bit, Bool.eq_iff_iff, decide_eq_true_iff]
          have : (ms.getD i 0) >>> j &&& 1 = 0 ∨ (ms.getD i 0) >>> j &&& 1 = 1 := by
            rw [Nat.and_one_is_mod]
            omega
          rcases this with z | z <;> rw [z] <;> simp [nV]
        rw [e]
        exact r H3 (Same.refl H3)
      · exact ⟨_, rfl, r _ H3 (Same.refl H3) (by rw [Int.zero_add])⟩
      · rw [paired_map_eq pb] at hb
        exact ⟨B, _, rfl, .inl ⟨SqL.of hb, fun t ht => r _ _ (sm2.trans (same_new ht)) ⟨t, rfl, upd_same⟩⟩⟩
    · rw [filter_yes] at pr
      refine ⟨_, rfl, ?_⟩
      refine lots_end sm hD hd (paired_mapR (fun i => MK.bitsOf (ms.getD i 0) n) (Paired.mapP pr fun y i h => h)) ?_ hl k
      rw [List.length_map]
      have q := congrArg (List.map fun m => MK.bitsOf m n) (map_range_get ms 0)
      rw [List.map_map] at q
      exact q
def spSorted (K : PySem.W.Frag) : Sp := fun vs H Q _ => ∃ (a : Addr) (ms : List Nat), vs = [.ref a] ∧ SqL K H a (nL ms) ∧ ms.Nodup ∧ ms.Pairwise (fun x y => MK.pc x ≤ MK.pc y) ∧ ms.length ≤ 4000 ∧ ∀ H', Same H H' → Q (.bl true) H'
theorem c_is_sorted (D : FnAt K mg "_law_is_sorted" s_law_is_sorted) (T : Bl mg) (c_law_ones : Cal P w K mg base 1 "_law_ones" spOnes []) : Cal P w K mg base 2 "_law_is_sorted" (spSorted K) [] := by
  refine calOf D sc_law_is_sorted (fun _ _ _ _ _ _ us hl => match us, hl with | [_], _ => rfl) (fun vs H Q E h => ?_) (fun f cdv A outer s H vs Q E hr h => ?_)
  · obtain ⟨a, ms, rfl, _⟩ := h
    rfl
  · obtain ⟨a, ms, rfl, hS, hn, hp, hl, k⟩ := h
    have nd := sc_law_is_sorted.nd
    have hu := hr.units
    refine ⟨_, (pss_cons (ps_setLc (i := 1) (own := [("mask", 2)]) (g := gName 2) (tt := tYes) rfl nd rfl rfl (sw_true rfl rfl rfl (by decide +kernel)) (piList K (pv 0)) (blkOk_by (N := ["masks", "sizes", "mask"]) (sc := defScope s_law_is_sorted) (own := [("mask", 2)]) (by decide +kernel)) (fun _ _ _ _ _ => (pg_name (i := 2) nd rfl (by first | exact Or.inl rfl | exact Or.inr rfl))) (fun _ _ _ _ _ => pts_nil) (fun _ _ _ _ _ => (pe_c c_law_ones hr (by decide) rfl (pa_cons (pv 2) pa_nil))))
      (pss_one (ps_ret (pe_and (pe_cmpR (eqD K hu) (pv 1) (pe_callB (crSortI K) (by rfl) T.b_sorted (by decide +kernel) (pa_cons (pv 1) pa_nil)) (nomark _)) (pe_one (pe_cmpR op_eq (RZ.pe_lenSetI (by rfl) T.b_len (by rfl) T.b_set (pv 0)) (pe_callB (crLen K) (by rfl) T.b_len (by decide +kernel) (pa_cons (pv 0) pa_nil)) (nomark _))))))), ?_⟩
    refine ⟨_, rfl, a, rfl, ⟨_, hS⟩, fun D hD => lc_listT hS (sel := fun _ => true) (P := fun i y H => y = .int (MK.pc (ms.getD i 0) : Int)) ⟨fun _ _ _ _ _ h => h, fun i H' _ _ R r => r H' (Same.refl H'), fun i H' hi _ _ R r => ?_⟩ hD (lt_line (by rw [List.length_map]; omega)) (fun H1 ys sm hd hyl pr => ?_)⟩
    · exact ⟨_, rfl, ms.getD i 0, by rw [nL_getD hi]; rfl, r _ H' (Same.refl H') rfl⟩
    · rw [filter_yes, List.length_map] at pr
      have ey : ys = (ms.map fun m => (MK.pc m : Int)).map V.int := by
        rw [paired_map_eq pr, List.map_map]
        have q := congrArg (List.map fun m => V.int (MK.pc m : Int)) (map_range_get ms 0)
        rw [List.map_map] at q
        exact q
      subst ey
      have up : (ms.map fun m => (MK.pc m : Int)).Pairwise (· ≤ ·) := by
        rw [List.pairwise_map]
        exact hp.imp fun {x y} h => by omega
      refine ⟨_, rfl, _, rfl, D, _, rfl, SqL.of hd, fun ns' p pm pw hp1 => ?_⟩
      have sm2 := same_new (o := .lst (ns'.map V.int)) hp1
      refine eqd_ints (SqL.of (sm2 _ _ hd)) (SqL.of upd_same) ?_
      rw [rising_one pm.symm up pw, decide_eq_true rfl]
      refine ⟨true, rfl, iteT ?_⟩
      have hS2 : SqL K (upd H1 p (.lst (ns'.map V.int))) a ((iL ms).map V.int) := by
        rw [← nL_eq]
        exact (sm.trans sm2).seq hS
      refine ⟨_, rfl, a, iL ms, rfl, hS2, ?_, by rw [List.length_map]; exact hl, _, rfl, a, _, rfl, .inl hS2, rfl, ?_⟩
      · show (ms.map _).Pairwise _
        rw [List.pairwise_map]
        exact hn.imp fun {x y} h e => h (Int.ofNat_inj.mp e)
      · have e : decide (V.int ((iL ms).length : Int) = V.int (((iL ms).map V.int).length : Int)) = true := decide_eq_true (by simp only [List.length_map])
        show Q (.bl (decide (V.int ((iL ms).length : Int) = V.int (((iL ms).map V.int).length : Int)))) _
        rw [e]
        exact k _ (sm.trans sm2)
def spIsInt : Sp := fun vs H Q _ => ∃ n : Int, vs = [.int n] ∧ Q (.bl true) H
theorem c_is_int (D : FnAt K mg "_law_is_int" s_law_is_int) (T : Bl mg) : Cal P w K mg base 1 "_law_is_int" spIsInt [] := by
  refine calOf D sc_law_is_int (fun _ _ _ _ _ _ us hl => match us, hl with | [_], _ => rfl) (fun vs H Q E h => ?_) (fun f cdv A outer s H vs Q E hr h => ?_)
  · obtain ⟨n, rfl, _⟩ := h
    rfl
  · obtain ⟨n, rfl, k⟩ := h
    refine ⟨_, (pss_one (ps_ret (pe_and (pe_callB (crIsi K) (by rfl) T.b_isinstance (by decide +kernel) (pa_cons (pv 0) (pa_cons (pe_bltn (v := .ty "int") (u := .type "int") (by rfl) T.b_int (by decide +kernel) (by rfl)) pa_nil))) (pe_one (pe_not (pe_callB (crIsi K) (by rfl) T.b_isinstance (by decide +kernel) (pa_cons (pv 0) (pa_cons (pe_bltn (v := .ty "bool") (u := .type "bool") (by rfl) T.b_bool (by decide +kernel) (by rfl)) pa_nil)))))))), ?_⟩
    refine ⟨_, rfl, _, _, .type "int", .type "int", true, rfl, .ty "int", .base (.int n), kit_ty (by decide +kernel), true, rfl, iteT ?_⟩
    refine ⟨_, rfl, _, _, .type "int", .type "bool", false, rfl, .ty "bool", .base (.int n), kit_ty (by decide +kernel), false, rfl, ?_⟩
    exact k
end
end L2.KK
namespace L2.KK
open PySem PySem.Spec PyProof.Rows C8
theorem sc_blocker : FnScope ["masks", "many", "found", "mask", "grown", "known", "spot"] ["masks", "many"] (defScope s_blocker) := ⟨rfl, rfl, rfl, by decide +kernel, rfl, by decide +kernel, by decide +kernel⟩
section
variable {P : Program} {w : World} {K : PySem.W.Frag} {mg : Str → Option Value} {base : Heap}
def spBlk (K : PySem.W.Frag) : Sp := fun vs H Q _ => ∃ (a : Addr) (n U : Nat) (ms : List Nat), vs = [.ref a, nV n] ∧ SqL K H a (nL ms) ∧ n ≤ 40 ∧ (∀ m ∈ ms, MK.sub m U) ∧ U < 2 ^ n ∧ MK.pc U ≤ 15 ∧ ∀ G, MK.Least G (MK.Tr ms n) → NewL H Q (nL G)
theorem grow_take {m n : Nat} {g : List Nat} {j : Nat} (hj : j < g.length) : MK.grow m n (g.take (j + 1)) = MK.grow m n (g.take j) ++ MK.grow1 m n g[j] := by
  rw [List.take_add_one, List.getElem?_eq_getElem hj, MK.grow_append]
  show _ ++ (MK.grow1 m n g[j] ++ []) = _
  rw [List.append_nil]
theorem nL_append (a b : List Nat) : nL (a ++ b) = nL a ++ nL b := List.map_append
theorem c_blocker (D : FnAt K mg "blocker" s_blocker) (T : Bl mg) (c_bits_of : Cal P w K mg base 1 "bits_of" spBits []) (c_minimal_masks : Cal P w K mg base 2 "minimal_masks" (spMin K) []) : Cal P w K mg base 3 "blocker" (spBlk K) [] := by
  refine calOf D sc_blocker (fun _ _ _ _ _ _ us hl => match us, hl with | [_, _], _ => rfl) (fun vs H Q E h => ?_) (fun f cdv A outer s H vs Q E hr h => ?_)
  · obtain ⟨a, n, U, ms, rfl, _⟩ := h
    rfl
  · obtain ⟨a, n, U, ms, rfl, hS, hn, hU, hUn, hp, k⟩ := h
    have nd := sc_blocker.nd
    refine ⟨_, (pss_cons (ps_set (i := 2) nd rfl (by first | exact Or.inl rfl | exact Or.inr rfl) (pe_lst (pa_cons pe_int pa_nil)))
      (pss_cons (ps_for PassesOwn.never rfl (piList K (pv 0)) (pg_name (i := 3) nd rfl (by first | exact Or.inl rfl | exact Or.inr rfl))
        (pss_cons (ps_set (i := 4) nd rfl (by first | exact Or.inl rfl | exact Or.inr rfl) (pe_lst pa_nil))
        (pss_cons (ps_for PassesOwn.never rfl (piList K (pv 2)) (pg_name (i := 5) nd rfl (by first | exact Or.inl rfl | exact Or.inr rfl))
          (pss_one (ps_if (ptTru K (pe_op op_andN (pv 5) (pv 3)))
            (pss_one (ps_expr (pe_bm PySem.F.plainAttrs_list PySem.F.slot_list_append PySem.F.type_list_append mt_append (pv 4) (pa_cons (pv 5) pa_nil))))
            (pss_one (ps_expr (pe_bm PySem.F.plainAttrs_list PySem.F.slot_list_extend PySem.F.type_list_extend mt_extend (pv 4) (pa_cons (pe_lc (own := [("spot", 6)]) (g := gName 6) (tt := tYes) rfl nd (piList K (pe_c c_bits_of hr (by decide) (by rfl) (pa_cons (pv 3) (pa_cons (pv 1) pa_nil)))) (blkOk_by (N := ["masks", "many", "found", "mask", "grown", "known", "spot"]) (sc := defScope s_blocker) (own := [("spot", 6)]) (by decide +kernel)) (fun _ _ _ _ _ => (pg_name (i := 6) nd rfl (by first | exact Or.inl rfl | exact Or.inr rfl))) (fun _ _ _ _ _ => pts_nil) (fun _ _ _ _ _ => (pe_op op_orN (pv 5) (pe_op op_shlNN pe_int (pv 6))))) pa_nil)))))))
        (pss_one (ps_set (i := 2) nd rfl (by first | exact Or.inl rfl | exact Or.inr rfl) (pe_c c_minimal_masks hr (by decide) (by rfl) (pa_cons (pv 4) pa_nil)))))))
      (pss_one (ps_ret (pe_c c_minimal_masks hr (by decide) (by rfl) (pa_cons (pv 2) pa_nil)))))), ?_⟩
    have lim : ∀ (i : Nat) (g : List Nat), g.Nodup → (∀ x, x ∈ g ↔ MK.MinOf (MK.Tr (ms.take i) n) x) → g.length ≤ 32768 := fun i g h1 h2 => by
      have q := MK.within_len (U := U) h1 fun x hx => MK.min_within (fun m hm => hU m (List.mem_of_mem_take hm)) hUn ((h2 x).mp hx)
      have q2 : 2 ^ MK.pc U ≤ 2 ^ 15 := Nat.pow_le_pow_right (by decide) hp
      omega
    refine ⟨by show 1 ≤ sizeLine; decide, fun q0 hq0 => ?_⟩
    refine ⟨_, rfl, a, rfl, ⟨_, (same_new hq0).seq hS⟩, ?_⟩
    refine for_list (xs := nL ms) (fun i σ' H' => ∃ (q : Addr) (g : List Nat) (c3 c4 c5 : Option V), σ' = [some (.ref a), some (nV n), some (.ref q), c3, c4, c5, none] ∧ Same H H' ∧ H' q = some (.lst (nL g)) ∧ g.Nodup ∧ ∀ x, x ∈ g ↔ MK.MinOf (MK.Tr (ms.take i) n) x)
      ⟨q0, [0], none, none, none, rfl, same_new hq0, upd_same, List.pairwise_singleton _ _, fun x => MK.tr_nil n x⟩ (fun i σ' H' _ ⟨_, _, _, _, _, _, sm, _⟩ => sm.seq hS) (fun i x σ' H' hx hp' => ?_) (fun σ' H' hp' => ?_)
    · obtain ⟨q, g, c3, c4, c5, rfl, sm, hq, gn, gm⟩ := hp'
      obtain ⟨hi, _⟩ := List.getElem?_eq_some_iff.mp hx
      rw [List.length_map] at hi
      rw [nL_get hi] at hx
      cases hx
      have hlim := lim i g gn gm
      have emi : ms.take (i + 1) = ms.take i ++ [ms[i]] := by rw [List.take_add_one, List.getElem?_eq_getElem hi]; rfl
      rw [emi]
      generalize ms[i] = m
      -- grown = []
      refine ⟨Nat.zero_le _, fun r hr0 => ?_⟩
      have sm1 := same_new (o := .lst []) hr0
      refine ⟨_, rfl, q, rfl, ⟨_, SqL.of (sm1 _ _ hq)⟩, ?_⟩
      refine for_list (xs := nL g) (fun j σ2 H2 => ∃ c5, σ2 = [some (.ref a), some (nV n), some (.ref q), some (nV m), some (.ref r), c5, none] ∧ Same H' H2 ∧ H2 r = some (.lst (nL (MK.grow m n (g.take j)))))
        ⟨c5, rfl, sm1, upd_same⟩ (fun j σ2 H2 _ ⟨_, _, sm2, _⟩ => SqL.of (sm2 _ _ hq)) (fun j x σ2 H2 hx h2 => ?_) (fun σ2 H2 h2 => ?_)
      · obtain ⟨c5, rfl, sm2, e2⟩ := h2
        obtain ⟨hj, _⟩ := List.getElem?_eq_some_iff.mp hx
        rw [List.length_map] at hj
        rw [nL_get hj] at hx
        cases hx
        rw [grow_take hj]
        have bl : (MK.grow m n (g.take j)).length + (MK.grow1 m n g[j]).length ≤ 10000000 := by
          have q1 := MK.grow_len m n (g.take (j + 1))
          rw [grow_take hj, List.length_append] at q1
          have q2 : (g.take (j + 1)).length ≤ 32768 := by rw [List.length_take]; omega
          have q3 : (g.take (j + 1)).length * (n + 1) ≤ 32768 * 41 := Nat.mul_le_mul q2 (by omega)
          omega
        generalize MK.grow m n (g.take j) = gr at e2 bl ⊢
        generalize g[j] = kn at bl ⊢
        refine ⟨_, rfl, _, rfl, kn, m, rfl, rfl, _, rfl, ite2 (fun hk => ?_) (fun hk => ?_)⟩
        · have hk' : kn &&& m ≠ 0 := fun z => by rw [z] at hk; exact absurd hk (by decide)
          refine ⟨_, rfl, .inl ⟨rfl, _, SqL.of e2⟩, _, rfl, r, _, _, rfl, rfl, e2, ?_, ?_⟩
          · rw [List.length_map]
            exact Nat.lt_of_le_of_lt (show gr.length ≤ 10000000 by omega) (by rw [sizeLine_eq]; decide)
          · refine ⟨some (nV kn), rfl, same_fresh sm2 hr0, ?_⟩
            rw [upd_same, nL_append]
            unfold MK.grow1
            rw [if_pos hk']
            rfl
        · have hk' : ¬ kn &&& m ≠ 0 := fun z => hk (bne_iff_ne.mpr fun e => z (Int.ofNat_inj.mp e))
          refine ⟨_, rfl, .inl ⟨rfl, _, SqL.of e2⟩, ?_⟩
          -- the comprehension
          refine ⟨_, rfl, _, rfl, m, n, rfl, by omega, fun b H3 sm3 hb0 hb => ?_⟩
          refine ⟨b, rfl, ⟨_, SqL.of hb⟩, fun B hB => lc_listT (SqL.of hb) (sel := fun _ => true) (P := fun t y _ => y = nV (kn ||| 2 ^ (MK.bitsOf m n).getD t 0)) ⟨fun _ _ _ _ _ h => h, fun t H4 _ _ R r => r H4 (Same.refl H4), fun t H4 ht _ _ R r => ?_⟩ hB (lt_line (by rw [List.length_map]; have := bitsOf_len m n; omega)) (fun H4 bs sm4 hB4 _ pb => ?_)⟩
          · have eb := nL_getD ht
            have hlt : (MK.bitsOf m n).getD t 0 ≤ 1000 := by
              rw [List.length_map] at ht
              rw [List.getD_eq_getElem?_getD, List.getElem?_eq_getElem ht]
              have := (MK.mem_bitsOf.mp (List.getElem_mem ht)).1
              show (MK.bitsOf m n)[t] ≤ 1000
              omega
            refine ⟨_, rfl, _, rfl, 1, (MK.bitsOf m n).getD t 0, rfl, eb, ⟨by omega, by decide⟩, kn, _, rfl, rfl, r _ H4 (Same.refl H4) ?_⟩
            rw [Nat.one_mul]
          · rw [filter_yes, List.length_map] at pb
            have e3 : bs = nL (MK.grow1 m n kn) := by
              unfold MK.grow1
              rw [if_neg hk', paired_map_eq pb]
              have q := congrArg (List.map fun i => nV (kn ||| 2 ^ i)) (map_range_get (MK.bitsOf m n) 0)
              rw [List.map_map] at q
              show _ = ((MK.bitsOf m n).map _).map nV
              rw [List.map_map]
              exact q
            rw [e3] at hB4
            refine ⟨r, B, _, _, rfl, rfl, sm4 _ _ (sm3 _ _ e2), hB4, ?_, ?_⟩
            · rw [List.length_map, List.length_map]
              exact lt_line (by omega)
            · refine ⟨some (nV kn), rfl, same_fresh ((sm2.trans sm3).trans sm4) hr0, ?_⟩
              rw [upd_same, nL_append]
      · obtain ⟨c5, rfl, sm2, e2⟩ := h2
        have lg : (nL g).length = g.length := List.length_map _
        rw [lg, List.take_length] at e2
        refine ⟨_, rfl, r, MK.grow m n g, rfl, SqL.of e2, ?_, fun G hG p H3 sm3 hp0 e3 => ?_⟩
        · have q1 := MK.grow_len m n g
          have q3 : g.length * (n + 1) ≤ 32768 * 41 := Nat.mul_le_mul hlim (by omega)
          omega
        · exact ⟨p, G, some (nV m), some (.ref r), c5, rfl, (sm.trans sm2).trans sm3, e3, hG.nd, fun x => (hG.mem x).trans (MK.grow_min gm x)⟩
    · obtain ⟨q, g, c3, c4, c5, rfl, sm, hq, gn, gm⟩ := hp'
      have hlim := lim _ g gn gm
      have lg : (nL ms).length = ms.length := List.length_map _
      rw [lg, List.take_length] at gm
      refine ⟨_, rfl, q, g, rfl, SqL.of hq, by omega, fun G hG p H3 sm3 hp0 e3 => ?_⟩
      exact k G ⟨hG.nd, fun x => (hG.mem x).trans ((MK.MinOf.congr gm x).trans (MK.min_min x)), hG.up⟩ p H3 (sm.trans sm3) (sm.free hp0) e3
end
end L2.KK
namespace L2.KK
open PySem PySem.Spec PyProof.Rows C8
theorem sc_law_planted_ok : FnScope ["d", "left", "groups", "k", "spot", "masks", "group", "due", "longer", "mask", "more", "told"] ["d"] (defScope s_law_planted_ok) := ⟨rfl, rfl, rfl, by decide +kernel, rfl, by decide +kernel, by decide +kernel⟩
theorem iL_sum : ∀ l : List Nat, (iL l).sum = (l.sum : Int)
  | [] => rfl
  | a :: l => by
    show (((a : Nat) : Int) :: iL l).sum = _
    rw [List.sum_cons, iL_sum l, List.sum_cons, Int.natCast_add]
theorem iL_perm {a b : List Nat} (h : a.Perm b) : (iL a).Perm (iL b) := h.map _
/-- the same numbers, sorted: the lists are equal -/
theorem sorted_eq {a b : List Nat} {xs ys : List Int} (h : a.Perm b) (p1 : xs.Perm (iL a)) (w1 : xs.Pairwise (· ≤ ·)) (p2 : ys.Perm (iL b)) (w2 : ys.Pairwise (· ≤ ·)) : xs = ys :=
  rising_one (p1.trans ((iL_perm h).trans p2.symm)) w1 w2
/-- groups stand in the list at gp -/
def GrpAt (H : Hp) (no : List Addr) (y : V) (g : List Nat) : Prop := ∃ r, y = V.ref r ∧ H r = some (.lst (nL g)) ∧ r ∉ no
theorem grp_keep {H H' : Hp} {no : List Addr} (h : ∀ b o, H b = some o → b ∉ no → H' b = some o) {ys : List V} {gs : List (List Nat)} (p : Paired (GrpAt H no) ys gs) : Paired (GrpAt H' no) ys gs :=
  Paired.mapP p fun y g ⟨r, e1, e2, e3⟩ => ⟨r, e1, h _ _ e2 e3, e3⟩
structure Groups (gs : List (List Nat)) (rest : List Nat) : Prop where
  pm : (gs.flatten ++ rest).Perm (List.range 40)
  sz : ∀ g ∈ gs, 1 ≤ g.length ∧ g.length ≤ 3
theorem Groups.flat_len {gs : List (List Nat)} {rest : List Nat} (h : Groups gs rest) : gs.flatten.length ≤ 3 * gs.length := by
  have : ∀ gs : List (List Nat), (∀ g ∈ gs, 1 ≤ g.length ∧ g.length ≤ 3) → gs.flatten.length ≤ 3 * gs.length := by
    intro gs
    induction gs with
    | nil => intro _; exact Nat.le_refl 0
    | cons g gs ih =>
      intro h
      have h1 := ih fun x hx => h x (List.mem_cons_of_mem _ hx)
      have h2 := h g List.mem_cons_self
      rw [List.flatten_cons, List.length_append, List.length_cons]
      omega
  exact this gs h.sz
theorem Groups.nodup {gs : List (List Nat)} {rest : List Nat} (h : Groups gs rest) : gs.flatten.Nodup := by
  have q := h.pm.nodup_iff.mpr List.nodup_range
  exact (List.nodup_append.mp q).1
theorem Groups.lt {gs : List (List Nat)} {rest : List Nat} (h : Groups gs rest) {i : Nat} (hi : i ∈ gs.flatten) : i < 40 :=
  List.mem_range.mp (h.pm.mem_iff.mp (List.mem_append_left _ hi))
theorem Groups.lt2 {gs : List (List Nat)} {rest : List Nat} (h : Groups gs rest) {g : List Nat} (hg : g ∈ gs) {i : Nat} (hi : i ∈ g) : i < 40 := h.lt (List.mem_flatten.mpr ⟨g, hg, hi⟩)
theorem Groups.gnodup {gs : List (List Nat)} {rest : List Nat} (h : Groups gs rest) {g : List Nat} (hg : g ∈ gs) : g.Nodup := by
  have : ∀ gs : List (List Nat), gs.flatten.Nodup → g ∈ gs → g.Nodup := by
    intro gs
    induction gs with
    | nil => intro _ h; cases h
    | cons a gs ih =>
      intro h hg
      rw [List.flatten_cons] at h
      obtain ⟨h1, h2, _⟩ := List.nodup_append.mp h
      rcases List.mem_cons.mp hg with z | z
      · rw [z]; exact h1
      · exact ih h2 z
  exact this gs h.nodup hg
theorem Groups.due {rest : List Nat} : ∀ {gs : List (List Nat)}, Groups gs rest → ∀ i, i ≤ gs.length → MK.Due (gs.take i) i 40 (MK.dueOf (gs.take i)) ∧ (MK.dueOf (gs.take i)).length ≤ 3 ^ i := fun {gs} h i => by
  induction i with
  | zero =>
    intro _
    rw [List.take_zero]
    exact ⟨MK.due_nil 40, Nat.le_refl 1⟩
  | succ i ih =>
    intro hi
    obtain ⟨D, l⟩ := ih (by omega)
    have hlt : i < gs.length := by omega
    have hg : gs[i] ∈ gs := List.getElem_mem hlt
    have et : gs.take (i + 1) = gs.take i ++ [gs[i]] := by rw [List.take_add_one, List.getElem?_eq_getElem hlt]; rfl
    have ed : MK.dueOf (gs.take (i + 1)) = MK.due1 (MK.dueOf (gs.take i)) gs[i] := by
      rw [et]
      unfold MK.dueOf
      rw [List.foldl_append]
      rfl
    rw [ed, et]
    refine ⟨MK.due_step D (h.gnodup hg) (fun j hj hf => ?_) fun j hj => h.lt2 hg hj, ?_⟩
    · have nd := h.nodup
      have e : gs = gs.take i ++ gs[i] :: gs.drop (i + 1) := by
        rw [← List.drop_eq_getElem_cons hlt, List.take_append_drop]
      rw [e, List.flatten_append, List.flatten_cons] at nd
      obtain ⟨_, _, x⟩ := List.nodup_append.mp nd
      exact x j hf j (List.mem_append_left _ hj) rfl
    · have : ∀ (due g : List Nat), (MK.due1 due g).length = due.length * g.length := by
        intro due g
        induction due with
        | nil => simp [MK.due1]
        | cons a due ih =>
          show ((g.map _) ++ MK.due1 due g).length = _
          rw [List.length_append, List.length_map, ih, List.length_cons, Nat.succ_mul]
          omega
      rw [this, Nat.pow_succ]
      exact Nat.mul_le_mul l (h.sz _ hg).2
/-- one mask within which all stand -/
theorem cover {gs : List (List Nat)} {rest : List Nat} (h : Groups gs rest) : ∀ mr : List Nat, (∀ m ∈ mr, ∃ g ∈ gs, ∃ i, i < 40 ∧ m = MK.maskOf g ||| 2 ^ i) →
    ∃ U, (∀ m ∈ gs.map MK.maskOf ++ mr, MK.sub m U) ∧ U < 2 ^ 40 ∧ MK.pc U ≤ gs.flatten.length + mr.length
  | [], _ => by
    refine ⟨MK.maskOf gs.flatten, fun m hm => ?_, MK.maskOf_lt fun i hi => h.lt hi, by rw [List.length_nil, Nat.add_zero]; exact MK.maskOf_pc _⟩
    rw [List.append_nil] at hm
    obtain ⟨g, hg, rfl⟩ := List.mem_map.mp hm
    refine MK.sub_iff.mpr fun i hi => ?_
    rw [MK.maskOf_bit, decide_eq_true_eq] at hi ⊢
    exact List.mem_flatten.mpr ⟨g, hg, hi⟩
  | m :: mr, hm => by
    obtain ⟨U, h1, h2, h3⟩ := cover h mr fun x hx => hm x (List.mem_cons_of_mem _ hx)
    obtain ⟨g, hg, i, hi, rfl⟩ := hm m List.mem_cons_self
    have up := MK.sub_or_left U (2 ^ i)
    refine ⟨U ||| 2 ^ i, fun x hx => ?_, Nat.or_lt_two_pow h2 (Nat.pow_lt_pow_right (by decide) hi), ?_⟩
    · rcases List.mem_append.mp hx with z | z
      · exact MK.sub_trans (h1 x (List.mem_append_left _ z)) up
      · rcases List.mem_cons.mp z with z | z
        · rw [z]
          exact MK.or_sub (MK.sub_trans (h1 _ (List.mem_append_left _ (List.mem_map.mpr ⟨g, hg, rfl⟩))) up) (MK.sub_or_right U (2 ^ i))
        · exact MK.sub_trans (h1 x (List.mem_append_right _ z)) up
    · have := MK.pc_or_pow i U
      rw [List.length_cons]
      omega
theorem grp_at {H : Hp} {no : List Addr} {ys : List V} {gs : List (List Nat)} (p : Paired (GrpAt H no) ys gs) : ys.length = gs.length ∧ ∀ i, i < ys.length → ∃ r, ys.getD i .non = .ref r ∧ H r = some (.lst (nL (gs.getD i []))) ∧ r ∉ no := by
  induction p with
  | nil => exact ⟨rfl, fun i h => absurd h (Nat.not_lt_zero i)⟩
  | cons r t ih =>
    refine ⟨by rw [List.length_cons, List.length_cons, ih.1], fun i h => ?_⟩
    cases i with
    | zero => exact r
    | succ i =>
      rw [List.getD_cons_succ, List.getD_cons_succ]
      exact ih.2 i (Nat.lt_of_succ_lt_succ h)
theorem drNeL {H : Hp} {d c q : Addr} {l : List Nat} (D : Dr H d c) (h : H q = some (.lst (nL l))) : q ≠ d := by
  obtain ⟨ns, i, r, z, hd, _⟩ := D.ex
  rintro rfl
  rw [hd] at h
  injection h with e
  injection e with e
  cases l with
  | nil => cases e
  | cons x l => injection e with e _; cases e
theorem rg40 : rgV 0 40 = nL (List.range 40) := rfl
theorem nL_erase : ∀ (l : List Nat) (t : Nat), (nL l).eraseIdx t = nL (l.eraseIdx t)
  | [], _ => rfl
  | _ :: _, 0 => rfl
  | a :: l, t + 1 => congrArg (nV a :: ·) (nL_erase l t)
theorem due1_take {due g : List Nat} {j : Nat} (h : j < due.length) : MK.due1 (due.take (j + 1)) g = MK.due1 (due.take j) g ++ g.map fun i => due[j] ||| 2 ^ i := by
  unfold MK.due1
  rw [List.take_add_one, List.getElem?_eq_getElem h, List.flatMap_append]
  show _ ++ (_ ++ []) = _
  rw [List.append_nil]
theorem due1_len (due g : List Nat) : (MK.due1 due g).length = due.length * g.length := by
  induction due with
  | nil => rw [show MK.due1 [] g = [] from rfl, List.length_nil, Nat.zero_mul]
  | cons a due ih =>
    show ((g.map _) ++ MK.due1 due g).length = _
    rw [List.length_append, List.length_map, ih, List.length_cons, Nat.succ_mul]
    omega
section
variable {P : Program} {w : World} {K : PySem.W.Frag} {mg : Str → Option Value} {base : Heap}
def spPlant : Sp := fun vs H Q _ => ∃ (d c : Addr), vs = [.ref d] ∧ Dr H d c ∧ ∀ H', Dr H' d c → Kp d H H' → Q (.bl true) H'
theorem c_planted (D : FnAt K mg "_law_planted_ok" s_law_planted_ok) (T : Bl mg) (c_law_draw : Cal P w K mg base 1 "_law_draw" spDraw []) (c_law_pop : Cal P w K mg base 2 "_law_pop" spPop []) (c_law_pick : Cal P w K mg base 2 "_law_pick" spPick [])
    (c_law_shuffled : Cal P w K mg base 2 "_law_shuffled" (spShuf K) []) (c_blocker : Cal P w K mg base 3 "blocker" (spBlk K) []) (c_law_is_sorted : Cal P w K mg base 2 "_law_is_sorted" (spSorted K) []) : Cal P w K mg base 12 "_law_planted_ok" spPlant [] := by
  refine calOf D sc_law_planted_ok (fun _ _ _ _ _ _ us hl => match us, hl with | [_], _ => rfl) (fun vs H Q E h => ?_) (fun f cdv A outer s H vs Q E hr h => ?_)
  · obtain ⟨d, c, rfl, _⟩ := h
    rfl
  · obtain ⟨d, c, rfl, D, k⟩ := h
    have nd := sc_law_planted_ok.nd
    have hu := hr.units
    refine ⟨_, (pss_cons (ps_set (i := 1) nd rfl (by first | exact Or.inl rfl | exact Or.inr rfl) (pe_listRg rfl (by rfl) T.b_list (prg_1 (by rfl) T.b_range pe_int)))
      (pss_cons (ps_set (i := 2) nd rfl (by first | exact Or.inl rfl | exact Or.inr rfl) (pe_lst pa_nil))
      (pss_cons (ps_for PassesOwn.never rfl (pi_range1 (by rfl) T.b_range (pa_cons (pe_op op_addNN pe_int (pe_c c_law_draw hr (by decide) (by rfl) (pa_cons (pv 0) (pa_cons pe_int pa_nil)))) pa_nil)) (pg_name (i := 3) nd rfl (by first | exact Or.inl rfl | exact Or.inr rfl))
        (pss_one (ps_expr (pe_bm PySem.F.plainAttrs_list PySem.F.slot_list_append PySem.F.type_list_append mt_append (pv 2) (pa_cons (pe_callB (crSortI K) (by rfl) T.b_sorted (by decide +kernel) (pa_cons (pe_lc (own := [("spot", 4)]) (g := gName 4) (tt := tYes) rfl nd (pi_range1 (by rfl) T.b_range (pa_cons (pe_op op_addNN pe_int (pe_c c_law_draw hr (by decide) (by rfl) (pa_cons (pv 0) (pa_cons pe_int pa_nil)))) pa_nil)) (blkOk_by (N := ["d", "left", "groups", "k", "spot", "masks", "group", "due", "longer", "mask", "more", "told"]) (sc := defScope s_law_planted_ok) (own := [("spot", 4)]) (by decide +kernel)) (fun _ _ _ _ _ => (pg_name (i := 4) nd rfl (by first | exact Or.inl rfl | exact Or.inr rfl))) (fun _ _ _ _ _ => pts_nil) (fun _ _ _ _ _ => (pe_c c_law_pop hr (by decide) (by rfl) (pa_cons (pv 0) (pa_cons (pv 1) pa_nil))))) pa_nil)) pa_nil)))))
      (pss_cons (ps_set (i := 5) nd rfl (by first | exact Or.inl rfl | exact Or.inr rfl) (pe_lc (own := [("group", 6)]) (g := gName 6) (tt := tYes) rfl nd (piList K (pv 2)) (blkOk_by (N := ["d", "left", "groups", "k", "spot", "masks", "group", "due", "longer", "mask", "more", "told"]) (sc := defScope s_law_planted_ok) (own := [("group", 6)]) (by decide +kernel)) (fun _ _ _ _ _ => (pg_name (i := 6) nd rfl (by first | exact Or.inl rfl | exact Or.inr rfl))) (fun _ _ _ _ _ => pts_nil) (fun _ _ _ _ _ => (pe_callB (crSum K) (by rfl) T.b_sum (by decide +kernel) (pa_cons (pe_lc (own := [("spot", 4)]) (g := gName 4) (tt := tYes) rfl nd (piList K (pv 6)) (blkOk_by (own := [("spot", 4)]) (by kernel_rfl)) (fun _ _ _ _ _ => (pg_name (i := 4) nd rfl (by first | exact Or.inl rfl | exact Or.inr rfl))) (fun _ _ _ _ _ => pts_nil) (fun _ _ _ _ _ => (pe_op op_shlNN pe_int (pv 4)))) pa_nil)))))
      (pss_cons (ps_set (i := 7) nd rfl (by first | exact Or.inl rfl | exact Or.inr rfl) (pe_lst (pa_cons pe_int pa_nil)))
      (pss_cons (ps_for PassesOwn.never rfl (piList K (pv 2)) (pg_name (i := 6) nd rfl (by first | exact Or.inl rfl | exact Or.inr rfl))
        (pss_cons (ps_set (i := 8) nd rfl (by first | exact Or.inl rfl | exact Or.inr rfl) (pe_lst pa_nil))
        (pss_cons (ps_for PassesOwn.never rfl (piList K (pv 7)) (pg_name (i := 9) nd rfl (by first | exact Or.inl rfl | exact Or.inr rfl))
          (pss_one (ps_expr (pe_bm PySem.F.plainAttrs_list PySem.F.slot_list_extend PySem.F.type_list_extend mt_extend (pv 8) (pa_cons (pe_lc (own := [("spot", 4)]) (g := gName 4) (tt := tYes) rfl nd (piList K (pv 6)) (blkOk_by (N := ["d", "left", "groups", "k", "spot", "masks", "group", "due", "longer", "mask", "more", "told"]) (sc := defScope s_law_planted_ok) (own := [("spot", 4)]) (by decide +kernel)) (fun _ _ _ _ _ => (pg_name (i := 4) nd rfl (by first | exact Or.inl rfl | exact Or.inr rfl))) (fun _ _ _ _ _ => pts_nil) (fun _ _ _ _ _ => (pe_op op_orN (pv 9) (pe_op op_shlNN pe_int (pv 4))))) pa_nil)))))
        (pss_one (ps_set (i := 7) nd rfl (by first | exact Or.inl rfl | exact Or.inr rfl) (pv 8))))))
      (pss_cons (ps_setLc (i := 10) (own := [("k", 3)]) (g := gName 3) (tt := tYes) rfl nd rfl rfl (sw_true rfl rfl rfl (by decide +kernel)) (pi_range1 (by rfl) T.b_range (pa_cons pe_int pa_nil)) (blkOk_by (N := ["d", "left", "groups", "k", "spot", "masks", "group", "due", "longer", "mask", "more", "told"]) (sc := defScope s_law_planted_ok) (own := [("k", 3)]) (by decide +kernel)) (fun _ _ _ _ _ => (pg_name (i := 3) nd rfl (by first | exact Or.inl rfl | exact Or.inr rfl))) (fun _ _ _ _ _ => pts_nil) (fun _ _ _ _ _ => (pe_op op_orN (pe_c c_law_pick hr (by decide) (by rfl) (pa_cons (pv 0) (pa_cons (pv 5) pa_nil))) (pe_op op_shlNN pe_int (pe_c c_law_draw hr (by decide) (by rfl) (pa_cons (pv 0) (pa_cons pe_int pa_nil)))))))
      (pss_cons (ps_set (i := 11) nd rfl (by first | exact Or.inl rfl | exact Or.inr rfl) (pe_c c_blocker hr (by decide) (by rfl) (pa_cons (pe_c c_law_shuffled hr (by decide) (by rfl) (pa_cons (pv 0) (pa_cons (pe_op op_cat (pv 5) (pv 10)) pa_nil))) (pa_cons pe_int pa_nil))))
      (pss_cons (ps_if (PW.pt (pw_or (pt_not (pt_val (pe_c c_law_is_sorted hr (by decide) (by rfl) (pa_cons (pv 11) pa_nil)))) (pw_or1 (pt_cmpR (neD K hu) (pe_callB (crSortI K) (by rfl) T.b_sorted (by decide +kernel) (pa_cons (pv 11) pa_nil)) (pe_callB (crSortI K) (by rfl) T.b_sorted (by decide +kernel) (pa_cons (pv 7) pa_nil)) (nomark _)))))
        (pss_one (ps_ret pe_bl))
        pss_nil)
      (pss_one (ps_ret (pe_or (pe_cmpR op_gt (pe_callB (crLen K) (by rfl) T.b_len (by decide +kernel) (pa_cons (pv 7) pa_nil)) pe_int (nomark _)) (pe_one (pe_cmpR (eqD K hu) (pe_callB (crSortI K) (by rfl) T.b_sorted (by decide +kernel) (pa_cons (pe_c c_blocker hr (by decide) (by rfl) (pa_cons (pv 11) (pa_cons pe_int pa_nil))) pa_nil)) (pe_callB (crSortI K) (by rfl) T.b_sorted (by decide +kernel) (pa_cons (pv 5) pa_nil)) (nomark _))))))))))))))), ?_⟩
    -- left, groups
    refine ⟨40, rfl, RgOk.of_le (by decide) (by decide) (by decide) (by decide), fun lf hlf => ?_⟩
    obtain ⟨lfd, lfc⟩ := D.ne hlf
    refine ⟨Nat.zero_le _, fun gp hgp1 => ?_⟩
    have hgp : H gp = none := (same_new hlf).free hgp1
    have gplf : gp ≠ lf := fun z => by rw [z, upd_same] at hgp1; cases hgp1
    obtain ⟨gpd, gpc⟩ := D.ne hgp
    refine ⟨_, rfl, d, c, 4, rfl, (D.put lfd lfc).put gpd gpc, by decide, by decide, fun n1 H1 hn1 D2 kp1 => ?_⟩
    refine ⟨1, n1, rfl, rfl, _, rfl, by omega, by omega, ?_⟩
    rw [Int.toNat_natCast]
    refine for_range (lo := 0) (n := 1 + n1) (fun i σ' H' => ∃ (gs : List (List Nat)) (rest : List Nat) (ys : List V) (c3 : Option V), σ' = [some (.ref d), some (.ref lf), some (.ref gp), c3, none, none, none, none, none, none, none, none] ∧ Dr H' d c ∧ H' lf = some (.lst (nL rest)) ∧ H' gp = some (.lst ys) ∧
      Paired (GrpAt H' [d, c, lf, gp]) ys gs ∧ gs.length = i ∧ Groups gs rest ∧ Kp d H H') ⟨[], List.range 40, [], none, rfl, D2, kp1 lf _ (by rw [upd_ne gplf.symm]; exact upd_same) lfd, kp1 _ _ upd_same gpd, .nil, rfl, ⟨List.Perm.refl _, fun g h => nomatch h⟩, (((Kp.refl d H).new hlf).new hgp).trans kp1⟩ ?_ ?_
    · rintro i σ' H' hi ⟨gs, rest, ys, c3, rfl, D', e1, e2, pr, gl, G, kp⟩
      have fl := G.flat_len
      have rl := G.pm.length_eq
      rw [List.length_append, List.length_range] at rl
      refine ⟨_, rfl, .inl ⟨rfl, _, SqL.of e2⟩, _, rfl, d, c, 3, rfl, D', by decide, by decide, fun n2 H2 hn2 D2 kp2 => ⟨1, n2, rfl, rfl, _, rfl, by omega, by omega, ?_⟩⟩
      rw [Int.toNat_natCast]
      intro D0 hD0
      obtain ⟨D0d, D0c⟩ := D2.ne hD0
      have f1 := kp2 _ _ e1 lfd
      have f2 := kp2 _ _ e2 gpd
      have D0lf : lf ≠ D0 := ne_of_none f1 hD0
      have D0gp : gp ≠ D0 := ne_of_none f2 hD0
      refine lc_range (lo := 0) (n := 1 + n2) (fun j H3 => ∃ tk rest' : List Nat, (tk ++ rest').Perm rest ∧ tk.length = j ∧ H3 D0 = some (.lst (nL tk)) ∧ H3 lf = some (.lst (nL rest')) ∧ Dr H3 d c ∧ ∀ b o, H2 b = some o → b ≠ d → b ≠ lf → H3 b = some o)
        ⟨[], rest, List.Perm.refl _, rfl, upd_same, by rw [upd_ne D0lf]; exact f1, D2.put D0d D0c, fun b o e _ _ => by rw [upd_ne (ne_of_none e hD0)]; exact e⟩ ?_ ?_
      · rintro j H3 hj ⟨tk, rest', pm, tl, g1, g2, D3, kp3⟩
        have hl := pm.length_eq
        rw [List.length_append] at hl
        refine ⟨rfl, ?_⟩
        refine ⟨_, rfl, _, rfl, d, c, lf, nL rest', rfl, D3, g2, lfd, lfc, by rw [List.length_map]; omega, by rw [List.length_map]; omega, fun t v H4 hv D4 g4 kp4 => ?_⟩
        obtain ⟨ht, _⟩ := List.getElem?_eq_some_iff.mp hv
        rw [List.length_map] at ht
        rw [nL_get ht] at hv
        cases hv
        refine ⟨nL tk, kp4 _ _ g1 D0d D0lf.symm, Nat.lt_of_le_of_lt (show (nL tk).length ≤ 40 by rw [List.length_map]; omega) (by decide), tk ++ [rest'[t]], rest'.eraseIdx t, ?_, by rw [List.length_append, tl]; rfl, by rw [upd_same, nL_snoc], ?_, D4.put D0d D0c, fun b o e nb nl => ?_⟩
        · refine List.Perm.trans ?_ pm
          rw [List.append_assoc]
          exact List.Perm.append_left tk (erase_perm rest' t ht)
        · rw [upd_ne D0lf, g4, nL_erase]
        · rw [upd_ne (ne_of_none e hD0)]
          exact kp4 _ _ (kp3 _ _ e nb nl) nb nl
      · rintro H3 ⟨tk, rest', pm, tl, g1, g2, D3, kp3⟩
        refine ⟨D0, iL tk, rfl, by rw [← nL_eq]; exact SqL.of g1, fun ns' p pmn pw hp0 => ?_⟩
        obtain ⟨L, eL, pL⟩ := nats_perm (ys := ns'.map V.int) (ms := tk) (by rw [nL_eq]; exact pmn.map _)
        rw [eL]
        obtain ⟨pd, pc⟩ := D3.ne hp0
        have f3 := kp3 _ _ f2 gpd gplf
        have plf : lf ≠ p := ne_of_none g2 hp0
        have pgp : gp ≠ p := ne_of_none f3 hp0
        have hl := pm.length_eq
        rw [List.length_append] at hl
        have yl := (grp_at pr).1
        refine ⟨gp, ys, _, rfl, rfl, by rw [upd_ne pgp]; exact f3, Nat.lt_of_le_of_lt (show ys.length ≤ 40 by omega) (by decide), ?_⟩
        refine ⟨gs ++ [L], rest', ys ++ [.ref p], _, rfl, (D3.put pd pc).put gpd gpc, by rw [upd_ne gplf.symm, upd_ne plf]; exact g2, upd_same, paired_snoc (grp_keep (fun b o e hb => ?_) pr) ⟨p, rfl, by rw [upd_ne pgp.symm]; exact upd_same, fun h => ?_⟩, by rw [List.length_append, gl]; rfl, ⟨?_, fun g hg => ?_⟩, fun b o e nb => ?_⟩
        · have b1 : b ≠ d := fun z => hb (by rw [z]; simp)
          have b2 : b ≠ lf := fun z => hb (by rw [z]; simp)
          have b3 : b ≠ gp := fun z => hb (by rw [z]; simp)
          have q := kp3 _ _ (kp2 _ _ e b1) b1 b2
          rw [upd_ne b3, upd_ne (ne_of_none q hp0)]
          exact q
        · simp only [List.mem_cons, List.not_mem_nil, or_false] at h
          rcases h with z | z | z | z
          · exact pd z
          · exact pc z
          · exact plf z.symm
          · exact pgp z.symm
        · rw [List.flatten_append]
          show (gs.flatten ++ (L ++ []) ++ rest').Perm _
          rw [List.append_nil, List.append_assoc]
          exact (List.Perm.append_left _ ((pL.append_right _).trans pm)).trans G.pm
        · rcases List.mem_append.mp hg with z | z
          · exact G.sz g z
          · rw [List.mem_singleton.mp z, pL.length_eq]
            omega
        · have b2 : b ≠ lf := ne_of_none e hlf
          have b3 : b ≠ gp := ne_of_none e hgp
          have q := kp3 _ _ (kp2 _ _ (kp _ _ e nb) nb) nb b2
          rw [upd_ne b3, upd_ne (ne_of_none q hp0)]
          exact q
    · rintro σ' H' ⟨gs, rest, ys, c3, rfl, D', e1, e2, pr, gl, G, kp⟩
      obtain ⟨yl, ga⟩ := grp_at pr
      have fl := G.flat_len
      -- masks
      refine ⟨_, rfl, gp, rfl, ⟨_, SqL.of e2⟩, fun ma hma => lc_listT (SqL.of e2) (sel := fun _ => true) (P := fun i y _ => y = nV (MK.maskOf (gs.getD i []))) ⟨fun _ _ _ _ _ h => h, fun i H' _ _ R r => r H' (Same.refl H'), fun i H2 hi _ sm0 R r => ?_⟩ hma (lt_line (by omega)) (fun Hm ms0 smm hmm _ pm => ?_)⟩
      · obtain ⟨r0, ey, er, _⟩ := ga i hi
        have hgm : gs.getD i [] ∈ gs := by
          rw [List.getD_eq_getElem?_getD, List.getElem?_eq_getElem (show i < gs.length by omega)]
          exact List.getElem_mem _
        have gn := G.gnodup hgm
        have gz := (G.sz _ hgm).2
        have g40 : ∀ x ∈ gs.getD i [], x < 40 := fun x hx => G.lt2 hgm hx
        generalize gs.getD i [] = g at er r gn gz g40
        have er2 := sm0 _ _ er
        refine ⟨_, rfl, r0, ey, ⟨_, SqL.of er2⟩, fun B hB => lc_listT (SqL.of er2) (sel := fun _ => true) (P := fun t y _ => y = nV (2 ^ g.getD t 0)) ⟨fun _ _ _ _ _ h => h, fun t H' _ _ R r => r H' (Same.refl H'), fun t H3 ht _ _ R2 r2 => ?_⟩ hB (lt_line (by rw [List.length_map]; omega)) (fun H3 bs sm3 hb3 _ pb => ?_)⟩
        · have hlt : g.getD t 0 < 40 := by
            rw [List.length_map] at ht
            rw [List.getD_eq_getElem?_getD, List.getElem?_eq_getElem ht]
            exact g40 _ (List.getElem_mem ht)
          exact ⟨_, rfl, 1, g.getD t 0, rfl, nL_getD ht, ⟨by omega, by decide⟩, r2 _ H3 (Same.refl H3) (by show nV (1 * 2 ^ g.getD t 0) = _; rw [Nat.one_mul])⟩
        · rw [filter_yes, List.length_map] at pb
          have eb : bs = (iL (g.map (2 ^ ·))).map V.int := by
            rw [← nL_eq, paired_map_eq pb]
            have q := congrArg (List.map fun i => nV (2 ^ i)) (map_range_get g 0)
            rw [List.map_map] at q
            show _ = (g.map _).map nV
            rw [List.map_map]
            exact q
          rw [eb] at hb3
          refine ⟨B, _, rfl, SqL.of hb3, r _ H3 sm3 ?_⟩
          rw [iL_sum, MK.maskOf_sum gn]
      · rw [filter_yes, yl] at pm
        have em : ms0 = nL (gs.map MK.maskOf) := by
          rw [paired_map_eq pm]
          have q := congrArg (List.map fun g => nV (MK.maskOf g)) (map_range_get gs [])
          rw [List.map_map] at q
          show _ = (gs.map _).map nV
          rw [List.map_map]
          exact q
        subst em
        clear pm
        have e2m := smm _ _ e2
        -- due
        refine ⟨by show 1 ≤ sizeLine; decide, fun q0 hq0 => ?_⟩
        refine ⟨_, rfl, gp, rfl, ⟨_, SqL.of ((same_new hq0) _ _ e2m)⟩, ?_⟩
        refine for_list (xs := ys) (fun i σ' H3 => ∃ (q : Addr) (c6 c8 c9 : Option V), σ' = [some (.ref d), some (.ref lf), some (.ref gp), c3, none, some (.ref ma), c6, some (.ref q), c8, c9, none, none] ∧ Same Hm H3 ∧ H3 q = some (.lst (nL (MK.dueOf (gs.take i)))))
          ⟨q0, none, none, none, rfl, same_new hq0, upd_same⟩ (fun i σ' H3 _ ⟨_, _, _, _, _, sm, _⟩ => SqL.of (sm _ _ e2m)) (fun i x σ' H3 hx hp => ?_) (fun σ' H3 hp => ?_)
        · obtain ⟨q, c6, c8, c9, rfl, sm, hq⟩ := hp
          obtain ⟨hi, _⟩ := List.getElem?_eq_some_iff.mp hx
          obtain ⟨r0, ey, er, _⟩ := ga i hi
          have ex : x = .ref r0 := by
            rw [List.getD_eq_getElem?_getD, hx] at ey
            exact ey
          subst ex
          have hi2 : i < gs.length := by omega
          have eg : gs.getD i [] = gs[i] := by
            rw [List.getD_eq_getElem?_getD, List.getElem?_eq_getElem hi2]
            rfl
          have hgm : gs.getD i [] ∈ gs := by
            rw [eg]
            exact List.getElem_mem _
          have ed : MK.dueOf (gs.take (i + 1)) = MK.due1 (MK.dueOf (gs.take i)) (gs.getD i []) := by
            rw [eg, List.take_add_one, List.getElem?_eq_getElem hi2]
            unfold MK.dueOf
            rw [List.foldl_append]
            rfl
          have gz := (G.sz _ hgm).2
          have g40 : ∀ x ∈ gs.getD i [], x < 40 := fun x hx => G.lt2 hgm hx
          have dl := (G.due i (by omega)).2
          have dl2 : 3 ^ i ≤ 3 ^ 4 := Nat.pow_le_pow_right (by decide) (by omega)
          rw [ed]
          generalize gs.getD i [] = g at er gz g40
          generalize MK.dueOf (gs.take i) = du at hq dl
          have er2 := sm _ _ (smm _ _ er)
          refine ⟨Nat.zero_le _, fun lg hlg => ?_⟩
          have sm1 := same_new (o := .lst []) hlg
          refine ⟨_, rfl, q, rfl, ⟨_, SqL.of (sm1 _ _ hq)⟩, ?_⟩
          refine for_list (xs := nL du) (fun j σ2 H4 => ∃ c9 : Option V, σ2 = [some (.ref d), some (.ref lf), some (.ref gp), c3, none, some (.ref ma), some (.ref r0), some (.ref q), some (.ref lg), c9, none, none] ∧ Same H3 H4 ∧ H4 lg = some (.lst (nL (MK.due1 (du.take j) g))))
            ⟨c9, rfl, sm1, upd_same⟩ (fun j σ2 H4 _ ⟨_, _, sm2, _⟩ => SqL.of (sm2 _ _ hq)) (fun j x σ2 H4 hx h2 => ?_) (fun σ2 H4 h2 => ?_)
          · obtain ⟨c9, rfl, sm2, e4⟩ := h2
            obtain ⟨hj, _⟩ := List.getElem?_eq_some_iff.mp hx
            rw [List.length_map] at hj
            rw [nL_get hj] at hx
            cases hx
            rw [due1_take hj]
            have bl : (MK.due1 (du.take j) g).length ≤ 1000 := by
              rw [due1_len, List.length_take]
              exact Nat.le_trans (Nat.mul_le_mul (show min j du.length ≤ 81 by omega) gz) (by decide)
            generalize MK.due1 (du.take j) g = lo at e4 bl
            generalize du[j] = m
            have er4 := sm2 _ _ er2
            refine ⟨_, rfl, .inl ⟨rfl, _, SqL.of e4⟩, _, rfl, r0, rfl, ⟨_, SqL.of er4⟩, fun B hB => lc_listT (SqL.of er4) (sel := fun _ => true) (P := fun t y _ => y = nV (m ||| 2 ^ g.getD t 0)) ⟨fun _ _ _ _ _ h => h, fun t H' _ _ R r => r H' (Same.refl H'), fun t H5 ht _ _ R r => ?_⟩ hB (lt_line (by rw [List.length_map]; omega)) (fun H5 bs sm5 hB5 _ pb => ?_)⟩
            · have hlt : g.getD t 0 < 40 := by
                rw [List.length_map] at ht
                rw [List.getD_eq_getElem?_getD, List.getElem?_eq_getElem ht]
                exact g40 _ (List.getElem_mem ht)
              exact ⟨_, rfl, _, rfl, 1, g.getD t 0, rfl, nL_getD ht, ⟨by omega, by decide⟩, m, _, rfl, rfl, r _ H5 (Same.refl H5) (by rw [Nat.one_mul])⟩
            · rw [filter_yes, List.length_map] at pb
              have e3 : bs = nL (g.map fun i => m ||| 2 ^ i) := by
                rw [paired_map_eq pb]
                have q := congrArg (List.map fun i => nV (m ||| 2 ^ i)) (map_range_get g 0)
                rw [List.map_map] at q
                show _ = (g.map _).map nV
                rw [List.map_map]
                exact q
              rw [e3] at hB5
              refine ⟨lg, B, _, _, rfl, rfl, sm5 _ _ e4, hB5, lt_line (by rw [List.length_map, List.length_map, List.length_map]; omega), ?_⟩
              refine ⟨some (nV m), rfl, same_fresh (sm2.trans sm5) hlg, ?_⟩
              rw [upd_same, nL_append]
          · obtain ⟨c9, rfl, sm2, e4⟩ := h2
            rw [List.length_map, List.take_length] at e4
            exact ⟨_, rfl, lg, some (.ref r0), some (.ref lg), c9, rfl, sm.trans sm2, e4⟩
        · obtain ⟨q, c6, c8, c9, rfl, sm, hq⟩ := hp
          rw [yl, List.take_length] at hq
          have D3 := D'.keep (smm.trans sm)
          have em3 := sm _ _ hmm
          obtain ⟨mad, mac⟩ := D'.ne hma
          have kp0 : Kp d H H3 := kp.trans (Kp.of (smm.trans sm))
          have nqd : q ≠ d := drNeL D3 hq
          clear hmm e2m hma sm smm pr ga e2 e1
          -- more
          refine ⟨3, rfl, by decide, by decide, fun mo hmo => ?_⟩
          obtain ⟨mod, moc⟩ := D3.ne hmo
          refine lc_range (lo := 0) (n := 3) (fun j H4 => ∃ mr : List Nat, mr.length = j ∧ H4 mo = some (.lst (nL mr)) ∧ (∀ m ∈ mr, ∃ g ∈ gs, ∃ i, i < 40 ∧ m = MK.maskOf g ||| 2 ^ i) ∧ Dr H4 d c ∧ Kp d H3 H4)
            ⟨[], rfl, upd_same, fun m h => (nomatch h), D3.put mod moc, (Kp.refl d H3).new hmo⟩ ?_ ?_
          · rintro j H4 hj ⟨mr, ml, g1, g2, D4, kp4⟩
            refine ⟨rfl, ?_⟩
            refine ⟨_, rfl, _, rfl, d, c, ma, nL (gs.map MK.maskOf), rfl, D4, kp4 _ _ em3 mad, mad, mac, by rw [List.length_map, List.length_map]; omega, by rw [List.length_map, List.length_map]; omega, fun t v H5 hv D5 kp5 => ?_⟩
            obtain ⟨ht, _⟩ := List.getElem?_eq_some_iff.mp hv
            rw [List.length_map] at ht
            rw [nL_get ht] at hv
            cases hv
            have ht2 : t < gs.length := by rw [List.length_map] at ht; exact ht
            refine ⟨_, rfl, d, c, 40, rfl, D5, by decide, by decide, fun n H6 hn D6 kp6 => ⟨1, n, rfl, rfl, ⟨by omega, by decide⟩, _, _, rfl, rfl, ?_⟩⟩
            refine ⟨nL mr, kp6 _ _ (kp5 _ _ g1 mod) mod, Nat.lt_of_le_of_lt (show (nL mr).length ≤ 40 by rw [List.length_map]; omega) (by decide), mr ++ [(gs.map MK.maskOf)[t] ||| 2 ^ n], by rw [List.length_append, ml]; rfl, by rw [upd_same, nL_snoc, Nat.one_mul], fun m hm => ?_, D6.put mod moc, ((kp4.trans kp5).trans kp6).new hmo⟩
            rcases List.mem_append.mp hm with z | z
            · exact g2 m z
            · refine ⟨gs[t], List.getElem_mem ht2, n, by omega, ?_⟩
              rw [List.mem_singleton.mp z, List.getElem_map]
          · rintro H4 ⟨mr, ml, g1, g2, D4, kp4⟩
            obtain ⟨U, hU, hU40, hpc⟩ := cover G mr g2
            -- told
            refine ⟨_, rfl, _, rfl, _, rfl, ma, mo, _, _, rfl, rfl, kp4 _ _ em3 mad, g1, lt_line (by rw [List.length_map, List.length_map, List.length_map]; omega), fun ca hca => ?_⟩
            obtain ⟨cad, cac⟩ := D4.ne hca
            refine ⟨d, c, ca, _, rfl, D4.put cad cac, SqL.of upd_same, by rw [List.length_append, List.length_map, List.length_map, List.length_map]; omega, fun sp zs H5 pz h0 hz D5 kp5 => ?_⟩
            rw [← nL_append] at pz
            obtain ⟨L, rfl, pL⟩ := nats_perm pz
            refine ⟨sp, 40, U, L, rfl, SqL.of hz, by decide, fun m hm => hU m (pL.mem_iff.mp hm), hU40, by omega, fun G1 hG1 p H6 sm6 hp6 e6 => ?_⟩
            have more : ∀ m ∈ mr, ∃ k ∈ gs.map MK.maskOf, MK.sub k m := fun m hm => by
              obtain ⟨g, hg, i, _, e⟩ := g2 m hm
              exact ⟨MK.maskOf g, List.mem_map.mpr ⟨g, hg, rfl⟩, e ▸ MK.sub_or_left _ _⟩
            have hdue := G.due gs.length (Nat.le_refl _)
            rw [List.take_length] at hdue
            obtain ⟨hdue, ldue⟩ := hdue
            have up : ∀ x, x ∈ G1 ↔ MK.MinOf (MK.Tr (gs.map MK.maskOf) 40) x := fun x => (hG1.mem x).trans (MK.MinOf.congr (fun t => (MK.tr_perm (fun x => pL.mem_iff) t).trans (MK.tr_more more t)) x)
            have pG : G1.Perm (MK.dueOf gs) := (List.perm_ext_iff_of_nodup hG1.nd hdue.nd).mpr fun x => (up x).trans (hdue.mem x).symm
            have lG := pG.length_eq
            have dl2 : 3 ^ gs.length ≤ 3 ^ 4 := Nat.pow_le_pow_right (by decide) (by omega)
            have dl3 : (3 : Nat) ^ 4 = 81 := rfl
            refine ⟨_, rfl, p, G1, rfl, SqL.of e6, hG1.nd, hG1.up, by omega, fun H7 sm7 => ⟨true, rfl, ?_⟩⟩
            have e7 := sm7 _ _ e6
            have q7 : H7 q = some (.lst (nL (MK.dueOf gs))) := sm7 _ _ (sm6 _ _ (kp5 _ _ ((kp4.trans ((Kp.refl d H4).new hca)) _ _ hq nqd) nqd))
            refine iteF ?_
            refine ⟨_, rfl, p, iL G1, rfl, by rw [← nL_eq]; exact SqL.of e7, fun ns1 p1 pm1 pw1 hp1 => ?_⟩
            have sp1 := same_new (o := .lst (ns1.map V.int)) hp1
            refine ⟨_, rfl, q, iL (MK.dueOf gs), rfl, by rw [← nL_eq]; exact SqL.of (sp1 _ _ q7), fun ns2 p2 pm2 pw2 hp2 => ?_⟩
            have sp2 := same_new (o := .lst (ns2.map V.int)) hp2
            refine ned_ints (SqL.of (sp2 _ _ upd_same)) (SqL.of upd_same) ?_
            rw [decide_eq_true (sorted_eq pG pm1 pw1 pm2 pw2)]
            refine ⟨false, rfl, iteF ?_⟩
            -- the last row
            have smA := (sm6.trans sm7).trans (sp1.trans sp2)
            have q8 := sp2 _ _ (sp1 _ _ q7)
            have D8 : Dr (upd (upd H7 p1 (.lst (ns1.map V.int))) p2 (.lst (ns2.map V.int))) d c := D5.keep smA
            have kp8 := (((kp0.trans kp4).trans ((Kp.refl d H4).new hca)).trans kp5).trans (Kp.of smA)
            have m8 : ∀ {o}, H4 ma = some o → upd (upd H7 p1 (.lst (ns1.map V.int))) p2 (.lst (ns2.map V.int)) ma = some o := fun e => smA _ _ (kp5 _ _ (same_new hca _ _ e) mad)
            refine ⟨_, rfl, q, _, rfl, .inl (SqL.of q8), _, 27, rfl, rfl, _, rfl, ?_⟩
            refine ite2 (fun _ => ?_) (fun _ => ?_)
            · exact k _ D8 kp8
            · have hU2 : ∀ m ∈ G1, MK.sub m (MK.maskOf gs.flatten) := fun x hx => MK.min_within (fun m hm => by
                obtain ⟨g, hg, rfl⟩ := List.mem_map.mp hm
                refine MK.sub_iff.mpr fun i hi => ?_
                rw [MK.maskOf_bit, decide_eq_true_eq] at hi ⊢
                exact List.mem_flatten.mpr ⟨g, hg, hi⟩) (MK.maskOf_lt fun i hi => G.lt hi) ((up x).mp hx)
              have e8 := sp2 _ _ (sp1 _ _ e7)
              refine ⟨_, rfl, p, 40, _, G1, rfl, SqL.of e8, by decide, hU2, MK.maskOf_lt fun i hi => G.lt hi, Nat.le_trans (MK.maskOf_pc _) (by omega), fun G2 hG2 p9 H9 sm9 hp9 e9 => ?_⟩
              refine ⟨p9, iL G2, rfl, by rw [← nL_eq]; exact SqL.of e9, fun ns3 p3 pm3 pw3 hp3 => ?_⟩
              have sp3 := same_new (o := .lst (ns3.map V.int)) hp3
              have ma9 := sp3 _ _ (sm9 _ _ (m8 (kp4 _ _ em3 mad)))
              refine ⟨_, rfl, ma, iL (gs.map MK.maskOf), rfl, by rw [← nL_eq]; exact SqL.of ma9, fun ns4 p4 pm4 pw4 hp4 => ?_⟩
              have sp4 := same_new (o := .lst (ns4.map V.int)) hp4
              refine eqd_ints (SqL.of (sp4 _ _ upd_same)) (SqL.of upd_same) ?_
              have anti := MK.mask_anti G.nodup (fun g hg z => by
                have := (G.sz g hg).1
                rw [z] at this
                exact absurd this (by decide))
              have pG2 : G2.Perm (gs.map MK.maskOf) := (List.perm_ext_iff_of_nodup hG2.nd anti.1).mpr fun x =>
                (hG2.mem x).trans ((MK.tr_tr (fun m hm => by
                  obtain ⟨g, hg, rfl⟩ := List.mem_map.mp hm
                  exact MK.maskOf_lt fun i hi => G.lt2 hg hi) up x).trans (anti.2 x))
              rw [decide_eq_true (sorted_eq pG2 pm3 pw3 pm4 pw4)]
              exact k _ (D8.keep (sm9.trans (sp3.trans sp4))) (kp8.trans (Kp.of (sm9.trans (sp3.trans sp4))))
end
end L2.KK
namespace L2.KK
open PySem PySem.Spec PyProof.Rows C8
theorem sc_law : FnScope ["script", "d", "k", "many", "masks", "spot", "mask", "kept", "least", "due", "met"] ["script"] (defScope s_law) := ⟨rfl, rfl, rfl, by decide +kernel, rfl, by decide +kernel, by decide +kernel⟩
theorem LotsAt.grow {K : PySem.W.Frag} {H H' : Hp} {p : Addr} {Ls : List (List Nat)} (h : LotsAt K H p Ls) (e : Same H H') : LotsAt K H' p Ls := by
  obtain ⟨ys, h1, h2⟩ := h
  exact ⟨ys, same_seqT e h1, Paired.mapP h2 fun _ _ h => h.grow e⟩
theorem lots_same {As Bs : List (List Nat)} {L : List (List Nat)} (a : As.Perm L) (b : Bs.Perm L) (ua : As.Pairwise LotLe) (ub : Bs.Pairwise LotLe) : As = Bs := lots_one (a.trans b.symm) ua ub
/-- all masks below 2 ^ n stand within one -/
theorem within_top {n m : Nat} (h : m < 2 ^ n) : MK.sub m (MK.maskOf (List.range n)) := MK.sub_iff.mpr fun i hi => by
  rw [MK.maskOf_bit, decide_eq_true_eq, List.mem_range]
  exact MK.bit_of_lt h hi
theorem top_lt (n : Nat) : MK.maskOf (List.range n) < 2 ^ n := MK.maskOf_lt fun i hi => List.mem_range.mp hi
theorem top_pc (n : Nat) : MK.pc (MK.maskOf (List.range n)) ≤ n := by
  have := MK.maskOf_pc (List.range n)
  rw [List.length_range] at this
  exact this
theorem small_len {l : List Nat} {n : Nat} (hn : n ≤ 6) (h : l.Nodup) (k : ∀ x ∈ l, x < 2 ^ n) : l.length ≤ 64 := by
  have q := MK.within_len h fun x hx => within_top (k x hx)
  have q2 : 2 ^ MK.pc (MK.maskOf (List.range n)) ≤ 2 ^ 6 := Nat.pow_le_pow_right (by decide) (Nat.le_trans (top_pc n) hn)
  omega
/-- whole numbers that are the members of a list of such, as such -/
theorem nats_of {ns : List Int} {ms : List Nat} (h : ∀ k : Int, k ∈ ns ↔ k ∈ iL ms) : ∃ L : List Nat, ns.map V.int = nL L ∧ (∀ x, x ∈ L ↔ x ∈ ms) ∧ L.length = ns.length := by
  have nn : ∀ k ∈ ns, ((k.toNat : Nat) : Int) = k := fun k hk => by
    obtain ⟨m, _, e⟩ := List.mem_map.mp ((h k).mp hk)
    rw [← e, Int.toNat_natCast]
  refine ⟨ns.map Int.toNat, ?_, fun x => ?_, List.length_map _⟩
  · show _ = (ns.map _).map nV
    rw [List.map_map]
    refine List.map_congr_left fun k hk => ?_
    show V.int k = V.int ((k.toNat : Nat) : Int)
    rw [nn k hk]
  · rw [List.mem_map]
    constructor
    · rintro ⟨k, hk, rfl⟩
      obtain ⟨m, hm, e⟩ := List.mem_map.mp ((h k).mp hk)
      rw [← e, Int.toNat_natCast]
      exact hm
    · intro hx
      exact ⟨(x : Int), (h _).mpr (List.mem_map.mpr ⟨x, hx, rfl⟩), Int.toNat_natCast x⟩
section
variable {P : Program} {w : World} {K : PySem.W.Frag} {mg : Str → Option Value} {base : Heap}
def spLaw (K : PySem.W.Frag) : Sp := fun vs H Q _ => ∃ (a : Addr) (ns : List Int), vs = [.ref a] ∧ SqL K H a (ns.map V.int) ∧ ns.length ≤ 63 ∧ ∀ H', Q (.bl true) H'
theorem ok_law {f : Addr} {fd : FuncData} (F : FnP K "law" "law" s_law f fd) (T : Bl mg) (c_law_begin : Cal P w K mg base 1 "_law_begin" (spBegin K) []) (c_law_draw : Cal P w K mg base 1 "_law_draw" spDraw []) (c_law_pick : Cal P w K mg base 2 "_law_pick" spPick []) (c_law_rare : Cal P w K mg base 2 "_law_rare" spRare [])
    (c_law_is_int : Cal P w K mg base 1 "_law_is_int" spIsInt []) (c_minimal_masks : Cal P w K mg base 2 "minimal_masks" (spMin K) []) (c_law_least_masks : Cal P w K mg base 10 "_law_least_masks" (spMin K) []) (c_law_due_blocker : Cal P w K mg base 11 "_law_due_blocker" (spDue K) [])
    (c_as_lots : Cal P w K mg base 10 "as_lots" (spLots K) []) (c_law_lots : Cal P w K mg base 10 "_law_lots" (spLots K) [])
    (c_law_planted_ok : Cal P w K mg base 12 "_law_planted_ok" spPlant []) (c_blocker : Cal P w K mg base 3 "blocker" (spBlk K) []) (c_law_is_sorted : Cal P w K mg base 2 "_law_is_sorted" (spSorted K) []) : FnOk P w K mg base CX0 13 f fd ["script"] (spLaw K) := by
  refine okOf F sc_law (fun vs H Q E h => ?_) (fun f cdv A outer s H vs Q E hr h => ?_)
  · obtain ⟨a, ns, rfl, _⟩ := h
    rfl
  · obtain ⟨a, ns, rfl, hS, hl, k⟩ := h
    have nd := sc_law.nd
    have hu := hr.units
    refine ⟨_, (pss_cons (ps_set (i := 1) nd rfl (by first | exact Or.inl rfl | exact Or.inr rfl) (pe_c c_law_begin hr (by decide) (by rfl) (pa_cons (pv 0) pa_nil)))
      (pss_cut (ps_if (PW.pt (pw_and (pt_val (pe_c c_law_rare hr (by decide) (by rfl) (pa_cons (pv 1) (pa_cons pe_int pa_nil)))) (pw_and1 (pt_not (pt_val (pe_c c_law_planted_ok hr (by decide) (by rfl) (pa_cons (pv 1) pa_nil)))))))
        (pss_one (ps_ret pe_bl))
        pss_nil)
      (pss_cons (ps_for PassesOwn.never rfl (pi_range1 (by rfl) T.b_range (pa_cons pe_int pa_nil)) (pg_name (i := 2) nd rfl (by first | exact Or.inl rfl | exact Or.inr rfl))
        (pss_cons (ps_set (i := 3) nd rfl (by first | exact Or.inl rfl | exact Or.inr rfl) (pe_op op_addNN pe_int (pe_c c_law_draw hr (by decide) (by rfl) (pa_cons (pv 1) (pa_cons pe_int pa_nil)))))
        (pss_cons (ps_set (i := 4) nd rfl (by first | exact Or.inl rfl | exact Or.inr rfl) (pe_lst pa_nil))
        (pss_cons (ps_for PassesOwn.never rfl (pi_range1 (by rfl) T.b_range (pa_cons (pe_c c_law_draw hr (by decide) (by rfl) (pa_cons (pv 1) (pa_cons pe_int pa_nil))) pa_nil)) (pg_name (i := 5) nd rfl (by first | exact Or.inl rfl | exact Or.inr rfl))
          (pss_cons (ps_set (i := 6) nd rfl (by first | exact Or.inl rfl | exact Or.inr rfl) (pe_c c_law_draw hr (by decide) (by rfl) (pa_cons (pv 1) (pa_cons (pe_op op_shlNN pe_int (pv 3)) pa_nil))))
          (pss_cut (ps_if (PW.pt (pw_and (pt_cmpR op_eq (pv 6) pe_int (nomark _)) (pw_and1 (pt_cmpR op_gt (pe_c c_law_draw hr (by decide) (by rfl) (pa_cons (pv 1) (pa_cons pe_int pa_nil))) pe_int (nomark _)))))
            (pss_one (ps_set (i := 6) nd rfl (by first | exact Or.inl rfl | exact Or.inr rfl) pe_int))
            pss_nil)
          (pss_one (ps_expr (pe_bm PySem.F.plainAttrs_list PySem.F.slot_list_append PySem.F.type_list_append mt_append (pv 4) (pa_cons (pv 6) pa_nil)))))))
        (pss_cut (ps_if (PW.pt (pw_and (pt_cmpR op_gt (pe_callB (crLen K) (by rfl) T.b_len (by decide +kernel) (pa_cons (pv 4) pa_nil)) pe_int (nomark _)) (pw_and1 (pt_cmpR op_eq (pe_c c_law_draw hr (by decide) (by rfl) (pa_cons (pv 1) (pa_cons pe_int pa_nil))) pe_int (nomark _)))))
          (pss_one (ps_expr (pe_bm PySem.F.plainAttrs_list PySem.F.slot_list_append PySem.F.type_list_append mt_append (pv 4) (pa_cons (pe_op op_orN (pe_c c_law_pick hr (by decide) (by rfl) (pa_cons (pv 1) (pa_cons (pv 4) pa_nil))) (pe_c c_law_draw hr (by decide) (by rfl) (pa_cons (pv 1) (pa_cons (pe_op op_shlNN pe_int (pv 3)) pa_nil)))) pa_nil))))
          pss_nil)
        (pss_cons (ps_set (i := 7) nd rfl (by first | exact Or.inl rfl | exact Or.inr rfl) (pe_callTy (crList K) (by rfl) T.b_list (by decide +kernel) (pa_cons (pv 4) pa_nil)))
        (pss_cons (ps_set (i := 8) nd rfl (by first | exact Or.inl rfl | exact Or.inr rfl) (pe_c c_minimal_masks hr (by decide) (by rfl) (pa_cons (pv 4) pa_nil)))
        (pss_cons (ps_if (PW.pt (pw_or (pt_cmpR (neD K hu) (pv 4) (pv 7) (nomark _)) (pw_or (pt_not (pt_val (pe_callB (crIsi K) (by rfl) T.b_isinstance (by decide +kernel) (pa_cons (pv 8) (pa_cons (pe_bltn (v := .ty "list") (u := .type "list") (by rfl) T.b_list (by decide +kernel) (by rfl)) pa_nil))))) (pw_or1 (pt_not (pt_val (pe_callB (crAll K) (by rfl) T.b_all (by decide +kernel) (pa_cons (pe_lc (own := [("mask", 6)]) (g := gName 6) (tt := tYes) rfl nd (piList K (pv 8)) (blkOk_by (N := ["script", "d", "k", "many", "masks", "spot", "mask", "kept", "least", "due", "met"]) (sc := defScope s_law) (own := [("mask", 6)]) (by decide +kernel)) (fun _ _ _ _ _ => (pg_name (i := 6) nd rfl (by first | exact Or.inl rfl | exact Or.inr rfl))) (fun _ _ _ _ _ => pts_nil) (fun _ _ _ _ _ => (pe_c c_law_is_int hr (by decide) (by rfl) (pa_cons (pv 6) pa_nil)))) pa_nil))))))))
          (pss_one (ps_ret pe_bl))
          pss_nil)
        (pss_cons (ps_set (i := 9) nd rfl (by first | exact Or.inl rfl | exact Or.inr rfl) (pe_c c_law_least_masks hr (by decide) (by rfl) (pa_cons (pe_callB (cr_sortedSet rfl) (by rfl) T.b_sorted (by decide +kernel) (pa_cons (pe_callTy (crSetL K) (by rfl) T.b_set (by decide +kernel) (pa_cons (pv 4) pa_nil)) pa_nil)) pa_nil)))
        (pss_cons (ps_if (PW.pt (pw_or (pt_not (pt_val (pe_c c_law_is_sorted hr (by decide) (by rfl) (pa_cons (pv 8) pa_nil)))) (pw_or1 (pt_cmpR (neD K hu) (pe_callB (crSortI K) (by rfl) T.b_sorted (by decide +kernel) (pa_cons (pv 8) pa_nil)) (pe_callB (crSortI K) (by rfl) T.b_sorted (by decide +kernel) (pa_cons (pv 9) pa_nil)) (nomark _)))))
          (pss_one (ps_ret pe_bl))
          pss_nil)
        (pss_cons (ps_set (i := 10) nd rfl (by first | exact Or.inl rfl | exact Or.inr rfl) (pe_c c_blocker hr (by decide) (by rfl) (pa_cons (pv 4) (pa_cons (pv 3) pa_nil))))
        (pss_cons (ps_if (PW.pt (pw_or (pt_not (pt_val (pe_c c_law_is_sorted hr (by decide) (by rfl) (pa_cons (pv 10) pa_nil)))) (pw_or1 (pt_cmpR (neD K hu) (pe_callB (crSortI K) (by rfl) T.b_sorted (by decide +kernel) (pa_cons (pv 10) pa_nil)) (pe_callB (crSortI K) (by rfl) T.b_sorted (by decide +kernel) (pa_cons (pe_c c_law_due_blocker hr (by decide) (by rfl) (pa_cons (pv 4) (pa_cons (pv 3) pa_nil))) pa_nil)) (nomark _)))))
          (pss_one (ps_ret pe_bl))
          pss_nil)
        (pss_cons (ps_if (pt_cmpR (neD K hu) (pe_callB (crSortI K) (by rfl) T.b_sorted (by decide +kernel) (pa_cons (pe_c c_blocker hr (by decide) (by rfl) (pa_cons (pv 10) (pa_cons (pv 3) pa_nil))) pa_nil)) (pe_callB (crSortI K) (by rfl) T.b_sorted (by decide +kernel) (pa_cons (pv 9) pa_nil)) (nomark _))
          (pss_one (ps_ret pe_bl))
          pss_nil)
        (pss_one (ps_if (PW.pt (pw_or (pt_cmpR (neD K hu) (pe_c c_as_lots hr (by decide) (by rfl) (pa_cons (pv 10) (pa_cons (pv 3) pa_nil))) (pe_c c_law_lots hr (by decide) (by rfl) (pa_cons (pv 10) (pa_cons (pv 3) pa_nil))) (nomark _)) (pw_or1 (pt_cmpR (neD K hu) (pe_c c_as_lots hr (by decide) (by rfl) (pa_cons (pv 4) (pa_cons (pv 3) pa_nil))) (pe_c c_law_lots hr (by decide) (by rfl) (pa_cons (pv 4) (pa_cons (pv 3) pa_nil))) (nomark _)))))
          (pss_one (ps_ret pe_bl))
          pss_nil)))))))))))))))
      (pss_one (ps_ret pe_bl))))), ?_⟩
    refine ⟨_, rfl, a, ns, rfl, hS, hl, fun d c H1 sm1 hd0 hc0 D1 => ?_⟩
    refine ⟨fun σ' H' => σ' = [some (.ref a), some (.ref d), none, none, none, none, none, none, none, none, none] ∧ Dr H' d c, ?_, ?_⟩
    · refine ⟨_, rfl, d, c, 9, rfl, D1, by decide, by decide, fun b H2 D2 _ => ⟨b, rfl, ite2 (fun _ => ?_) (fun _ => iteF ⟨rfl, D2⟩)⟩⟩
      exact ⟨_, rfl, d, c, rfl, D2, fun H3 D3 _ => ⟨true, rfl, iteF ⟨rfl, D3⟩⟩⟩
    rintro σ' H' ⟨rfl, D2⟩
    clear D1 hd0 hc0 sm1 hS hl
    refine ⟨2, rfl, by decide, by decide, ?_⟩
    refine for_range (lo := 0) (n := 2) (fun i σ' H' => ∃ c2 c3 c4 c5 c6 c7 c8 c9 c10 : Option V, σ' = [some (.ref a), some (.ref d), c2, c3, c4, c5, c6, c7, c8, c9, c10] ∧ Dr H' d c) ⟨_, _, _, _, _, _, _, _, _, rfl, D2⟩ ?_ (fun σ' H' _ => k H')
    rintro i σ' H' hi ⟨c2, c3, c4, c5, c6, c7, c8, c9, c10, rfl, D2⟩
    refine ⟨_, rfl, d, c, 6, rfl, D2, by decide, by decide, fun n0 H1 hn0 D3 _ => ⟨1, n0, rfl, rfl, ?_⟩⟩
    have p6 : 2 ^ (1 + n0) ≤ 2 ^ 6 := Nat.pow_le_pow_right (by decide) (by omega)
    have p1 : 2 ^ 1 ≤ 2 ^ (1 + n0) := Nat.pow_le_pow_right (by decide) (by omega)
    -- masks
    refine ⟨Nat.zero_le _, fun ma hma => ?_⟩
    obtain ⟨mad, mac⟩ := D3.ne hma
    refine ⟨_, rfl, d, c, 7, rfl, D3.put mad mac, by decide, by decide, fun n1 H2 hn1 D4 kp4 => ⟨_, rfl, by omega, by omega, ?_⟩⟩
    rw [Int.toNat_natCast]
    refine for_range (lo := 0) (n := n1) (fun j σ' H' => ∃ (ms : List Nat) (c5 c6 : Option V), σ' = [some (.ref a), some (.ref d), some (.int (0 + (i : Int))), some (nV (1 + n0)), some (.ref ma), c5, c6, c7, c8, c9, c10] ∧ H' ma = some (.lst (nL ms)) ∧ ms.length = j ∧ (∀ m ∈ ms, m < 2 ^ (1 + n0)) ∧ Dr H' d c)
      ⟨[], c5, c6, rfl, kp4 _ _ upd_same mad, rfl, fun m h => (nomatch h), D4⟩ ?_ ?_
    · rintro j σ' H3 hj ⟨ms, c5, c6, rfl, e1, ml, lt, D5⟩
      refine ⟨_, rfl, _, rfl, 1, 1 + n0, rfl, rfl, ⟨by omega, by decide⟩, d, c, _, rfl, D5, by omega, by omega, fun mk H4 hmk D6 kp6 => ?_⟩
      have e2 := kp6 _ _ e1 mad
      refine ⟨fun σ' H' => ∃ m : Nat, m < 2 ^ (1 + n0) ∧ σ' = [some (.ref a), some (.ref d), some (.int (0 + (i : Int))), some (nV (1 + n0)), some (.ref ma), some (.int (0 + (j : Int))), some (nV m), c7, c8, c9, c10] ∧ H' ma = some (.lst (nL ms)) ∧ Dr H' d c, ?_, ?_⟩
      · refine ⟨_, rfl, rfl, _, rfl, ite2 (fun _ => ?_) (fun _ => iteF ⟨mk, by omega, rfl, e2, D6⟩)⟩
        refine ⟨_, rfl, d, c, 4, rfl, D6, by decide, by decide, fun n4 H5 _ D7 kp7 => ⟨n4, 0, rfl, rfl, _, rfl, ite2 (fun _ => ⟨1, by omega, rfl, kp7 _ _ e2 mad, D7⟩) (fun _ => ⟨mk, by omega, rfl, kp7 _ _ e2 mad, D7⟩)⟩⟩
      · rintro σ' H5 ⟨m, hm, rfl, e3, D7⟩
        refine ⟨_, rfl, .inl ⟨rfl, _, SqL.of e3⟩, _, rfl, ma, _, _, rfl, rfl, e3, Nat.lt_of_le_of_lt (show (nL ms).length ≤ 40 by rw [List.length_map]; omega) (by decide), ?_⟩
        refine ⟨ms ++ [m], _, _, rfl, by rw [upd_same, nL_snoc], by rw [List.length_append, ml]; rfl, fun x hx => ?_, D7.put mad mac⟩
        rcases List.mem_append.mp hx with z | z
        · exact lt x z
        · rw [List.mem_singleton.mp z]; exact hm
    · rintro σ' H3 ⟨ms0, c5, c6, rfl, e0, ml0, lt0, D5⟩
      refine ⟨fun σ' H' => ∃ ms : List Nat, σ' = [some (.ref a), some (.ref d), some (.int (0 + (i : Int))), some (nV (1 + n0)), some (.ref ma), c5, c6, c7, c8, c9, c10] ∧ H' ma = some (.lst (nL ms)) ∧ ms.length ≤ 7 ∧ (∀ m ∈ ms, m < 2 ^ (1 + n0)) ∧ Dr H' d c, ?_, ?_⟩
      · refine ⟨_, rfl, ma, _, rfl, .inl (SqL.of e0), _, 0, rfl, rfl, _, rfl, ite2 (fun h0 => ?_) (fun _ => iteF ⟨ms0, rfl, e0, by omega, lt0, D5⟩)⟩
        have h0' := of_decide_eq_true h0
        rw [List.length_map] at h0'
        refine ⟨_, rfl, d, c, 3, rfl, D5, by decide, by decide, fun n4 H5 _ D7 kp7 => ⟨rfl, _, rfl, ite2 (fun _ => ?_) (fun _ => ⟨ms0, rfl, kp7 _ _ e0 mad, by omega, lt0, D7⟩)⟩⟩
        have e5 := kp7 _ _ e0 mad
        refine ⟨_, rfl, .inl ⟨rfl, _, SqL.of e5⟩, _, rfl, _, rfl, d, c, ma, nL ms0, rfl, D7, e5, mad, mac, by rw [List.length_map]; omega, by rw [List.length_map]; omega, fun t v H6 hv D8 kp8 => ?_⟩
        obtain ⟨ht, _⟩ := List.getElem?_eq_some_iff.mp hv
        rw [List.length_map] at ht
        rw [nL_get ht] at hv
        cases hv
        have hm0 := lt0 _ (List.getElem_mem ht)
        refine ⟨_, rfl, _, rfl, 1, 1 + n0, rfl, rfl, ⟨by omega, by decide⟩, d, c, _, rfl, D8, by omega, by omega, fun mk H7 hmk D9 kp9 => ⟨ms0[t], mk, rfl, rfl, ?_⟩⟩
        have e7 := kp9 _ _ (kp8 _ _ e5 mad) mad
        refine ⟨ma, _, _, rfl, rfl, e7, Nat.lt_of_le_of_lt (show (nL ms0).length ≤ 40 by rw [List.length_map]; omega) (by decide), ?_⟩
        refine ⟨ms0 ++ [ms0[t] ||| mk], rfl, by rw [upd_same, nL_snoc], by rw [List.length_append, ml0]; show n1 + 1 ≤ 7; omega, fun x hx => ?_, D9.put mad mac⟩
        rcases List.mem_append.mp hx with z | z
        · exact lt0 x z
        · rw [List.mem_singleton.mp z]
          exact Nat.or_lt_two_pow hm0 (by omega)
      · rintro σ' H4 ⟨ms, rfl, e1, ml, lt, D6⟩
        clear D5 e0 lt0 ml0 D4 D3 D2 kp4
        have zms : (nL ms).length ≤ 7 := by rw [List.length_map]; exact ml
        -- kept
        refine ⟨_, rfl, ma, _, rfl, .inl (SqL.of e1), fun kp hkp => ?_⟩
        have s1 := same_new (o := .lst (nL ms)) hkp
        -- least
        refine ⟨_, rfl, ma, ms, rfl, SqL.of (s1 _ _ e1), by omega, fun G1 hG1 ls H5 s2 hls eG => ?_⟩
        have g1 : ∀ x ∈ G1, x < 2 ^ (1 + n0) := fun x hx => lt x ((hG1.mem x).mp hx).1
        have z1 := small_len (by omega) hG1.nd g1
        have m5 : H5 ma = some (.lst (nL ms)) := s2 _ _ (s1 _ _ e1)
        have k5 : H5 kp = some (.lst (nL ms)) := s2 _ _ upd_same
        have D5 := D6.keep (s1.trans s2)
        refine ⟨_, rfl, _, rfl, ned_ints (xs := iL ms) (ys := iL ms) (by rw [← nL_eq]; exact SqL.of m5) (by rw [← nL_eq]; exact SqL.of k5) ?_⟩
        rw [decide_eq_true rfl]
        refine ⟨false, rfl, iteF ?_⟩
        refine ⟨_, rfl, _, _, .type "list", .type "list", true, rfl, .ty "list", .base (.lst eG), kit_ty (by decide +kernel), true, rfl, iteF ?_⟩
        refine ⟨_, rfl, ls, rfl, ⟨_, SqL.of eG⟩, fun B hB => lc_listT (SqL.of eG) (sel := fun _ => true) (P := fun i y _ => y = .bl true) ⟨fun _ _ _ _ _ h => h, fun i H' _ _ R r => r H' (Same.refl H'), fun i H' hi _ _ R r => ?_⟩ hB (lt_line (by rw [List.length_map]; omega)) (fun H6 ys s3 hb _ pr => ?_)⟩
        · exact ⟨_, rfl, _, congrArg (fun x : V => [x]) (nL_getD hi), r _ H' (Same.refl H') rfl⟩
        rw [filter_yes, List.length_map] at pr
        have ey : ys = ((List.range G1.length).map fun _ => true).map V.bl := by rw [paired_map_eq pr, List.map_map]; rfl
        rw [ey] at hb
        refine ⟨B, _, rfl, SqL.of hb, ?_⟩
        have ea : ((List.range G1.length).map fun _ => true).all id = true := by
          rw [List.all_eq_true]
          intro x hx
          obtain ⟨_, _, rfl⟩ := List.mem_map.mp hx
          rfl
        rw [ea]
        refine ⟨true, rfl, iteF ?_⟩
        have D7 := D5.keep s3
        have m6 := s3 _ _ m5
        have l6 := s3 _ _ eG
        clear pr ey ea hb D5 D6 k5 m5 eG hls s2 s1 s3 e1 hkp hB hma
        -- due
        refine ⟨_, rfl, ma, iL ms, rfl, by rw [← nL_eq]; exact SqL.of m6, by rw [List.length_map]; omega, fun st cnt hst hc => ?_⟩
        rw [List.length_map] at hc
        refine ⟨st, _, cnt, rfl, upd_same, by omega, fun ns2 p2 pw2 mem2 len2 hp2 => ?_⟩
        obtain ⟨L, eL, mL, lL⟩ := nats_of (ns := ns2) (ms := ms) fun k => (mem2 k).trans ⟨fun h => of_decide_eq_true h, fun h => decide_eq_true h⟩
        rw [eL]
        have s4 := (same_new (o := SetO w st (fun j => decide (j ∈ iL ms)) cnt) hst).trans (same_new (o := .lst (nL L)) hp2)
        refine ⟨p2, L, rfl, SqL.of upd_same, by omega, fun G2 hG2 du H7 s5 hdu e7 => ?_⟩
        have s6 := s4.trans s5
        have m7 := s6 _ _ m6
        have l7 := s6 _ _ l6
        have D8 := D7.keep s6
        have hms : ∀ x, MK.MinOf (· ∈ L) x ↔ MK.MinOf (· ∈ ms) x := MK.MinOf.congr mL
        have p12 : G1.Perm G2 := hG1.perm hG2 fun x => (hms x).symm
        clear D7 m6 l6 s4 s5 hp2 hst
        refine ⟨_, rfl, ls, G1, rfl, SqL.of l7, hG1.nd, hG1.up, by omega, fun H8 s7 => ⟨true, rfl, iteF ?_⟩⟩
        refine ⟨_, rfl, ls, iL G1, rfl, by rw [← nL_eq]; exact SqL.of (s7 _ _ l7), fun a1 q1 pm1 pw1 hq1 => ?_⟩
        have s8 := same_new (o := .lst (a1.map V.int)) hq1
        refine ⟨_, rfl, du, iL G2, rfl, by rw [← nL_eq]; exact SqL.of (s8 _ _ (s7 _ _ e7)), fun a2 q2 pm2 pw2 hq2 => ?_⟩
        have s9 := same_new (o := .lst (a2.map V.int)) hq2
        refine ned_ints (SqL.of (s9 _ _ upd_same)) (SqL.of upd_same) ?_
        rw [decide_eq_true (sorted_eq p12 pm1 pw1 pm2 pw2)]
        refine ⟨false, rfl, iteF ?_⟩
        have t1 := s7.trans (s8.trans s9)
        have m9 := t1 _ _ m7
        have d9 := t1 _ _ e7
        have D9 := D8.keep t1
        clear D8 t1 s9 s8 s7 hq1 hq2 m7 l7 e7
        -- met
        have hU : ∀ m ∈ ms, MK.sub m (MK.maskOf (List.range (1 + n0))) := fun m hm => within_top (lt m hm)
        refine ⟨_, rfl, _, rfl, ma, 1 + n0, _, ms, rfl, SqL.of m9, by omega, hU, top_lt _, Nat.le_trans (top_pc _) (by omega), fun B1 hB1 mt H9 u1 hmt f1 => ?_⟩
        have b1 : ∀ x ∈ B1, x < 2 ^ (1 + n0) := fun x hx => ((hB1.mem x).mp hx).1.1
        have zb := small_len (by omega) hB1.nd b1
        have m10 := u1 _ _ m9
        have d10 := u1 _ _ d9
        have D10 := D9.keep u1
        clear D9 m9 d9 u1 hmt
        refine ⟨_, rfl, mt, B1, rfl, SqL.of f1, hB1.nd, hB1.up, by omega, fun H10 u2 => ⟨true, rfl, iteF ?_⟩⟩
        refine ⟨_, rfl, mt, iL B1, rfl, by rw [← nL_eq]; exact SqL.of (u2 _ _ f1), fun a3 q3 pm3 pw3 hq3 => ?_⟩
        have u3 := same_new (o := .lst (a3.map V.int)) hq3
        refine ⟨_, rfl, _, rfl, ma, 1 + n0, ms, rfl, SqL.of (u3 _ _ (u2 _ _ m10)), by omega, by omega, fun B2 hB2 dbp H11 u4 hdb f2 => ?_⟩
        refine ⟨dbp, iL B2, rfl, by rw [← nL_eq]; exact SqL.of f2, fun a4 q4 pm4 pw4 hq4 => ?_⟩
        have u5 := same_new (o := .lst (a4.map V.int)) hq4
        refine ned_ints (SqL.of (u5 _ _ (u4 _ _ upd_same))) (SqL.of upd_same) ?_
        rw [decide_eq_true (sorted_eq (hB1.perm hB2 fun _ => Iff.rfl) pm3 pw3 pm4 pw4)]
        refine ⟨false, rfl, iteF ?_⟩
        have t2 := u2.trans (u3.trans (u4.trans u5))
        have m11 := t2 _ _ m10
        have d11 := t2 _ _ d10
        have f11 := t2 _ _ f1
        have D11 := D10.keep t2
        clear D10 m10 d10 f1 f2 t2 u2 u3 u4 u5 hq3 hq4 hdb
        -- twice is the least
        refine ⟨_, rfl, _, rfl, mt, 1 + n0, _, B1, rfl, SqL.of f11, by omega, fun m hm => within_top (b1 m hm), top_lt _, Nat.le_trans (top_pc _) (by omega), fun B3 hB3 bp H12 v1 hbp f12 => ?_⟩
        refine ⟨bp, iL B3, rfl, by rw [← nL_eq]; exact SqL.of f12, fun a5 q5 pm5 pw5 hq5 => ?_⟩
        have v2 := same_new (o := .lst (a5.map V.int)) hq5
        refine ⟨_, rfl, du, iL G2, rfl, by rw [← nL_eq]; exact SqL.of (v2 _ _ (v1 _ _ d11)), fun a6 q6 pm6 pw6 hq6 => ?_⟩
        have v3 := same_new (o := .lst (a6.map V.int)) hq6
        refine ned_ints (SqL.of (v3 _ _ upd_same)) (SqL.of upd_same) ?_
        have p32 : B3.Perm G2 := hB3.perm hG2 fun x => (MK.tr_tr lt (fun x => hB1.mem x) x).trans (hms x).symm
        rw [decide_eq_true (sorted_eq p32 pm5 pw5 pm6 pw6)]
        refine ⟨false, rfl, iteF ?_⟩
        have t3 := v1.trans (v2.trans v3)
        have m12 := t3 _ _ m11
        have f13 := t3 _ _ f11
        have D12 := D11.keep t3
        clear D11 m11 d11 f11 f12 t3 v1 v2 v3 hq5 hq6 hbp
        -- lots
        refine ⟨_, rfl, _, rfl, mt, 1 + n0, B1, rfl, SqL.of f13, by omega, by omega, fun l1 H13 Ls1 w1 hl1 L1 pl1 ul1 => ?_⟩
        refine ⟨_, rfl, _, rfl, mt, 1 + n0, B1, rfl, SqL.of (w1 _ _ f13), by omega, by omega, fun l2 H14 Ls2 w2 hl2 L2' pl2 ul2 => ?_⟩
        refine ned_lots (L1.grow w2) L2' ?_
        rw [decide_eq_true (lots_same pl1 pl2 ul1 ul2)]
        refine ⟨false, rfl, iteF ?_⟩
        have m14 := (w1.trans w2) _ _ m12
        refine ⟨_, rfl, _, rfl, ma, 1 + n0, ms, rfl, SqL.of m14, by omega, by omega, fun l3 H15 Ls3 w3 hl3 L3 pl3 ul3 => ?_⟩
        refine ⟨_, rfl, _, rfl, ma, 1 + n0, ms, rfl, SqL.of (w3 _ _ m14), by omega, by omega, fun l4 H16 Ls4 w4 hl4 L4 pl4 ul4 => ?_⟩
        refine ned_lots (L3.grow w4) L4 ?_
        rw [decide_eq_true (lots_same pl3 pl4 ul3 ul4)]
        refine ⟨false, rfl, iteF ?_⟩
        exact ⟨_, _, _, _, _, _, _, _, _, rfl, D12.keep ((w1.trans w2).trans (w3.trans w4))⟩
end
end L2.KK
namespace L2.KK
open PySem PySem.Spec PyProof.Rows C8
def dd_bits_of : He.DefD := ⟨("bits_of", none), "bits_of", "bits_of", defArgs s_bits_of, defBody s_bits_of, defScope s_bits_of, [], []⟩
def dd_bit_count : He.DefD := ⟨("bit_count", none), "bit_count", "bit_count", defArgs s_bit_count, defBody s_bit_count, defScope s_bit_count, [], []⟩
def dd_minimal_masks : He.DefD := ⟨("minimal_masks", none), "minimal_masks", "minimal_masks", defArgs s_minimal_masks, defBody s_minimal_masks, defScope s_minimal_masks, [], []⟩
def dd_blocker : He.DefD := ⟨("blocker", none), "blocker", "blocker", defArgs s_blocker, defBody s_blocker, defScope s_blocker, [], []⟩
def dd_as_lots : He.DefD := ⟨("as_lots", none), "as_lots", "as_lots", defArgs s_as_lots, defBody s_as_lots, defScope s_as_lots, [], []⟩
def dd_lot_rank : He.DefD := ⟨("lot_rank", none), "lot_rank", "lot_rank", defArgs s_lot_rank, defBody s_lot_rank, defScope s_lot_rank, [], []⟩
def dd_law_begin : He.DefD := ⟨("_law_begin", none), "_law_begin", "_law_begin", defArgs s_law_begin, defBody s_law_begin, defScope s_law_begin, [], []⟩
def dd_law_draw : He.DefD := ⟨("_law_draw", none), "_law_draw", "_law_draw", defArgs s_law_draw, defBody s_law_draw, defScope s_law_draw, [], []⟩
def dd_law_pick : He.DefD := ⟨("_law_pick", none), "_law_pick", "_law_pick", defArgs s_law_pick, defBody s_law_pick, defScope s_law_pick, [], []⟩
def dd_law_pop : He.DefD := ⟨("_law_pop", none), "_law_pop", "_law_pop", defArgs s_law_pop, defBody s_law_pop, defScope s_law_pop, [], []⟩
def dd_law_rare : He.DefD := ⟨("_law_rare", none), "_law_rare", "_law_rare", defArgs s_law_rare, defBody s_law_rare, defScope s_law_rare, [], []⟩
def dd_law_shuffled : He.DefD := ⟨("_law_shuffled", none), "_law_shuffled", "_law_shuffled", defArgs s_law_shuffled, defBody s_law_shuffled, defScope s_law_shuffled, [], []⟩
def dd_law_is_int : He.DefD := ⟨("_law_is_int", none), "_law_is_int", "_law_is_int", defArgs s_law_is_int, defBody s_law_is_int, defScope s_law_is_int, [], []⟩
def dd_law_ones : He.DefD := ⟨("_law_ones", none), "_law_ones", "_law_ones", defArgs s_law_ones, defBody s_law_ones, defScope s_law_ones, [], []⟩
def dd_law_least_masks : He.DefD := ⟨("_law_least_masks", none), "_law_least_masks", "_law_least_masks", defArgs s_law_least_masks, defBody s_law_least_masks, defScope s_law_least_masks, [], []⟩
def dd_law_lots : He.DefD := ⟨("_law_lots", none), "_law_lots", "_law_lots", defArgs s_law_lots, defBody s_law_lots, defScope s_law_lots, [], []⟩
def dd_law_lot_rank : He.DefD := ⟨("_law_lot_rank", none), "_law_lot_rank", "_law_lot_rank", defArgs s_law_lot_rank, defBody s_law_lot_rank, defScope s_law_lot_rank, [], []⟩
def dd_law_meets : He.DefD := ⟨("_law_meets", none), "_law_meets", "_law_meets", defArgs s_law_meets, defBody s_law_meets, defScope s_law_meets, [], []⟩
def dd_law_due_blocker : He.DefD := ⟨("_law_due_blocker", none), "_law_due_blocker", "_law_due_blocker", defArgs s_law_due_blocker, defBody s_law_due_blocker, defScope s_law_due_blocker, [], []⟩
def dd_law_is_sorted : He.DefD := ⟨("_law_is_sorted", none), "_law_is_sorted", "_law_is_sorted", defArgs s_law_is_sorted, defBody s_law_is_sorted, defScope s_law_is_sorted, [], []⟩
def dd_law_planted_ok : He.DefD := ⟨("_law_planted_ok", none), "_law_planted_ok", "_law_planted_ok", defArgs s_law_planted_ok, defBody s_law_planted_ok, defScope s_law_planted_ok, [], []⟩
def dd_law : He.DefD := ⟨("law", none), "law", "law", defArgs s_law, defBody s_law, defScope s_law, [], []⟩
def fnL : List He.DefD := [dd_bits_of, dd_bit_count, dd_minimal_masks, dd_blocker, dd_as_lots, dd_lot_rank, dd_law_begin, dd_law_draw, dd_law_pick, dd_law_pop, dd_law_rare, dd_law_shuffled, dd_law_is_int, dd_law_ones, dd_law_least_masks, dd_law_lots, dd_law_lot_rank, dd_law_meets, dd_law_due_blocker, dd_law_is_sorted, dd_law_planted_ok, dd_law]
def faL : List He.Fa := [.glo "bits_of", .glo "bit_count", .glo "minimal_masks", .glo "blocker", .glo "as_lots", .glo "lot_rank", .glo "_law_begin", .glo "_law_draw", .glo "_law_pick", .glo "_law_pop", .glo "_law_rare", .glo "_law_shuffled", .glo "_law_is_int", .glo "_law_ones", .glo "_law_least_masks", .glo "_law_lots", .glo "_law_lot_rank", .glo "_law_meets", .glo "_law_due_blocker", .glo "_law_is_sorted", .glo "_law_planted_ok", .glo "law", .free "abs", .free "all", .free "any", .free "bool", .free "int", .free "isinstance", .free "len", .free "list", .free "range", .free "set", .free "sorted", .free "sum", .free "tuple"]
abbrev RR : PySem.W.OpenRow := PySem.W.OpenLaw.row PySem.Challenge.rw_pricedrules_k76_blockers
abbrev hkD : PySem.W.Hook := He.hookD 4 faL fnL
def obD (s : PySem.W.SharedT) : He.AlD := He.obsDG 4 faL fnL (HandSHeadRun.getT s)
theorem obD_eq (s : PySem.W.SharedT) : obD s = hkD.obs s.abs := He.obsDG_eq (HandSHeadRun.getT_eq s)
def looseL : List Str := ((["bits_of", "bit_count", "minimal_masks", "blocker", "as_lots", "lot_rank", "_law_begin", "_law_draw", "_law_pick", "_law_pop", "_law_rare", "_law_shuffled", "_law_is_int", "_law_ones", "_law_least_masks", "_law_lots", "_law_lot_rank", "_law_meets", "_law_due_blocker", "_law_is_sorted", "_law_planted_ok"] : List Str))
theorem runD (w : World) : HandSHeadRun.RunEq RR (PySem.W.view RR.prog [24]) hkD obD 4000 looseL w := by
  intro os
  kernel_rfl
theorem factsD {P : Program} {w : World} {K : PySem.W.Frag} {h : Heap} {mg : Str → Option Value} {f : Addr} (X : K.In h) (G : h.Ns mainGlobals mg) (hfa : mg ("law" : Str) = some (.ref f)) (c : He.SaysD faL fnL K) :
    ∃ fd : FuncData, (∀ (s : Shared) (v : Value), BindsTo s fd ⟨[v], []⟩ [("script", v)]) ∧ ∀ base : Heap, K.In base → base.Ns mainGlobals mg → FnOk P w K mg base CX0 13 f fd ["script"] (spLaw K) := by
  have D_bits_of : FnAt K mg "bits_of" s_bits_of := by
    obtain ⟨fd, F⟩ := c.def_ 0 (d := dd_bits_of) rfl
    exact ⟨_, fd, F, He.glo_ok X G (c.fact 0 (f := .glo "bits_of") rfl)⟩
  have D_bit_count : FnAt K mg "bit_count" s_bit_count := by
    obtain ⟨fd, F⟩ := c.def_ 1 (d := dd_bit_count) rfl
    exact ⟨_, fd, F, He.glo_ok X G (c.fact 1 (f := .glo "bit_count") rfl)⟩
  have D_minimal_masks : FnAt K mg "minimal_masks" s_minimal_masks := by
    obtain ⟨fd, F⟩ := c.def_ 2 (d := dd_minimal_masks) rfl
    exact ⟨_, fd, F, He.glo_ok X G (c.fact 2 (f := .glo "minimal_masks") rfl)⟩
  have D_blocker : FnAt K mg "blocker" s_blocker := by
    obtain ⟨fd, F⟩ := c.def_ 3 (d := dd_blocker) rfl
    exact ⟨_, fd, F, He.glo_ok X G (c.fact 3 (f := .glo "blocker") rfl)⟩
  have D_as_lots : FnAt K mg "as_lots" s_as_lots := by
    obtain ⟨fd, F⟩ := c.def_ 4 (d := dd_as_lots) rfl
    exact ⟨_, fd, F, He.glo_ok X G (c.fact 4 (f := .glo "as_lots") rfl)⟩
  have D_lot_rank : FnAt K mg "lot_rank" s_lot_rank := by
    obtain ⟨fd, F⟩ := c.def_ 5 (d := dd_lot_rank) rfl
    exact ⟨_, fd, F, He.glo_ok X G (c.fact 5 (f := .glo "lot_rank") rfl)⟩
  have D_law_begin : FnAt K mg "_law_begin" s_law_begin := by
    obtain ⟨fd, F⟩ := c.def_ 6 (d := dd_law_begin) rfl
    exact ⟨_, fd, F, He.glo_ok X G (c.fact 6 (f := .glo "_law_begin") rfl)⟩
  have D_law_draw : FnAt K mg "_law_draw" s_law_draw := by
    obtain ⟨fd, F⟩ := c.def_ 7 (d := dd_law_draw) rfl
    exact ⟨_, fd, F, He.glo_ok X G (c.fact 7 (f := .glo "_law_draw") rfl)⟩
  have D_law_pick : FnAt K mg "_law_pick" s_law_pick := by
    obtain ⟨fd, F⟩ := c.def_ 8 (d := dd_law_pick) rfl
    exact ⟨_, fd, F, He.glo_ok X G (c.fact 8 (f := .glo "_law_pick") rfl)⟩
  have D_law_pop : FnAt K mg "_law_pop" s_law_pop := by
    obtain ⟨fd, F⟩ := c.def_ 9 (d := dd_law_pop) rfl
    exact ⟨_, fd, F, He.glo_ok X G (c.fact 9 (f := .glo "_law_pop") rfl)⟩
  have D_law_rare : FnAt K mg "_law_rare" s_law_rare := by
    obtain ⟨fd, F⟩ := c.def_ 10 (d := dd_law_rare) rfl
    exact ⟨_, fd, F, He.glo_ok X G (c.fact 10 (f := .glo "_law_rare") rfl)⟩
  have D_law_shuffled : FnAt K mg "_law_shuffled" s_law_shuffled := by
    obtain ⟨fd, F⟩ := c.def_ 11 (d := dd_law_shuffled) rfl
    exact ⟨_, fd, F, He.glo_ok X G (c.fact 11 (f := .glo "_law_shuffled") rfl)⟩
  have D_law_is_int : FnAt K mg "_law_is_int" s_law_is_int := by
    obtain ⟨fd, F⟩ := c.def_ 12 (d := dd_law_is_int) rfl
    exact ⟨_, fd, F, He.glo_ok X G (c.fact 12 (f := .glo "_law_is_int") rfl)⟩
  have D_law_ones : FnAt K mg "_law_ones" s_law_ones := by
    obtain ⟨fd, F⟩ := c.def_ 13 (d := dd_law_ones) rfl
    exact ⟨_, fd, F, He.glo_ok X G (c.fact 13 (f := .glo "_law_ones") rfl)⟩
  have D_law_least_masks : FnAt K mg "_law_least_masks" s_law_least_masks := by
    obtain ⟨fd, F⟩ := c.def_ 14 (d := dd_law_least_masks) rfl
    exact ⟨_, fd, F, He.glo_ok X G (c.fact 14 (f := .glo "_law_least_masks") rfl)⟩
  have D_law_lots : FnAt K mg "_law_lots" s_law_lots := by
    obtain ⟨fd, F⟩ := c.def_ 15 (d := dd_law_lots) rfl
    exact ⟨_, fd, F, He.glo_ok X G (c.fact 15 (f := .glo "_law_lots") rfl)⟩
  have D_law_lot_rank : FnAt K mg "_law_lot_rank" s_law_lot_rank := by
    obtain ⟨fd, F⟩ := c.def_ 16 (d := dd_law_lot_rank) rfl
    exact ⟨_, fd, F, He.glo_ok X G (c.fact 16 (f := .glo "_law_lot_rank") rfl)⟩
  have D_law_meets : FnAt K mg "_law_meets" s_law_meets := by
    obtain ⟨fd, F⟩ := c.def_ 17 (d := dd_law_meets) rfl
    exact ⟨_, fd, F, He.glo_ok X G (c.fact 17 (f := .glo "_law_meets") rfl)⟩
  have D_law_due_blocker : FnAt K mg "_law_due_blocker" s_law_due_blocker := by
    obtain ⟨fd, F⟩ := c.def_ 18 (d := dd_law_due_blocker) rfl
    exact ⟨_, fd, F, He.glo_ok X G (c.fact 18 (f := .glo "_law_due_blocker") rfl)⟩
  have D_law_is_sorted : FnAt K mg "_law_is_sorted" s_law_is_sorted := by
    obtain ⟨fd, F⟩ := c.def_ 19 (d := dd_law_is_sorted) rfl
    exact ⟨_, fd, F, He.glo_ok X G (c.fact 19 (f := .glo "_law_is_sorted") rfl)⟩
  have D_law_planted_ok : FnAt K mg "_law_planted_ok" s_law_planted_ok := by
    obtain ⟨fd, F⟩ := c.def_ 20 (d := dd_law_planted_ok) rfl
    exact ⟨_, fd, F, He.glo_ok X G (c.fact 20 (f := .glo "_law_planted_ok") rfl)⟩
  have T : Bl mg := ⟨He.free_ok X G (c.fact 22 (f := .free "abs") rfl), He.free_ok X G (c.fact 23 (f := .free "all") rfl), He.free_ok X G (c.fact 24 (f := .free "any") rfl), He.free_ok X G (c.fact 25 (f := .free "bool") rfl), He.free_ok X G (c.fact 26 (f := .free "int") rfl), He.free_ok X G (c.fact 27 (f := .free "isinstance") rfl), He.free_ok X G (c.fact 28 (f := .free "len") rfl), He.free_ok X G (c.fact 29 (f := .free "list") rfl), He.free_ok X G (c.fact 30 (f := .free "range") rfl), He.free_ok X G (c.fact 31 (f := .free "set") rfl), He.free_ok X G (c.fact 32 (f := .free "sorted") rfl), He.free_ok X G (c.fact 33 (f := .free "sum") rfl), He.free_ok X G (c.fact 34 (f := .free "tuple") rfl)⟩
  obtain ⟨fd, F⟩ := c.def_ 21 (d := dd_law) rfl
  have e := hfa.symm.trans (He.glo_ok X G (c.fact 21 (f := .glo "law") rfl))
  cases e
  have b := FunD.bindsA (ps := ["script"]) F fun _ _ _ _ _ _ us hl => match us, hl with | [_], _ => rfl
  refine ⟨fd, fun s v => b s [v] rfl, fun base _ _ => ?_⟩
  have c_bits_of := c_bits_of (P := P) (w := w) (base := base) D_bits_of T
  have c_bit_count := c_bit_count (P := P) (w := w) (base := base) D_bit_count T
  have c_minimal := c_minimal D_minimal_masks T c_bit_count
  have c_blocker := c_blocker D_blocker T c_bits_of c_minimal
  have c_rank := c_rank (P := P) (w := w) (base := base) D_lot_rank T
  have c_as_lots := c_as_lots D_as_lots T c_bits_of c_rank
  have c_begin := c_begin (P := P) (w := w) (base := base) D_law_begin T
  have c_draw := c_draw (P := P) (w := w) (base := base) D_law_draw T
  have c_pick := c_pick D_law_pick T c_draw
  have c_pop := c_pop D_law_pop T c_draw
  have c_rare := c_rare D_law_rare T c_draw
  have c_shuf := c_shuf D_law_shuffled T c_draw
  have c_is_int := c_is_int (P := P) (w := w) (base := base) D_law_is_int T
  have c_ones := c_ones (P := P) (w := w) (base := base) D_law_ones T
  have c_least := c_least D_law_least_masks T c_ones
  have c_lrank := c_lrank (P := P) (w := w) (base := base) D_law_lot_rank T
  have c_llots := c_llots D_law_lots T c_lrank
  have c_meets := c_meets (P := P) (w := w) (base := base) D_law_meets T
  have c_due := c_due D_law_due_blocker T c_least c_meets
  have c_is_sorted := c_is_sorted D_law_is_sorted T c_ones
  have c_planted := c_planted D_law_planted_ok T c_draw c_pop c_pick c_shuf c_blocker c_is_sorted
  exact ok_law F T c_begin c_draw c_pick c_rare c_is_int c_minimal c_least c_due c_as_lots c_llots c_planted c_blocker c_is_sorted
end L2.KK
open PySem PySem.W PySem.Calls PyProof.Rows
theorem PySem.Challenge.cw_pricedrules_k76_blockers_holds : PySem.Challenge.rw_pricedrules_k76_blockers.Holds := by
  w_on; o_law
  refine HandSHeadRun.head_any (r := OpenLaw.row PySem.Challenge.rw_pricedrules_k76_blockers) (q := view (OpenLaw.row PySem.Challenge.rw_pricedrules_k76_blockers).prog [24]) (H := L2.KK.hkD) (ob := L2.KK.obD) (M := 4000) (loose := L2.KK.looseL) (d := HandSHeadRun.topDef (OpenLaw.row PySem.Challenge.rw_pricedrules_k76_blockers).prog 24) (kwd := []) L2.KK.obD_eq
    (by kernel_rfl) (fun s => by kernel_rfl) L2.KK.runD (by kernel_rfl) (by kernel_rfl) (by kernel_rfl) (by rfl) (by first | assumption | decide +kernel) (by decide +kernel) ⟨rfl, rfl, rfl, rfl, rfl, by decide +kernel⟩ ?hw ?hc
  case hw => w_witness2
  case hc =>
    refine L2.walk_ofE (l := PySem.Challenge.rw_pricedrules_k76_blockers) (n := 63) (k := 13) (x := "script") (CX := L2.CX0) rfl (by decide) (by kernel_rfl) ⟨rfl, by decide, by decide⟩ ?F (fun _ _ _ _ z => z)
    intro w mg fa h Y G hmg0
    obtain ⟨K, KX, c⟩ := Y
    have hmg : mg ("law" : PySem.Str) = some (.ref fa) := by
      have e : (HandSHeadRun.topDef (OpenLaw.row PySem.Challenge.rw_pricedrules_k76_blockers).prog 24).name = ("law" : PySem.Str) := by kernel_rfl
      rw [← e]
      exact hmg0
    obtain ⟨fd, hb, hF⟩ := L2.KK.factsD (P := (PySem.Challenge.rw_pricedrules_k76_blockers).prog) (w := w) KX G hmg c
    exact ⟨K, fd, L2.KK.spLaw K, KX, hb, fun H a ns hl _ hS => ⟨a, ns, rfl, hS, hl, fun _ => rfl⟩, hF⟩
