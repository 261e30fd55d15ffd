import PyProof.Rows.All
import Wide.All
import OpenK.AllK
import Wide.FinOn
import KE.KStateDown
import Lean
import KE.KSortKey
import HandS.ForMost
import HandS.SortInts
import HandS.SortOrd
import HandS.SortRule
import HandS.SortKw
import HandS.Codes
import KE.Datum
import KE.KEqDeep
import HandS.NamedTupSort
import HandS.Strs
import HandS.SetFor
import HandS.Zip
import HandS.Conv
import HandS.IsInst
import HandS.WideBits
import KE.OsArith
import HandS.Defaults
import HandS.Head0
import HandS.Head1
import HandS.Head2
import HandS.HeadEnd
import HandS.HeadHook1
import HandS.HeadHook2
import HandS.TupAny
import HandS.Exc
import HandS.ExcOwn
import HandS.ExcField
import HandS.ExcInit
import HandS.WordsExc
import HandS.ClsMeth
import HandS.Dict
import HandS.Walk
import HandS.Rev
import HandS.DeepEq
import PySem.Challenge.RW_pricedrules_k77_clashes_menders
set_option Elab.async false
set_option linter.all false
set_option maxRecDepth 100000
set_option maxHeartbeats 0
/-! Masks, least masks, blockers: plain mathematics for law k76 (and k77). -/
namespace MK
/-- a lies within b -/
abbrev sub (a b : Nat) : Prop := a &&& b = a
theorem sub_iff {a b : Nat} : sub a b ↔ ∀ i, a.testBit i = true → b.testBit i = true := by
  constructor
  · intro h i hi
    have e : (a &&& b).testBit i = a.testBit i := by rw [h]
    rw [Nat.testBit_and, hi] at e
    simpa using e
  · intro h
    apply Nat.eq_of_testBit_eq
    intro i
    rw [Nat.testBit_and]
    cases q : a.testBit i with
    | false => rfl
    | true => rw [h i q]; rfl
theorem sub_refl (a : Nat) : sub a a := Nat.and_self a
theorem sub_trans {a b c : Nat} (h : sub a b) (k : sub b c) : sub a c := sub_iff.mpr fun i x => sub_iff.mp k i (sub_iff.mp h i x)
theorem sub_anti {a b : Nat} (h : sub a b) (k : sub b a) : a = b := by
  have k' : b &&& a = b := k
  rw [Nat.and_comm] at k'
  exact h.symm.trans k'
theorem sub_zero (a : Nat) : sub 0 a := Nat.zero_and a
theorem sub_le {a b : Nat} (h : sub a b) : a ≤ b := by
  have e : a &&& b ≤ b := Nat.and_le_right
  rw [h] at e
  exact e
theorem sub_lt {a b n : Nat} (h : sub a b) (k : b < n) : a < n := Nat.lt_of_le_of_lt (sub_le h) k
theorem sub_or_left (a b : Nat) : sub a (a ||| b) := sub_iff.mpr fun i h => by rw [Nat.testBit_or, h]; rfl
theorem sub_or_right (a b : Nat) : sub b (a ||| b) := sub_iff.mpr fun i h => by rw [Nat.testBit_or, h, Bool.or_true]
theorem or_sub {a b c : Nat} (h : sub a c) (k : sub b c) : sub (a ||| b) c := sub_iff.mpr fun i x => by
  rw [Nat.testBit_or, Bool.or_eq_true] at x
  rcases x with x | x
  · exact sub_iff.mp h i x
  · exact sub_iff.mp k i x
theorem bit_sub {i b : Nat} : sub (2 ^ i) b ↔ b.testBit i = true := by
  rw [sub_iff]
  constructor
  · intro h
    exact h i (by rw [Nat.testBit_two_pow]; simp)
  · intro h j hj
    rw [Nat.testBit_two_pow] at hj
    have e : i = j := of_decide_eq_true hj
    rw [← e]; exact h
theorem and_ne {a b : Nat} : a &&& b ≠ 0 ↔ ∃ i, a.testBit i = true ∧ b.testBit i = true := by
  constructor
  · intro h
    obtain ⟨i, hi⟩ := Nat.exists_testBit_of_ne_zero h
    rw [Nat.testBit_and, Bool.and_eq_true] at hi
    exact ⟨i, hi⟩
  · rintro ⟨i, h1, h2⟩ e
    have : (a &&& b).testBit i = true := by rw [Nat.testBit_and, h1, h2]; rfl
    rw [e, Nat.zero_testBit] at this
    cases this
theorem meet_mono {a b m : Nat} (h : sub a b) (k : a &&& m ≠ 0) : b &&& m ≠ 0 := by
  obtain ⟨i, h1, h2⟩ := and_ne.mp k
  exact and_ne.mpr ⟨i, sub_iff.mp h i h1, h2⟩

/-! ### how many bits -/
def pcf : Nat → Nat → Nat
  | 0, _ => 0
  | f + 1, n => n % 2 + pcf f (n / 2)
theorem pcf_eq : ∀ (f n : Nat), n ≤ f → ∀ g, n ≤ g → pcf f n = pcf g n
  | 0, n, h, g, _ => by
    have e : n = 0 := by omega
    subst e
    clear h
    induction g with
    | zero => rfl
    | succ g ih => show 0 = 0 % 2 + pcf g (0 / 2); rw [← ih (Nat.zero_le _)]; rfl
  | f + 1, n, h, g, hg => by
    cases g with
    | zero =>
      have e : n = 0 := by omega
      subst e
      have : ∀ f, pcf f 0 = 0 := fun f => by
        induction f with
        | zero => rfl
        | succ f ih => show 0 % 2 + pcf f (0 / 2) = 0; rw [Nat.zero_div, ih]
      rw [this, this]
    | succ g =>
      show n % 2 + pcf f (n / 2) = n % 2 + pcf g (n / 2)
      rw [pcf_eq f (n / 2) (by omega) g (by omega)]
/-- how many bits are set -/
def pc (n : Nat) : Nat := pcf n n
theorem pc_zero : pc 0 = 0 := rfl
theorem pc_rec (n : Nat) : pc n = n % 2 + pc (n / 2) := by
  cases n with
  | zero => rfl
  | succ n =>
    show (n + 1) % 2 + pcf n ((n + 1) / 2) = (n + 1) % 2 + pcf ((n + 1) / 2) ((n + 1) / 2)
    rw [pcf_eq n ((n + 1) / 2) (by omega) ((n + 1) / 2) (Nat.le_refl _)]
theorem sub_half {a b : Nat} (h : sub a b) : sub (a / 2) (b / 2) ∧ a % 2 ≤ b % 2 := by
  constructor
  · show a / 2 &&& b / 2 = a / 2
    rw [← Nat.and_div_two, h]
  · have k := sub_iff.mp h 0
    rw [Nat.testBit_zero, Nat.testBit_zero, decide_eq_true_eq, decide_eq_true_eq] at k
    omega
theorem pc_mono : ∀ (n a b : Nat), b ≤ n → sub a b → pc a ≤ pc b ∧ (pc a = pc b → a = b)
  | 0, a, b, hn, h => by
    have e : b = 0 := by omega
    have e2 : a = 0 := by have := sub_le h; omega
    subst e; subst e2
    exact ⟨Nat.le_refl _, fun _ => rfl⟩
  | n + 1, a, b, hn, h => by
    by_cases hb : b = 0
    · have e2 : a = 0 := by have := sub_le h; omega
      subst hb; subst e2
      exact ⟨Nat.le_refl _, fun _ => rfl⟩
    · obtain ⟨h1, h2⟩ := sub_half h
      obtain ⟨k1, k2⟩ := pc_mono n (a / 2) (b / 2) (by omega) h1
      rw [pc_rec a, pc_rec b]
      refine ⟨by omega, fun e => ?_⟩
      have e1 : pc (a / 2) = pc (b / 2) := by omega
      have := k2 e1
      omega
theorem pc_le {a b : Nat} (h : sub a b) : pc a ≤ pc b := (pc_mono b a b (Nat.le_refl _) h).1
theorem pc_inj {a b : Nat} (h : sub a b) (e : pc b ≤ pc a) : a = b := (pc_mono b a b (Nat.le_refl _) h).2 (Nat.le_antisymm (pc_le h) e)
theorem clear_low : ∀ (n k : Nat), k ≤ n → 0 < k → pc (k &&& (k - 1)) + 1 = pc k ∧ k &&& (k - 1) < k
  | 0, k, h, h0 => by omega
  | n + 1, k, h, h0 => by
    have lt : k &&& (k - 1) < k := by
      have : k &&& (k - 1) ≤ k - 1 := Nat.and_le_right
      omega
    refine ⟨?_, lt⟩
    rw [pc_rec (k &&& (k - 1)), pc_rec k, Nat.and_div_two]
    by_cases hodd : k % 2 = 1
    · have e1 : (k &&& (k - 1)) % 2 = 0 := by
        have q := @Nat.and_mod_two_eq_one k (k - 1)
        have : ¬ (k - 1) % 2 = 1 := by omega
        omega
      have e2 : (k - 1) / 2 = k / 2 := by omega
      rw [e1, e2, Nat.and_self, hodd]
      omega
    · have e1 : (k &&& (k - 1)) % 2 = 0 := by
        have q := @Nat.and_mod_two_eq_one k (k - 1)
        omega
      have e2 : (k - 1) / 2 = k / 2 - 1 := by omega
      obtain ⟨i1, _⟩ := clear_low n (k / 2) (by omega) (by omega)
      rw [e1, e2]
      omega

/-! ### least ones -/
/-- x is least among S -/
def MinOf (S : Nat → Prop) (x : Nat) : Prop := S x ∧ ∀ k, S k → sub k x → k = x
/-- known first: keep x if none that is kept lies within it -/
def greedy : List Nat → List Nat → List Nat
  | acc, [] => acc
  | acc, x :: xs => if acc.any (fun k => k &&& x == k) then greedy acc xs else greedy (acc ++ [x]) xs
theorem greedy_append : ∀ (xs ys acc : List Nat), greedy acc (xs ++ ys) = greedy (greedy acc xs) ys
  | [], _, _ => rfl
  | x :: xs, ys, acc => by
    show (if _ then _ else _) = greedy (if _ then _ else _) ys
    split <;> exact greedy_append xs ys _
theorem any_sub {acc : List Nat} {x : Nat} : acc.any (fun k => k &&& x == k) = true ↔ ∃ k ∈ acc, sub k x := by
  rw [List.any_eq_true]
  constructor
  · rintro ⟨k, h, e⟩
    exact ⟨k, h, by simpa using e⟩
  · rintro ⟨k, h, e⟩
    exact ⟨k, h, by simpa using e⟩
theorem greedy_spec : ∀ (xs acc : List Nat), (acc ++ xs).Pairwise (fun a b => pc a ≤ pc b) → acc.Pairwise (fun a b => ¬ sub a b) →
    (∀ x ∈ greedy acc xs, x ∈ acc ++ xs) ∧ (∀ x ∈ acc ++ xs, ∃ k ∈ greedy acc xs, sub k x) ∧ (greedy acc xs).Pairwise (fun a b => ¬ sub a b) ∧ (greedy acc xs).Pairwise (fun a b => pc a ≤ pc b)
  | [], acc, h, h2 => by
    rw [List.append_nil] at h ⊢
    exact ⟨fun x hx => hx, fun x hx => ⟨x, hx, sub_refl x⟩, h2, h⟩
  | x :: xs, acc, h, h2 => by
    unfold greedy
    split
    · rename_i hs
      obtain ⟨k, hk, hkx⟩ := any_sub.mp hs
      have h' : (acc ++ xs).Pairwise (fun a b => pc a ≤ pc b) := h.sublist (List.Sublist.append (List.Sublist.refl _) (List.sublist_cons_self _ _))
      obtain ⟨a1, a2, a3, a4⟩ := greedy_spec xs acc h' h2
      refine ⟨fun y hy => ?_, fun y hy => ?_, a3, a4⟩
      · rcases List.mem_append.mp (a1 y hy) with z | z
        · exact List.mem_append_left _ z
        · exact List.mem_append_right _ (List.mem_cons_of_mem _ z)
      · rcases List.mem_append.mp hy with z | z
        · exact a2 y (List.mem_append_left _ z)
        · rcases List.mem_cons.mp z with z | z
          · subst z
            obtain ⟨k', hk', hs'⟩ := a2 k (List.mem_append_left _ hk)
            exact ⟨k', hk', sub_trans hs' hkx⟩
          · exact a2 y (List.mem_append_right _ z)
    · rename_i hs
      have no : ∀ k ∈ acc, ¬ sub k x := fun k hk hkx => hs (any_sub.mpr ⟨k, hk, hkx⟩)
      have e : acc ++ [x] ++ xs = acc ++ x :: xs := by simp
      have h2' : (acc ++ [x]).Pairwise (fun a b => ¬ sub a b) := by
        rw [List.pairwise_append]
        refine ⟨h2, List.pairwise_singleton _ _, fun a ha b hb => ?_⟩
        rw [List.mem_singleton.mp hb]
        exact no a ha
      obtain ⟨a1, a2, a3, a4⟩ := greedy_spec xs (acc ++ [x]) (by rw [e]; exact h) h2'
      rw [e] at a1 a2
      exact ⟨a1, a2, a3, a4⟩
/-- G holds just the least ones of S, smaller ones first, each once -/
structure Least (G : List Nat) (S : Nat → Prop) : Prop where
  nd : G.Nodup
  mem : ∀ x, x ∈ G ↔ MinOf S x
  up : G.Pairwise (fun a b => pc a ≤ pc b)
theorem pairwise_both {R : Nat → Nat → Prop} : ∀ {l : List Nat}, l.Pairwise R → ∀ {i j : Nat} {a b : Nat}, l[i]? = some a → l[j]? = some b → i < j → R a b := by
  intro l h i j a b ha hb hij
  obtain ⟨hi, e1⟩ := List.getElem?_eq_some_iff.mp ha
  obtain ⟨hj, e2⟩ := List.getElem?_eq_some_iff.mp hb
  rw [← e1, ← e2]
  exact List.pairwise_iff_getElem.mp h i j hi hj hij
theorem greedy_least {L : List Nat} (h : L.Pairwise (fun a b => pc a ≤ pc b)) : Least (greedy [] L) (· ∈ L) := by
  obtain ⟨a1, a2, a3, a4⟩ := greedy_spec L [] h List.Pairwise.nil
  have anti : ∀ a ∈ greedy [] L, ∀ b ∈ greedy [] L, sub a b → a = b := fun a ha b hb hs => by
    obtain ⟨i, hi⟩ := List.getElem?_of_mem ha
    obtain ⟨j, hj⟩ := List.getElem?_of_mem hb
    rcases Nat.lt_trichotomy i j with z | z | z
    · exact absurd hs (pairwise_both a3 hi hj z)
    · subst z
      rw [hi] at hj
      exact Option.some.inj hj
    · have := pairwise_both a4 hj hi z
      exact pc_inj hs this
  refine ⟨a3.imp fun {a b} (h : ¬ sub a b) (e : a = b) => h (by rw [e]; exact sub_refl b), fun x => ⟨fun hx => ⟨a1 x hx, fun k hk hs => ?_⟩, fun hx => ?_⟩, a4⟩
  · obtain ⟨k', hk', hs'⟩ := a2 k hk
    have e := anti k' hk' x hx (sub_trans hs' hs)
    subst e
    exact sub_anti hs hs'
  · obtain ⟨k', hk', hs'⟩ := a2 x hx.1
    rw [← hx.2 k' (a1 k' hk') hs']
    exact hk'
theorem Least.perm {G G' : List Nat} {S S' : Nat → Prop} (a : Least G S) (b : Least G' S') (h : ∀ x, MinOf S x ↔ MinOf S' x) : G.Perm G' :=
  (List.perm_ext_iff_of_nodup a.nd b.nd).mpr fun x => by rw [a.mem, b.mem, h]
theorem MinOf.congr {S S' : Nat → Prop} (h : ∀ x, S x ↔ S' x) (x : Nat) : MinOf S x ↔ MinOf S' x := by
  unfold MinOf
  rw [h x]
  exact and_congr_right fun _ => ⟨fun f k hk => f k ((h k).mpr hk), fun f k hk => f k ((h k).mp hk)⟩
/-- A among B, and each of B holds one of A: the least ones are the same -/
theorem MinOf.dense {A B : Nat → Prop} (h : ∀ x, A x → B x) (k : ∀ x, B x → ∃ y, A y ∧ sub y x) (x : Nat) : MinOf A x ↔ MinOf B x := by
  constructor
  · rintro ⟨ax, hx⟩
    refine ⟨h x ax, fun y hy hs => ?_⟩
    obtain ⟨z, az, hz⟩ := k y hy
    have e := hx z az (sub_trans hz hs)
    subst e
    exact sub_anti hs hz
  · rintro ⟨bx, hx⟩
    obtain ⟨z, az, hz⟩ := k x bx
    have e := hx z (h z az) hz
    subst e
    exact ⟨az, fun y hy hs => hx y (h y hy) hs⟩
/-- each holds a least one -/
theorem exists_min {S : Nat → Prop} : ∀ (n x : Nat), x ≤ n → S x → ∃ y, MinOf S y ∧ sub y x
  | n, x, hn, hx => by
    by_cases h : ∃ k, S k ∧ sub k x ∧ k ≠ x
    · obtain ⟨k, hk, hs, ne⟩ := h
      have lt : k < x := by
        have := sub_le hs
        omega
      cases n with
      | zero => omega
      | succ n =>
        obtain ⟨y, hy, hys⟩ := exists_min n k (by omega) hk
        exact ⟨y, hy, sub_trans hys hs⟩
    · refine ⟨x, ⟨hx, fun k hk hs => ?_⟩, sub_refl x⟩
      exact Classical.byContradiction fun ne => h ⟨k, hk, hs, ne⟩
theorem min_min {S : Nat → Prop} (x : Nat) : MinOf (MinOf S) x ↔ MinOf S x := MinOf.dense (fun _ h => h.1) (fun x hx => exists_min x x (Nat.le_refl _) hx) x

/-! ### meeting -/
/-- t meets each of ms, over many numbers -/
def Tr (ms : List Nat) (many : Nat) (t : Nat) : Prop := t < 2 ^ many ∧ ∀ m ∈ ms, t &&& m ≠ 0
def bitsOf (m many : Nat) : List Nat := (List.range many).filter fun i => m.testBit i
theorem mem_bitsOf {m many i : Nat} : i ∈ bitsOf m many ↔ i < many ∧ m.testBit i = true := by
  unfold bitsOf
  rw [List.mem_filter, List.mem_range]
/-- one step: what a known one grows into -/
def grow1 (m many k : Nat) : List Nat := if k &&& m ≠ 0 then [k] else (bitsOf m many).map fun i => k ||| 2 ^ i
def grow (m many : Nat) (found : List Nat) : List Nat := found.flatMap (grow1 m many)
theorem grow_append (m many : Nat) (xs ys : List Nat) : grow m many (xs ++ ys) = grow m many xs ++ grow m many ys := by
  unfold grow
  rw [List.flatMap_append]
theorem bit_of_lt {n many i : Nat} (h : n < 2 ^ many) (k : n.testBit i = true) : i < many := by
  cases Nat.lt_or_ge i many with
  | inl q => exact q
  | inr q =>
    rw [Nat.testBit_lt_two_pow (Nat.lt_of_lt_of_le h (Nat.pow_le_pow_right (by decide) q))] at k
    cases k
theorem grow_min {ms : List Nat} {many m : Nat} {found : List Nat} (hf : ∀ x, x ∈ found ↔ MinOf (Tr ms many) x) (x : Nat) :
    MinOf (· ∈ grow m many found) x ↔ MinOf (Tr (ms ++ [m]) many) x := by
  refine MinOf.dense (fun y hy => ?_) (fun t ht => ?_) x
  · obtain ⟨k, hk, hy⟩ := List.mem_flatMap.mp hy
    have hk' := (hf k).mp hk
    unfold grow1 at hy
    split at hy
    · rename_i hm
      rw [List.mem_singleton] at hy
      subst hy
      refine ⟨hk'.1.1, fun z hz => ?_⟩
      rcases List.mem_append.mp hz with hz | hz
      · exact hk'.1.2 z hz
      · rw [List.mem_singleton.mp hz]
        exact hm
    · obtain ⟨i, hi, rfl⟩ := List.mem_map.mp hy
      obtain ⟨h1, h2⟩ := mem_bitsOf.mp hi
      refine ⟨Nat.or_lt_two_pow hk'.1.1 (Nat.pow_lt_pow_right (by decide) h1), fun z hz => ?_⟩
      rcases List.mem_append.mp hz with hz | hz
      · exact meet_mono (sub_or_left _ _) (hk'.1.2 z hz)
      · rw [List.mem_singleton.mp hz]
        refine and_ne.mpr ⟨i, ?_, h2⟩
        rw [Nat.testBit_or, Nat.testBit_two_pow]
        simp
  · have ht' : Tr ms many t := ⟨ht.1, fun z hz => ht.2 z (List.mem_append_left _ hz)⟩
    obtain ⟨k, hk, hs⟩ := exists_min t t (Nat.le_refl _) ht'
    have hkf := (hf k).mpr hk
    by_cases hm : k &&& m ≠ 0
    · refine ⟨k, List.mem_flatMap.mpr ⟨k, hkf, ?_⟩, hs⟩
      unfold grow1
      rw [if_pos hm]
      exact List.mem_singleton.mpr rfl
    · obtain ⟨i, h1, h2⟩ := and_ne.mp (ht.2 m (List.mem_append_right _ (List.mem_singleton.mpr rfl)))
      refine ⟨k ||| 2 ^ i, List.mem_flatMap.mpr ⟨k, hkf, ?_⟩, or_sub hs (bit_sub.mpr h1)⟩
      unfold grow1
      rw [if_neg hm]
      exact List.mem_map.mpr ⟨i, mem_bitsOf.mpr ⟨bit_of_lt ht.1 h1, h2⟩, rfl⟩
theorem tr_nil (many x : Nat) : x ∈ [0] ↔ MinOf (Tr [] many) x := by
  rw [List.mem_singleton]
  constructor
  · rintro rfl
    exact ⟨⟨Nat.pow_pos (by decide), fun _ h => nomatch h⟩, fun k _ hs => by have := sub_le hs; omega⟩
  · intro h
    exact (h.2 0 ⟨Nat.pow_pos (by decide), fun _ h => nomatch h⟩ (sub_zero x)).symm
/-- the blocker of the blocker -/
theorem tr_tr {ms bs : List Nat} {many : Nat} (hm : ∀ m ∈ ms, m < 2 ^ many) (hb : ∀ x, x ∈ bs ↔ MinOf (Tr ms many) x) (x : Nat) : MinOf (Tr bs many) x ↔ MinOf (· ∈ ms) x := by
  refine (MinOf.dense (A := (· ∈ ms)) (B := Tr bs many) (fun m h => ⟨hm m h, fun b hb' => ?_⟩) (fun t ht => ?_) x).symm
  · have := ((hb b).mp hb').1.2 m h
    rw [Nat.and_comm]
    exact this
  · refine Classical.byContradiction fun no => ?_
    -- the complement of t meets each of ms
    have tr : Tr ms many ((2 ^ many - 1) ^^^ t) := by
      refine ⟨Nat.xor_lt_two_pow (by have := Nat.pow_pos (n := many) (show 0 < 2 by decide); omega) ht.1, fun m h => ?_⟩
      have : ¬ sub m t := fun hs => no ⟨m, h, hs⟩
      rw [sub_iff] at this
      obtain ⟨i, hi⟩ := Classical.not_forall.mp this
      obtain ⟨h1, h2⟩ := Classical.not_imp.mp hi
      refine and_ne.mpr ⟨i, ?_, h1⟩
      rw [Nat.testBit_xor, Nat.testBit_two_pow_sub_one, decide_eq_true (bit_of_lt (hm m h) h1)]
      simpa using h2
    obtain ⟨y, hy, hs⟩ := exists_min _ _ (Nat.le_refl _) tr
    obtain ⟨i, h1, h2⟩ := and_ne.mp (ht.2 y ((hb y).mpr hy))
    have h3 := sub_iff.mp hs i h2
    rw [Nat.testBit_xor, h1] at h3
    rw [Nat.testBit_two_pow_sub_one, decide_eq_true (bit_of_lt ht.1 h1)] at h3
    cases h3

/-! ### how many masks lie within one -/
def subs : Nat → Nat → List Nat
  | 0, _ => [0]
  | f + 1, n => if n % 2 = 1 then (subs f (n / 2)).flatMap fun x => [2 * x, 2 * x + 1] else (subs f (n / 2)).map fun x => 2 * x
theorem flat2_len (l : List Nat) : (l.flatMap fun x => [2 * x, 2 * x + 1]).length = 2 * l.length := by
  induction l with
  | nil => rfl
  | cons a l ih => rw [List.flatMap_cons, List.length_append, ih, List.length_cons]; simp only [List.length_cons, List.length_nil]; omega
theorem subs_len : ∀ (f n : Nat), (subs f n).length = 2 ^ pcf f n
  | 0, _ => rfl
  | f + 1, n => by
    unfold subs
    show _ = 2 ^ (n % 2 + pcf f (n / 2))
    split
    · rename_i h
      rw [flat2_len, subs_len f, h, Nat.pow_add]
    · rename_i h
      have e : n % 2 = 0 := by omega
      rw [List.length_map, subs_len f, e, Nat.zero_add]
theorem mem_subs : ∀ (f n x : Nat), n ≤ f → sub x n → x ∈ subs f n
  | 0, n, x, h, hs => by
    have e : x = 0 := by have := sub_le hs; omega
    subst e
    exact List.mem_singleton.mpr rfl
  | f + 1, n, x, h, hs => by
    obtain ⟨h1, h2⟩ := sub_half hs
    have ih := mem_subs f (n / 2) (x / 2) (by omega) h1
    unfold subs
    split
    · refine List.mem_flatMap.mpr ⟨x / 2, ih, ?_⟩
      have : x % 2 = 0 ∨ x % 2 = 1 := by omega
      rcases this with e | e
      · have : x = 2 * (x / 2) := by omega
        rw [this]
        simp
      · have : x = 2 * (x / 2) + 1 := by omega
        rw [this]
        simp
        omega
    · exact List.mem_map.mpr ⟨x / 2, ih, by omega⟩
theorem within_len {l : List Nat} {U : Nat} (h : l.Nodup) (k : ∀ x ∈ l, sub x U) : l.length ≤ 2 ^ pc U := by
  have := h.length_le_of_subset (l₂ := subs U U) fun x hx => mem_subs U U x (Nat.le_refl _) (k x hx)
  rw [subs_len] at this
  exact this
theorem min_within {ms : List Nat} {U many : Nat} (h : ∀ m ∈ ms, sub m U) (hU : U < 2 ^ many) {x : Nat} (hx : MinOf (Tr ms many) x) : sub x U := by
  have tr : Tr ms many (x &&& U) := by
    refine ⟨Nat.lt_of_le_of_lt Nat.and_le_right hU, fun m hm => ?_⟩
    obtain ⟨i, h1, h2⟩ := and_ne.mp (hx.1.2 m hm)
    refine and_ne.mpr ⟨i, ?_, h2⟩
    rw [Nat.testBit_and, h1, sub_iff.mp (h m hm) i h2]
    rfl
  have e := hx.2 (x &&& U) tr (sub_iff.mpr fun i hi => by
    rw [Nat.testBit_and, Bool.and_eq_true] at hi
    exact hi.1)
  exact e
theorem grow1_len (m many k : Nat) : (grow1 m many k).length ≤ many + 1 := by
  unfold grow1
  split
  · show 1 ≤ many + 1
    omega
  · rw [List.length_map]
    unfold bitsOf
    have := List.length_filter_le (fun i => m.testBit i) (List.range many)
    rw [List.length_range] at this
    omega
theorem grow_len (m many : Nat) : ∀ found : List Nat, (grow m many found).length ≤ found.length * (many + 1)
  | [] => by
    show 0 ≤ _
    omega
  | k :: l => by
    show (grow1 m many k ++ grow m many l).length ≤ (l.length + 1) * (many + 1)
    rw [List.length_append, Nat.succ_mul]
    have h1 := grow1_len m many k
    have h2 := grow_len m many l
    omega

/-! ### groups that have no number in common -/
theorem half_or_pow (k i : Nat) : (k ||| 2 ^ (i + 1)) / 2 = k / 2 ||| 2 ^ i ∧ (k ||| 2 ^ (i + 1)) % 2 = k % 2 := by
  constructor
  · apply Nat.eq_of_testBit_eq
    intro j
    rw [← Nat.testBit_add_one, Nat.testBit_or, Nat.testBit_or, Nat.testBit_two_pow, Nat.testBit_two_pow, ← Nat.testBit_add_one]
    congr 1
    simp
  · have e : (k ||| 2 ^ (i + 1)).testBit 0 = k.testBit 0 := by
      rw [Nat.testBit_or, Nat.testBit_two_pow]
      simp
    rw [Nat.testBit_zero, Nat.testBit_zero] at e
    have : (k ||| 2 ^ (i + 1)) % 2 = 1 ↔ k % 2 = 1 := by
      rw [← decide_eq_true_eq (p := (k ||| 2 ^ (i + 1)) % 2 = 1), e, decide_eq_true_eq]
    omega
theorem half_or_one (k : Nat) : (k ||| 2 ^ 0) / 2 = k / 2 ∧ (k ||| 2 ^ 0) % 2 = 1 := by
  constructor
  · apply Nat.eq_of_testBit_eq
    intro j
    rw [← Nat.testBit_add_one, Nat.testBit_or, Nat.testBit_two_pow, ← Nat.testBit_add_one]
    simp
  · have e : (k ||| 2 ^ 0).testBit 0 = true := by
      rw [Nat.testBit_or, Nat.testBit_two_pow]
      simp
    rw [Nat.testBit_zero] at e
    exact of_decide_eq_true e
theorem pc_set : ∀ (i k : Nat), k.testBit i = false → pc (k ||| 2 ^ i) = pc k + 1
  | 0, k, h => by
    obtain ⟨e1, e2⟩ := half_or_one k
    rw [Nat.testBit_zero] at h
    have h' := of_decide_eq_false h
    rw [pc_rec (k ||| 2 ^ 0), e1, e2, pc_rec k]
    omega
  | i + 1, k, h => by
    obtain ⟨e1, e2⟩ := half_or_pow k i
    rw [Nat.testBit_add_one] at h
    rw [pc_rec (k ||| 2 ^ (i + 1)), e1, e2, pc_set i (k / 2) h, pc_rec k]
    omega
theorem pc_or_pow (i k : Nat) : pc (k ||| 2 ^ i) ≤ pc k + 1 := by
  cases h : k.testBit i with
  | false => rw [pc_set i k h]; exact Nat.le_refl _
  | true =>
    have e : k ||| 2 ^ i = k := by
      apply Nat.eq_of_testBit_eq
      intro j
      rw [Nat.testBit_or, Nat.testBit_two_pow]
      by_cases hj : i = j
      · subst hj; rw [h]; rfl
      · rw [decide_eq_false hj, Bool.or_false]
    rw [e]
    omega
/-- the mask of numbers -/
def maskOf (g : List Nat) : Nat := g.foldl (fun m i => m ||| 2 ^ i) 0
theorem foldl_or_bit : ∀ (g : List Nat) (m i : Nat), (g.foldl (fun m i => m ||| 2 ^ i) m).testBit i = (m.testBit i || decide (i ∈ g))
  | [], m, i => by simp
  | a :: g, m, i => by
    rw [List.foldl_cons, foldl_or_bit g, Nat.testBit_or, Nat.testBit_two_pow, Bool.or_assoc]
    congr 1
    rw [← Bool.decide_or]
    apply decide_eq_decide.mpr
    rw [List.mem_cons, eq_comm]
theorem maskOf_bit (g : List Nat) (i : Nat) : (maskOf g).testBit i = decide (i ∈ g) := by
  unfold maskOf
  rw [foldl_or_bit, Nat.zero_testBit, Bool.false_or]
theorem foldl_pc : ∀ (g : List Nat) (m : Nat), pc (g.foldl (fun m i => m ||| 2 ^ i) m) ≤ pc m + g.length
  | [], m => Nat.le_refl _
  | a :: g, m => by
    rw [List.foldl_cons, List.length_cons]
    have h1 := foldl_pc g (m ||| 2 ^ a)
    have h2 := pc_or_pow a m
    omega
theorem maskOf_pc (g : List Nat) : pc (maskOf g) ≤ g.length := by
  have := foldl_pc g 0
  rw [pc_zero] at this
  unfold maskOf
  omega
theorem foldl_or_lt : ∀ (g : List Nat) (m n : Nat), m < 2 ^ n → (∀ i ∈ g, i < n) → g.foldl (fun m i => m ||| 2 ^ i) m < 2 ^ n
  | [], m, n, h, _ => h
  | a :: g, m, n, h, k => foldl_or_lt g _ n (Nat.or_lt_two_pow h (Nat.pow_lt_pow_right (by decide) (k a List.mem_cons_self))) fun i hi => k i (List.mem_cons_of_mem _ hi)
theorem maskOf_lt {g : List Nat} {n : Nat} (h : ∀ i ∈ g, i < n) : maskOf g < 2 ^ n := foldl_or_lt g 0 n (Nat.pow_pos (by decide)) h
theorem or_add : ∀ (a b n : Nat), a ≤ n → a &&& b = 0 → a ||| b = a + b
  | a, b, 0, h, _ => by
    have e : a = 0 := by omega
    subst e
    rw [Nat.zero_or, Nat.zero_add]
  | a, b, n + 1, h, e => by
    by_cases h0 : a = 0
    · subst h0
      rw [Nat.zero_or, Nat.zero_add]
    have e1 : a / 2 &&& b / 2 = 0 := by rw [← Nat.and_div_two, e]
    have ih := or_add (a / 2) (b / 2) n (by omega) e1
    have e2 : (a ||| b) / 2 = a / 2 ||| b / 2 := by
      apply Nat.eq_of_testBit_eq
      intro j
      rw [← Nat.testBit_add_one, Nat.testBit_or, Nat.testBit_or, Nat.testBit_add_one, Nat.testBit_add_one]
    have e3 : ¬ (a % 2 = 1 ∧ b % 2 = 1) := fun z => by
      have := Nat.and_mod_two_eq_one.mpr z
      omega
    have e4 : (a ||| b).testBit 0 = (a.testBit 0 || b.testBit 0) := Nat.testBit_or a b 0
    rw [Nat.testBit_zero, Nat.testBit_zero, Nat.testBit_zero, ← Bool.decide_or, decide_eq_decide] at e4
    omega
theorem or_and_xor (a b : Nat) : a ||| b = (a ^^^ b) + (a &&& b) := by
  rw [← or_add (a ^^^ b) (a &&& b) _ (Nat.le_refl _)]
  · apply Nat.eq_of_testBit_eq
    intro i
    rw [Nat.testBit_or, Nat.testBit_or, Nat.testBit_xor, Nat.testBit_and]
    cases a.testBit i <;> cases b.testBit i <;> rfl
  · apply Nat.eq_of_testBit_eq
    intro i
    rw [Nat.testBit_and, Nat.testBit_xor, Nat.testBit_and, Nat.zero_testBit]
    cases a.testBit i <;> cases b.testBit i <;> rfl
theorem or_disj {a b : Nat} (h : ∀ i, a.testBit i = true → b.testBit i = true → False) : a ||| b = a + b := by
  have e : a &&& b = 0 := Classical.byContradiction fun ne => by
    obtain ⟨i, h1, h2⟩ := and_ne.mp ne
    exact h i h1 h2
  exact or_add a b a (Nat.le_refl _) e
theorem foldl_or_sum : ∀ (g : List Nat) (m : Nat), g.Nodup → (∀ i ∈ g, m.testBit i = false) → g.foldl (fun m i => m ||| 2 ^ i) m = m + (g.map (2 ^ ·)).sum
  | [], m, _, _ => by simp
  | a :: g, m, hn, h => by
    obtain ⟨h1, h2⟩ := List.nodup_cons.mp hn
    have e : m ||| 2 ^ a = m + 2 ^ a := or_disj fun i x y => by
      rw [Nat.testBit_two_pow] at y
      have := of_decide_eq_true y
      subst this
      rw [h a List.mem_cons_self] at x
      cases x
    rw [List.foldl_cons, foldl_or_sum g _ h2 (fun i hi => ?_), e, List.map_cons, List.sum_cons]
    · omega
    · rw [Nat.testBit_or, h i (List.mem_cons_of_mem _ hi), Nat.testBit_two_pow, Bool.false_or, decide_eq_false]
      rintro rfl
      exact h1 hi
theorem maskOf_sum {g : List Nat} (h : g.Nodup) : (g.map (2 ^ ·)).sum = maskOf g := by
  unfold maskOf
  rw [foldl_or_sum g 0 h fun i _ => Nat.zero_testBit i]
  omega
/-- one of each group -/
def due1 (due g : List Nat) : List Nat := due.flatMap fun m => g.map fun i => m ||| 2 ^ i
def dueOf (gs : List (List Nat)) : List Nat := gs.foldl due1 [0]
structure Due (gs : List (List Nat)) (n many : Nat) (due : List Nat) : Prop where
  nd : due.Nodup
  pcs : ∀ x ∈ due, pc x = n
  inn : ∀ x ∈ due, ∀ i, x.testBit i = true → i ∈ gs.flatten
  mem : ∀ x, x ∈ due ↔ MinOf (Tr (gs.map maskOf) many) x
theorem due_step {gs : List (List Nat)} {n many : Nat} {due g : List Nat} (D : Due gs n many due) (hg : g.Nodup) (hd : ∀ i ∈ g, i ∉ gs.flatten) (hl : ∀ i ∈ g, i < many) : Due (gs ++ [g]) (n + 1) many (due1 due g) := by
  have off : ∀ x ∈ due, ∀ i ∈ g, x.testBit i = false := fun x hx i hi => by
    cases h : x.testBit i with
    | false => rfl
    | true => exact absurd (D.inn x hx i h) (hd i hi)
  have pcs : ∀ x ∈ due1 due g, pc x = n + 1 := fun x hx => by
    obtain ⟨k, hk, hx⟩ := List.mem_flatMap.mp hx
    obtain ⟨i, hi, rfl⟩ := List.mem_map.mp hx
    rw [pc_set i k (off k hk i hi), D.pcs k hk]
  refine ⟨?_, pcs, fun x hx i hb => ?_, fun x => ?_⟩
  · show (due.flatMap _).Pairwise _
    rw [List.pairwise_flatMap]
    refine ⟨fun k hk => ?_, D.nd.imp_of_mem fun {a b} ha hb ne x hx y hy e => ?_⟩
    · rw [List.pairwise_map]
      refine hg.imp_of_mem fun {i j} hi hj ne e => ?_
      have h1 : (k ||| 2 ^ i).testBit i = true := by rw [Nat.testBit_or, Nat.testBit_two_pow]; simp
      rw [e, Nat.testBit_or, off k hk i hi, Bool.false_or, Nat.testBit_two_pow] at h1
      exact ne (of_decide_eq_true h1).symm
    · obtain ⟨i, hi, rfl⟩ := List.mem_map.mp hx
      obtain ⟨j, hj, rfl⟩ := List.mem_map.mp hy
      apply ne
      apply Nat.eq_of_testBit_eq
      intro l
      by_cases hl : l ∈ g
      · rw [off a ha l hl, off b hb l hl]
      · have h1 : (a ||| 2 ^ i).testBit l = (b ||| 2 ^ j).testBit l := by rw [e]
        rw [Nat.testBit_or, Nat.testBit_or, Nat.testBit_two_pow, Nat.testBit_two_pow, decide_eq_false (fun (z : i = l) => hl (z ▸ hi)), decide_eq_false (fun (z : j = l) => hl (z ▸ hj)), Bool.or_false, Bool.or_false] at h1
        exact h1
  · obtain ⟨k, hk, hx⟩ := List.mem_flatMap.mp hx
    obtain ⟨j, hj, rfl⟩ := List.mem_map.mp hx
    rw [Nat.testBit_or, Bool.or_eq_true, Nat.testBit_two_pow, decide_eq_true_eq] at hb
    rw [List.flatten_append, List.mem_append]
    rcases hb with hb | hb
    · exact .inl (D.inn k hk i hb)
    · subst hb
      exact .inr (by simpa using hj)
  · have key : ∀ y, y ∈ due1 due g ↔ y ∈ grow (maskOf g) many due := fun y => by
      unfold due1 grow
      rw [List.mem_flatMap, List.mem_flatMap]
      refine exists_congr fun k => and_congr_right fun hk => ?_
      unfold grow1
      have z : k &&& maskOf g = 0 := Classical.byContradiction fun ne => by
        obtain ⟨i, h1, h2⟩ := and_ne.mp ne
        rw [maskOf_bit, decide_eq_true_eq] at h2
        rw [off k hk i h2] at h1
        cases h1
      rw [if_neg (fun ne => ne z), List.mem_map, List.mem_map]
      refine exists_congr fun i => and_congr_left fun _ => ?_
      rw [mem_bitsOf, maskOf_bit, decide_eq_true_eq]
      exact ⟨fun h => ⟨hl i h, h⟩, fun h => h.2⟩
    rw [List.map_append]
    have := grow_min (m := maskOf g) D.mem x
    rw [List.map_singleton, ← this, ← MinOf.congr key x]
    constructor
    · intro hx
      exact ⟨hx, fun k hk hs => pc_inj hs (by rw [pcs k hk, pcs x hx]; exact Nat.le_refl _)⟩
    · exact fun h => h.1
theorem due_nil (many : Nat) : Due [] 0 many [0] := by
  refine ⟨List.pairwise_singleton _ _, fun x hx => ?_, fun x hx i hi => ?_, fun x => tr_nil many x⟩
  · rw [List.mem_singleton.mp hx]; rfl
  · rw [List.mem_singleton.mp hx, Nat.zero_testBit] at hi
    cases hi
/-- the masks of the groups are apart -/
theorem mask_anti {gs : List (List Nat)} (hn : gs.flatten.Nodup) (h0 : ∀ g ∈ gs, g ≠ []) : (gs.map maskOf).Nodup ∧ ∀ x, MinOf (· ∈ gs.map maskOf) x ↔ x ∈ gs.map maskOf := by
  have fl : ∀ gs : List (List Nat), gs.flatten.Nodup → (∀ g ∈ gs, g ≠ []) → gs.Pairwise (fun a b => ∀ i, i ∈ a → i ∉ b) := by
    intro gs
    induction gs with
    | nil => intro _ _; exact List.Pairwise.nil
    | cons g gs ih =>
      intro h h0
      rw [List.flatten_cons] at h
      obtain ⟨h1, h2, h3⟩ := List.nodup_append.mp h
      refine List.pairwise_cons.mpr ⟨fun b hb i hi hib => ?_, ih h2 fun x hx => h0 x (List.mem_cons_of_mem _ hx)⟩
      exact h3 i hi i (List.mem_flatten.mpr ⟨b, hb, hib⟩) rfl
  have pw := fl gs hn h0
  have sub_no : ∀ a b : List Nat, a ≠ [] → (∀ i, i ∈ a → i ∉ b) → ¬ sub (maskOf a) (maskOf b) := fun a b ha hab hs => by
    obtain ⟨i, hi⟩ := List.exists_mem_of_ne_nil a ha
    have h1 := sub_iff.mp hs i (by rw [maskOf_bit, decide_eq_true_eq]; exact hi)
    rw [maskOf_bit, decide_eq_true_eq] at h1
    exact hab i hi h1
  constructor
  · show (gs.map maskOf).Pairwise _
    rw [List.pairwise_map]
    refine pw.imp_of_mem fun {a b} ha hb hab e => sub_no a b (h0 a ha) hab ?_
    rw [e]
    exact sub_refl _
  · intro x
    refine ⟨fun h => h.1, fun h => ⟨h, fun k hk hs => ?_⟩⟩
    obtain ⟨b, hb, rfl⟩ := List.mem_map.mp h
    obtain ⟨a, ha, rfl⟩ := List.mem_map.mp hk
    obtain ⟨i, hi⟩ := List.getElem?_of_mem ha
    obtain ⟨j, hj⟩ := List.getElem?_of_mem hb
    have at_ : ∀ {i j : Nat} {a b : List Nat}, gs[i]? = some a → gs[j]? = some b → i < j → ∀ l, l ∈ a → l ∉ b := fun {i j a b} hi hj hij => by
      obtain ⟨hi', e1⟩ := List.getElem?_eq_some_iff.mp hi
      obtain ⟨hj', e2⟩ := List.getElem?_eq_some_iff.mp hj
      rw [← e1, ← e2]
      exact List.pairwise_iff_getElem.mp pw i j hi' hj' hij
    rcases Nat.lt_trichotomy i j with z | z | z
    · exact absurd hs (sub_no a b (h0 a ha) (at_ hi hj z))
    · subst z
      rw [hi] at hj
      rw [Option.some.inj hj]
    · exact absurd hs (sub_no a b (h0 a ha) fun l hl hlb => at_ hj hi z l hlb hl)
/-- supersets of masks that stand there add nothing -/
theorem tr_more {ms more : List Nat} {many : Nat} (h : ∀ m ∈ more, ∃ k ∈ ms, sub k m) (t : Nat) : Tr (ms ++ more) many t ↔ Tr ms many t := by
  constructor
  · exact fun a => ⟨a.1, fun m hm => a.2 m (List.mem_append_left _ hm)⟩
  · refine fun a => ⟨a.1, fun m hm => ?_⟩
    rcases List.mem_append.mp hm with hm | hm
    · exact a.2 m hm
    · obtain ⟨k, hk, hs⟩ := h m hm
      rw [Nat.and_comm]
      refine meet_mono hs ?_
      rw [Nat.and_comm]
      exact a.2 k hk
theorem tr_perm {ms ns : List Nat} {many : Nat} (h : ∀ x, x ∈ ms ↔ x ∈ ns) (t : Nat) : Tr ms many t ↔ Tr ns many t := by
  unfold Tr
  refine and_congr_right fun _ => ⟨fun f m hm => f m ((h m).mpr hm), fun f m hm => f m ((h m).mp hm)⟩
end MK
/-! KBase: rules of our own beside the hand layer: sorted by a def as key, the items of a list op=. -/
namespace L2.KK
open PySem PySem.Spec PyProof.Rows
section
variable {X : Cx} {pins : List (Addr × Obj)} {σ : St} {H H' : Hp} {s : Shared} {h' : Heap} {a : Addr} {o : HO}
/-- an object of ours that nobody tracked is changed and tracked from now on -/
theorem adopt {t' : Nat} (I : Inv X pins σ H s) (f : FpOk X pins H a) (k : ∀ b u, b ≠ a → s.heap.get? b = some u → h'.get? b = some u) (new : ObjOk X.prog X.w (upd H a o) h' a o) :
    Inv X pins σ (upd H a o) { s with heap := h', toks := t' } := by
  obtain ⟨f0, f1, f2, f3, f4, f5⟩ := f
  have nb : ∀ b u, H b = some u → b ≠ a := fun b u e => ne_of_none e f0
  refine I.step (g' := s.gens) (d' := s.drawn) (ch := [a]) (fun b hb => ?_) (fun b u _ _ hc e _ => k b u (fun z => hc (by rw [z]; exact List.mem_singleton.mpr rfl)) e)
    (fun b u _ _ hc e _ => ⟨u.slots, k b u (fun z => hc (by rw [z]; exact List.mem_singleton.mpr rfl)) e⟩) (fun b u hc e n => ?_) (fun b u hc e => ⟨u, k b u (fun z => hc (by rw [z]; exact List.mem_singleton.mpr rfl)) e⟩)
    (fun b xs e => by rw [upd_ne (nb b _ e)]; exact e) (fun b u xs e => by rw [upd_ne (nb b _ e)]; exact e) (fun b ps e => ⟨#[], by rw [upd_ne (nb b _ e), e]; simp⟩) (fun m hm => ?_) (fun b u e => ?_) I.bare
  · rw [List.mem_singleton.mp hb]
    exact ⟨f3, f1, f4, f5⟩
  · rw [upd_ne (fun z => hc (by rw [z]; exact List.mem_singleton.mpr rfl))]
    exact n
  · obtain ⟨u, es, ep, ho, r⟩ := hm
    exact ⟨u, es, ep, k _ u f1.symm ho, r⟩
  · by_cases hb : b = a
    · subst hb
      rw [upd_same] at e
      cases e
      exact new
    · rw [upd_ne hb] at e
      refine (I.hok b u e).stay (fun c v hc q => k c v ?_ q) (fun c q => by rw [upd_ne (nb c _ q)]; exact q) fun c xs q => by rw [upd_ne (nb c _ q)]; exact q
      rcases hc with z | z
      · rw [z]; exact hb
      · exact nb c _ z
variable {k : Nat} {f : Addr} {fd : FuncData} {ps : List Str} {sp : Sp}
/-- a def called from within the frames of a built-in -/
theorem run_in {A : Around} {Q : VK} {E : Value → Shared → Prop} {us : List Value} {vs : List V} (F : FnOk X.prog X.w X.K X.mg X.base CX0 k f fd ps sp) (hA : A.frames = some X.stack) (hr : Room k A) (hb : Binds X.K fd ps [])
    (I : Inv X pins σ H s) (r : Vals vs us) (h : sp vs H Q E0) : wpAny (model X.prog X.w) A (call (.ref f) us) (fun u s' => CE X.stack X.prog X.w H s Q u s') E s := by
  have hl : us.length = ps.length := by
    rw [← r.length]
    exact F.len _ _ _ _ h
  have e := I.env0
  have bt := hb s us I.kIn (by simpa using hl)
  rw [List.append_nil] at bt
  refine wpAny_call (codeAny_mono (F.run A X.stack s H ⟨us, []⟩ us vs Q E0 hr ⟨by rw [hA], e.mod, e.bs, e.bsz, e.funs, e.frf, e.hok, e.bare⟩ bt r h) fun q s' hq => ?_)
  cases q with
  | error e => exact hq.elim
  | ok fl =>
    cases fl with
    | ret u => exact hq
    | next => exact hq.elim
    | brk => exact hq.elim
    | cont => exact hq.elim
theorem ce_inv {Q : VK} {u : Value} {s' : Shared} (I : Inv X pins σ H s) (h : CE X.stack X.prog X.w H s Q u s') :
    ∃ v H', Inv X pins σ H' s' ∧ RelV v u ∧ Q v H' ∧ Un (frs X.stack) [] H H' s.heap s'.heap := by
  obtain ⟨v, H', os, bare, un, hok, r, q⟩ := h
  exact ⟨v, H', I.call' os un hok bare (fun b hb => nomatch hb), r, q, un⟩
theorem notStk {b : Addr} (I : Inv X pins σ H s) (f : FpOk X pins H b) : b ∉ frs X.stack := fun hb => by
  rcases List.mem_cons.mp (I.stkSub b hb) with z | z
  · exact f.2.1 z
  · exact f.2.2.1 z

/-! ### sorted(xs, key=f), f a def of the program -/

theorem paired_append {α β : Type} {F : α → β → Prop} : ∀ {a c : List α} {b d : List β}, Paired F a b → Paired F c d → Paired F (a ++ c) (b ++ d)
  | _, _, _, _, .nil, h => h
  | _, _, _, _, .cons r t, h => .cons r (paired_append t h)
theorem paired_left {α β : Type} {F : α → β → Prop} : ∀ {a : List α} {b : List β}, Paired F a b → ∀ y ∈ a, ∃ x, F y x
  | _, _, .cons r t, y, h => by
    rcases List.mem_cons.mp h with h | h
    · exact ⟨_, h ▸ r⟩
    · exact paired_left t y h
theorem paired_zip {α β : Type} {F : α → β → Prop} : ∀ {a : List α} {b : List β}, Paired F a b → ∀ p ∈ a.zip b, F p.1 p.2
  | _, _, .nil, p, h => by simp at h
  | _, _, .cons r t, p, h => by
    rw [List.zip_cons_cons] at h
    rcases List.mem_cons.mp h with h | h
    · rw [h]; exact r
    · exact paired_zip t p h
instance : Nonempty V := ⟨.non⟩
/-- the value of the machine, as the layer has it -/
def vOf (u : Value) : V := (absV u).getD .non
theorem vOf_eq {x : V} {u : Value} (r : RelV x u) : vOf u = x := by
  unfold vOf
  rw [r.abs]
  rfl
theorem vals_vOf : ∀ {xs : List V} {us : List Value}, Vals xs us → us.map vOf = xs
  | _, _, .nil => rfl
  | _, _, .cons r t => by rw [List.map_cons, vOf_eq r, vals_vOf t]
theorem rel_vOf : ∀ {xs : List V} {us : List Value}, Vals xs us → ∀ u ∈ us, RelV (vOf u) u
  | _, _, .cons r t, u, h => by
    rcases List.mem_cons.mp h with h | h
    · rw [h, vOf_eq r]; exact r
    · exact rel_vOf t u h
theorem vals_of_rel : ∀ {us : List Value}, (∀ u ∈ us, RelV (vOf u) u) → Vals (us.map vOf) us
  | [], _ => .nil
  | u :: us, h => .cons (h u List.mem_cons_self) (vals_of_rel fun v hv => h v (List.mem_cons_of_mem _ hv))
/-- how keys compare: kv x y H: y is the key of x; rk x: its rank -/
structure KeyKind (X : Cx) {R : Type} (rk : V → R) (kv : V → V → Hp → Prop) (ltr : R → R → Bool) : Prop where
  grow : ∀ x y H H', Same H H' → kv x y H → kv x y H'
  one : ∀ x x' y H, kv x y H → kv x' y H → rk x = rk x'
  swo : SrtO.Swo ltr
  cmp : ∀ (pins : List (Addr × Obj)) (σ : St) (H : Hp) (s : Shared) (A : Around) (us : List Value) (ρ : V → R), Room 6 A → Inv X pins σ H s → 2 ≤ us.length → (∀ u ∈ us, RelV (vOf u) u ∧ ∃ x, kv x (vOf u) H ∧ rk x = ρ (vOf u)) →
    ∃ κ, (∀ (Q : SortKind → Shared → Prop) (E : Value → Shared → Prop), Q κ s → wpAny (model X.prog X.w) A (keyKind' us.toArray) Q E s) ∧
      SrtO.Cmp X.prog X.w A s κ (fun p => p.1 ∈ us) (fun p q => ltr (ρ (vOf p.1)) (ρ (vOf q.1)))
theorem zip_toList (k : Array Value) (vs : List Value) : (k.zip vs.toArray).toList = k.toList.zip vs := by simp
theorem pw_map {α β : Type} {R : β → β → Prop} {S : α → α → Prop} {g : α → β} {l : List α} (h : l.Pairwise S) (k : ∀ a b, S a b → R (g a) (g b)) : (l.map g).Pairwise R := by
  rw [List.pairwise_map]
  exact h.imp fun {a b} => k a b
variable {kS a : Addr} {e1 : Nat} {xs : List V} {vs : List Value} {R : Type} {rk : V → R} {kv : V → V → Hp → Prop} {ltr : R → R → Bool} {P : PySem.Fin → Shared → Prop} {E : Value → Shared → Prop}
theorem key_end {A : Around} {kA : Array Value} {e : Nat} {ks : List V} (K : KeyKind X rk kv ltr) (hr : Room 6 A) (I : Inv X pins σ H' s) (h1 : s.heap.get? kS = some (seqObj "list" kA e)) (h2 : s.heap.get? a = some (seqObj "list" #[] e1)) (hne : kS ≠ a)
    (f1 : FpOk X pins H' kS) (f2 : FpOk X pins H' a) (rv : Vals ks kA.toList) (rx : Vals xs vs) (hl : ks.length = xs.length) (hz : xs.length ≤ sizeLine) (ρ : V → R) (hk : ∀ y ∈ ks, ∃ x, kv x y H' ∧ rk x = ρ y)
    (h : ∀ (qs : List (V × V)) (s' : Shared), qs.Perm (ks.zip xs) → qs.Pairwise (fun p q => ltr (ρ q.1) (ρ p.1) = false) → Inv X pins σ (upd H' a (.lst (qs.map Prod.snd))) s' → P (.done (.ret .none)) s') :
    wpAny (model X.prog X.w) A (ksk_end a false vs.toArray e1 (.ref kS) kA) P E s := by
  have lk : kA.size = ks.length := by
    have := rv.length
    rw [Array.length_toList] at this
    exact this.symm
  have lv : vs.length = xs.length := rx.length.symm
  have zs : (kA.zip vs.toArray).size = xs.length := by rw [Array.size_zip, lk, List.size_toArray, lv, hl, Nat.min_self]
  -- what is left to do once the items are in order
  have fin : ∀ st : SortSt, SrtO.Srtd (fun p q : Keyed => ltr (ρ (vOf p.1)) (ρ (vOf q.1))) (arrOf st).toList → (arrOf st).toList.Perm (kA.toList.zip vs) → failedOf st = none →
      wpAny (model X.prog X.w) A (ksk_tail a false e1 (.ref kS) st) P E s := fun st hs hp hf => by
    have hp2 : ((arrOf st).toList.map fun p : Keyed => (vOf p.1, vOf p.2)).Perm (ks.zip xs) := by
      have q := hp.map fun p : Keyed => (vOf p.1, vOf p.2)
      have ez : (kA.toList.zip vs).map (fun p : Keyed => (vOf p.1, vOf p.2)) = ks.zip xs := by
        rw [← vals_vOf rv, ← vals_vOf rx, List.zip_map]
        rfl
      rw [ez] at q
      exact q
    have so : (((arrOf st).map (·.2)).toList) = (arrOf st).toList.map Prod.snd := by rw [Array.toList_map]
    have ln : ((arrOf st).map (·.2)).size = xs.length := by
      have q := hp.length_eq
      rw [Array.length_toList, List.length_zip, Array.length_toList, lk, lv, hl, Nat.min_self] at q
      rw [Array.size_map, q]
    obtain ⟨c1, g1⟩ : ∃ c, (s.heap.update kS (Obj.mapSeq fun _ => (#[] : Array Value))).get? kS = some (seqObj "list" #[] c) := ⟨_, get?_update_seq h1 fun _ => #[]⟩
    have s1 := Heap.SameBut.update s.heap kS (Obj.mapSeq fun _ => (#[] : Array Value))
    have g2 : (s.heap.update kS (Obj.mapSeq fun _ => (#[] : Array Value))).get? a = some (seqObj "list" #[] e1) := (s1.2 a hne.symm).trans h2
    have I1 : Inv X pins σ H' { s with heap := s.heap.update kS (Obj.mapSeq fun _ => (#[] : Array Value)) } :=
      I.turned (t' := s.toks) (fun b u hb e => (s1.2 b hb).trans e) f1.1 f1.2.1 f1.2.2.2.1 f1.2.2.2.2.1 f1.2.2.2.2.2
    have s2 := Heap.SameBut.update (s.heap.update kS (Obj.mapSeq fun _ => (#[] : Array Value))) a (Obj.mapSeq fun _ => (arrOf st).map (·.2))
    obtain ⟨c2, g3⟩ : ∃ c, ((s.heap.update kS (Obj.mapSeq fun _ => (#[] : Array Value))).update a (Obj.mapSeq fun _ => (arrOf st).map (·.2))).get? a = some (seqObj "list" ((arrOf st).map (·.2)) c) :=
      ⟨_, get?_update_seq g2 fun _ => (arrOf st).map (·.2)⟩
    unfold ksk_tail
    try dsimp only
    refine wpAny_bind (listUpdate_at h1 rfl ?_ (by rw [lk, hl]; exact hz) (Nat.zero_le _))
    refine wpAny_bind (wpAny_letGo ?_)
    refine wpAny_bind (seqEpoch_at g2 rfl ?_)
    simp only [Bool.false_eq_true, if_false]
    refine wpAny_bind (listUpdate_at g2 rfl ?_ (Nat.zero_le _) (Nat.le_succ_of_le (by rw [ln]; exact hz)))
    rw [hf]
    simp only [bne_self_eq_false, Bool.false_eq_true, if_false]
    have rel2 : ∀ u ∈ (arrOf st).toList.map Prod.snd, RelV (vOf u) u := fun u hu => by
      obtain ⟨p, hp', rfl⟩ := List.mem_map.mp hu
      exact rel_vOf rx _ (List.of_mem_zip (hp.mem_iff.mp hp')).2
    have em : ((arrOf st).toList.map fun p : Keyed => (vOf p.1, vOf p.2)).map Prod.snd = ((arrOf st).toList.map Prod.snd).map vOf := by
      rw [List.map_map, List.map_map]
      rfl
    refine wpAny_pure (h ((arrOf st).toList.map fun p : Keyed => (vOf p.1, vOf p.2)) _ hp2 (pw_map hs fun p q z => z) ?_)
    refine adopt (o := .lst (((arrOf st).toList.map fun p : Keyed => (vOf p.1, vOf p.2)).map Prod.snd)) (h' := (s.heap.update kS (Obj.mapSeq fun _ => (#[] : Array Value))).update a (Obj.mapSeq fun _ => (arrOf st).map (·.2))) (t' := s.toks) I1 f2 (fun b u hb e => (s2.2 b hb).trans e) ⟨?_, (arrOf st).toList.map Prod.snd, c2, ?_, ?_⟩
    · rw [List.length_map, hp2.length_eq, List.length_zip, hl, Nat.min_self]
      exact hz
    · rw [em]
      exact vals_of_rel rel2
    · rw [← so, Array.toArray_toList]
      exact g3
  unfold ksk_end
  try dsimp only
  simp only [Bool.false_eq_true, if_false]
  by_cases h2' : vs.toArray.size < 2
  · rw [if_pos h2', if_pos h2']
    refine wpAny_bind (wpAny_pure ?_)
    rw [StateT.run_pure]
    refine wpAny_bind (wpAny_pure ?_)
    try dsimp only
    refine fin (SortSt.mk' general' (kA.zip vs.toArray) #[] 7 none) ?_ (by show (kA.zip vs.toArray).toList.Perm _; rw [zip_toList]) rfl
    show List.Pairwise _ (kA.zip vs.toArray).toList
    have : (kA.zip vs.toArray).toList.length < 2 := by
      rw [Array.length_toList, zs, ← lv, ← List.size_toArray]
      exact h2'
    match (kA.zip vs.toArray).toList, this with
    | [], _ => exact List.Pairwise.nil
    | [p], _ => exact List.pairwise_singleton _ _
  · rw [if_neg h2', if_neg h2']
    rw [List.size_toArray] at h2'
    have rk' := rel_vOf rv
    obtain ⟨κ, hkind, hT⟩ := K.cmp pins σ H' s A kA.toList ρ hr I (by rw [Array.length_toList, lk, hl, ← lv]; omega) (fun u hu => ⟨rk' u hu, hk _ (by rw [← vals_vOf rv]; exact List.mem_map.mpr ⟨u, hu, rfl⟩)⟩)
    rw [Array.toArray_toList] at hkind
    refine wpAny_bind (hkind _ _ ?_)
    have swo : SrtO.Swo (fun p q : Keyed => ltr (ρ (vOf p.1)) (ρ (vOf q.1))) := ⟨fun x y => K.swo.asym _ _, fun x y z => K.swo.tr _ _ _⟩
    refine wpAny_bind (wpAny_mono (SrtO.wpS_sortO (st0 := SortSt.mk' κ (kA.zip vs.toArray) #[] 7 none)
      (Q := fun _ st' => SrtO.Srtd (fun p q : Keyed => ltr (ρ (vOf p.1)) (ρ (vOf q.1))) (arrOf st').toList ∧ (arrOf st').toList.Perm (kA.toList.zip vs) ∧ failedOf st' = none) swo hT rfl (fun p hp => ?_) rfl rfl fun st' a1 a2 a3 => ⟨a1, ?_, a3⟩) ?_ fun _ _ e => e)
    · have hp' : p ∈ (kA.zip vs.toArray).toList := hp
      rw [zip_toList] at hp'
      obtain ⟨u, v⟩ := p
      exact (List.of_mem_zip hp').1
    · have q : (arrOf st').toList.Perm (kA.zip vs.toArray).toList := a2.perm
      rw [zip_toList] at q
      exact q
    · rintro ⟨⟨⟩, st'⟩ s' ⟨rfl, q1, q2, q3⟩
      try dsimp only
      exact fin st' q1 q2 q3
theorem key_rest {A : Around} {f : Addr} {fd : FuncData} {ps : List Str} {sp : Sp} {k : Nat} (F : FnOk X.prog X.w X.K X.mg X.base CX0 k f fd ps sp) (hA : A.frames = some X.stack) (hrk : Room k A) (hb : Binds X.K fd ps []) (K : KeyKind X rk kv ltr) (hr : Room 6 A)
    (I : Inv X pins σ H s) (h1 : s.heap.get? kS = some (seqObj "list" #[] 0)) (h2 : s.heap.get? a = some (seqObj "list" #[] e1)) (hne : kS ≠ a) (f1 : ∀ H', H' kS = none → FpOk X pins H' kS) (f2 : ∀ H', H' a = none → FpOk X pins H' a) (n1 : H kS = none) (n2 : H a = none)
    (rx : Vals xs vs) (hz : xs.length ≤ sizeLine) (hsp : ∀ x ∈ xs, ∀ H', Same H H' → ∀ Q : VK, (∀ y H'', Same H' H'' → kv x y H'' → Q y H'') → sp [x] H' Q E0)
    (h : ∀ (ys : List V) (H' : Hp) (s' : Shared), Same H H' → H' a = none → ys.Perm xs → ys.Pairwise (fun x y => ltr (rk y) (rk x) = false) → Inv X pins σ (upd H' a (.lst ys)) s' → P (.done (.ret .none)) s') :
    wpAny (model X.prog X.w) A (ksk_rest a (.ref f) false vs.toArray e1 (.ref kS)) P E s := by
  have lv : vs.length = xs.length := rx.length.symm
  unfold ksk_rest
  refine wpAny_bind (wpAny_rule ?_)
  rw [List.forIn_toArray]
  refine wpAny_bind (ksk_fold (fun i s' => ∃ (H' : Hp) (kA : Array Value) (e : Nat) (ks : List V), Inv X pins σ H' s' ∧ Same H H' ∧ s'.heap.get? kS = some (seqObj "list" kA e) ∧ s'.heap.get? a = some (seqObj "list" #[] e1) ∧
    H' kS = none ∧ H' a = none ∧ Vals ks kA.toList ∧ Paired (fun y x => kv x y H') ks (xs.take i)) vs 0 s ⟨H, #[], 0, [], I, Same.refl H, h1, h2, n1, n2, .nil, by rw [List.take_zero]; exact .nil⟩ ?step ?done)
  case step =>
    rintro j u s1 hu ⟨H1, kA, e, ks, I1, sm, g1, g2, m1, m2, rv, pk⟩
    rw [Nat.zero_add] at pk ⊢
    obtain ⟨hj, _⟩ := List.getElem?_eq_some_iff.mp hu
    have hjx : j < xs.length := by rw [← lv]; exact hj
    obtain ⟨u', hu', ru⟩ := rx.get (List.getElem?_eq_getElem hjx)
    rw [hu] at hu'
    cases hu'
    have lks : ks.length = j := by
      have q := pk.length
      rw [List.length_take] at q
      omega
    refine wpAny_bind (wpAny_attempt (wpAny_mono (run_in F hA hrk hb I1 (.cons ru .nil) (hsp _ (List.getElem_mem hjx) H1 sm (fun y H'' => Same H1 H'' ∧ kv xs[j] y H'') fun y H'' a b => ⟨a, b⟩)) (fun v s2 hc => ?_) fun _ _ z => z))
    obtain ⟨y, H2, I2, ry, ⟨sm2, ky⟩, un⟩ := ce_inv I1 hc
    try dsimp only
    have k1 := un.keep kS _ g1 m1 (notStk I1 (f1 _ m1)) (fun z => nomatch z)
    have k2 := un.keep a _ g2 m2 (notStk I1 (f2 _ m2)) (fun z => nomatch z)
    have p1 := un.free kS _ g1 m1 (fun z => nomatch z)
    have p2 := un.free a _ g2 m2 (fun z => nomatch z)
    have sk : kA.size = j := by
      have q : ks.length = kA.toList.length := Paired.length rv
      rw [Array.length_toList] at q
      exact q.symm.trans lks
    have sb := Heap.SameBut.update s2.heap kS (Obj.mapSeq (·.push v))
    obtain ⟨c, hc⟩ : ∃ c, (s2.heap.update kS (Obj.mapSeq (·.push v))).get? kS = some (seqObj "list" (kA.push v) c) := ⟨_, get?_update_seq k1 (·.push v)⟩
    have fk := f1 _ p1
    refine wpAny_bind (listUpdate_at k1 rfl ?_ (by rw [sk]; omega) (by rw [Array.size_push, sk]; omega))
    refine wpAny_pure ⟨rfl, H2, kA.push v, c, ks ++ [y], I2.turned (t' := s2.toks) (fun b o hb e => (sb.2 b hb).trans e) p1 fk.2.1 fk.2.2.2.1 fk.2.2.2.2.1 fk.2.2.2.2.2, sm.trans sm2, hc, (sb.2 a hne.symm).trans k2, p1, p2, ?_, ?_⟩
    · rw [Array.toList_push]
      exact rv.append (.cons ry .nil)
    · rw [List.take_add_one, List.getElem?_eq_getElem hjx]
      exact paired_append (Paired.mapP pk fun a b z => K.grow _ _ _ _ sm2 z) (.cons ky .nil)
  case done =>
    rintro s1 ⟨H1, kA, e, ks, I1, sm, g1, g2, m1, m2, rv, pk⟩
    have et : xs.take (0 + vs.length) = xs := List.take_of_length_le (by omega)
    rw [et] at pk
    try dsimp only
    refine wpAny_bind (listItems_at g1 rfl ?_)
    have rho : ∀ y x, kv x y H1 → rk x = rk (Classical.epsilon fun x => kv x y H1) := fun y x hx => K.one _ _ _ _ hx (Classical.epsilon_spec (p := fun x => kv x y H1) ⟨x, hx⟩)
    refine key_end K hr I1 g1 g2 hne (f1 _ m1) (f2 _ m2) rv rx pk.length hz (fun y => rk (Classical.epsilon fun x => kv x y H1)) (fun y hy => ?_) fun qs s' a1 a2 a3 => h (qs.map Prod.snd) H1 s' sm m2 ?_ ?_ a3
    · obtain ⟨x, hx⟩ := paired_left pk y hy
      exact ⟨x, hx, rho y x hx⟩
    · have q := a1.map Prod.snd
      rw [List.map_snd_zip (by rw [pk.length]; exact Nat.le_refl _)] at q
      exact q
    · rw [List.pairwise_map]
      refine a2.imp_of_mem fun {p q} hp hq z => ?_
      rw [rho _ _ (paired_zip pk _ (a1.mem_iff.mp hp)), rho _ _ (paired_zip pk _ (a1.mem_iff.mp hq))]
      exact z
/-- sorted(xs, key=f) -/
def rSortedF (K : PySem.W.Frag) (f : Addr) (sp : Sp) {R : Type} (rk : V → R) (kv : V → V → Hp → Prop) (ltr : R → R → Bool) : List V → List V → Hp → VK → Prop := fun vs zs H Q => ∃ (a : Addr) (xs : List V), vs = [.ref a] ∧ zs = [.ref f] ∧ SqL K H a xs ∧
  (∀ x ∈ xs, ∀ H', Same H H' → ∀ Q : VK, (∀ y H'', Same H' H'' → kv x y H'' → Q y H'') → sp [x] H' Q E0) ∧
  ∀ (ys : List V) (p : Addr) (H' : Hp), Same H H' → H' p = none → ys.Perm xs → ys.Pairwise (fun x y => ltr (rk y) (rk x) = false) → Q (.ref p) (upd H' p (.lst ys))
theorem cr_sortedF {f : Addr} {fd : FuncData} {ps : List Str} {sp : Sp} {k : Nat} (F : FnOk X.prog X.w X.K X.mg X.base CX0 k f fd ps sp) (hb : Binds X.K fd ps []) (hr : Room (k + 8) X.A) (K : KeyKind X rk kv ltr) : CallRK X (.builtin "sorted") [Str.ofString "key"] (rSortedF X.K f sp rk kv ltr) := by
  intro pins s σ H ws zs us ts Q I r rz h
  obtain ⟨l, xs, rfl, rfl, hl, hsp, q⟩ := h
  obtain rfl := Vals.ref1 r
  obtain ⟨w1, rfl, ew⟩ := vals1 rz
  obtain rfl : w1 = Value.ref f := ew
  obtain ⟨vs, rx, pl, hz⟩ := I.list hl
  have lv : vs.length = xs.length := rx.length.symm
  have r2 : Room (k + 6) X.A.in1.in1 := (show Room (k + 6 + 1) X.A.in1 from Room.in1 hr).in1
  refine call_function_entry_kw kind_sorted plain_sorted entry_sorted (ksk_s1 _ _) ?_
  unfold Builtin.«sorted»
  refine wpAny_bind (m := checkCount "sorted" 1 1 _) (wpAny_pure ?_)
  refine wpAny_bind (collect_list pl.isList ?_ (by rw [lv]; exact hz))
  refine wpAny_bind (wpAny_newList ?_ (by rw [lv]; exact hz))
  generalize hg : (s.heap.push (seqObj "list" #[] 0)).update s.heap.objs.size (Obj.mapSeq (· ++ vs.toArray)) = g
  have gs : g.objs.size = s.heap.objs.size + 1 := by rw [← hg, Heap.size_update, size_push']
  have keep : ∀ b o, s.heap.get? b = some o → g.get? b = some o := fun b o e => by
    rw [← hg, Heap.get?_update_ne _ _ _ _ (Nat.ne_of_lt (Heap.lt_size e))]
    exact Heap.get?_push_of_some _ e
  have I1 : Inv X pins σ H { s with heap := g } := I.kept (t' := s.toks) keep
  have ho : (g.push (seqObj "list" vs.toArray 0)).get? g.objs.size = some (seqObj "list" vs.toArray 0) := Heap.get?_push_size _ rfl
  have I2 : Inv X pins σ H { s with heap := g.push (seqObj "list" vs.toArray 0) } := I1.kept (t' := s.toks) fun b o e => Heap.get?_push_of_some _ e
  have f2 : ∀ H', H' g.objs.size = none → FpOk X pins H' g.objs.size := fun H' n => I1.fpOk (s := { s with heap := g }) (Nat.le_refl _) n
  have n2 : H g.objs.size = none := I1.hok.fresh (Nat.le_refl _)
  refine wpAny_bind (wpAny_holding (wpAny_call_entry_kw (T := "list") (s := { s with heap := g.push (seqObj "list" vs.toArray 0) }) slot_list_sort ⟨_, ho, rfl⟩ entry_list_sort ?body (ksk_l1 _ _)))
  case body =>
    show wpAny _ X.A.in1.in1 (Builtin.«list.sort» ⟨[.ref g.objs.size], [(Str.ofString "key", .ref f)]⟩) _ _ _
    rw [ksk_t1]
    unfold ksk_tree
    have s1 := Heap.SameBut.update (g.push (seqObj "list" vs.toArray 0)) g.objs.size (Obj.mapSeq fun _ => (#[] : Array Value))
    obtain ⟨e1, g1⟩ : ∃ e1, ((g.push (seqObj "list" vs.toArray 0)).update g.objs.size (Obj.mapSeq fun _ => (#[] : Array Value))).get? g.objs.size = some (seqObj "list" #[] e1) := ⟨_, get?_update_seq ho fun _ => #[]⟩
    generalize hg2 : (g.push (seqObj "list" vs.toArray 0)).update g.objs.size (Obj.mapSeq fun _ => (#[] : Array Value)) = g2 at s1 g1
    have gs2 : g2.objs.size = g.objs.size + 1 := by rw [← hg2, Heap.size_update, size_push']
    have fa := f2 H n2
    have I3 : Inv X pins σ H { s with heap := g2 } := I2.turned (t' := s.toks) (fun b o hb e => (s1.2 b hb).trans e) fa.1 fa.2.1 fa.2.2.2.1 fa.2.2.2.2.1 fa.2.2.2.2.2
    refine wpAny_bind (listItems_at ho rfl ?_)
    refine wpAny_bind (listUpdate_at ho rfl ?_ (by rw [List.size_toArray, lv]; exact hz) (Nat.zero_le _))
    rw [hg2]
    refine wpAny_bind (seqEpoch_at g1 rfl ?_)
    refine wpAny_bind (wpAny_newTuple ?_ (by show vs.length ≤ _; rw [lv]; exact hz))
    have I4 : Inv X pins σ H { s with heap := g2.push (seqObj "tuple" vs.toArray 0) } := I3.kept (t' := s.toks) fun b o e => Heap.get?_push_of_some _ e
    generalize hg3 : g2.push (seqObj "tuple" vs.toArray 0) = g3 at I4
    have gs3 : g3.objs.size = g2.objs.size + 1 := by rw [← hg3, size_push']
    have e3 : g3.get? g.objs.size = some (seqObj "list" #[] e1) := by rw [← hg3]; exact Heap.get?_push_of_some _ g1
    refine wpAny_bind (wpAny_newList ?_ (Nat.zero_le _))
    refine wpAny_holding ?_
    have I5 : Inv X pins σ H { s with heap := g3.push (seqObj "list" #[] 0) } := I4.kept (t' := s.toks) fun b o e => Heap.get?_push_of_some _ e
    have f1 : ∀ H', H' g3.objs.size = none → FpOk X pins H' g3.objs.size := fun H' n => I4.fpOk (s := { s with heap := g3 }) (Nat.le_refl _) n
    have hX := I.ok.frames
    refine key_rest F (by rw [← hX]) (r2.mono (by omega)) hb K (r2.mono (by omega)) I5 (Heap.get?_push_size _ rfl) (Heap.get?_push_of_some _ e3) (fun z => by have z' : (g3.objs.size : Nat) = g.objs.size := z; omega) f1 f2 (I4.hok.fresh (Nat.le_refl _)) n2 rx hz hsp fun ys H' s' a1 a2 a3 a4 a5 => ?_
    refine ⟨_, rfl, ?_⟩
    exact wpAny_pure ⟨_, rfl, .ref g.objs.size, _, a5, rfl, q ys _ H' a1 a2 a3 a4⟩
end
end L2.KK
namespace L2.KK
open PySem PySem.Spec PyProof.Rows
section
variable {X : Cx}
/-! ### o[i] of a list, for o[i] op= e -/
/-- o[j], 0 ≤ j, of a list -/
def rGetL (K : PySem.W.Frag) : V → V → Hp → VK → Prop := fun x y H Q => ∃ (p : Addr) (xs : List V) (j : Nat) (v : V), x = .ref p ∧ y = .int (j : Int) ∧ SqL K H p xs ∧ xs[j]? = some v ∧ j < 1000 ∧ Q v H
theorem get_list : PGet X (rGetL X.K) := by
  intro pins s σ H o i ov iv Q I ro ri h
  obtain ⟨p, xs, j, v, rfl, rfl, hl, hj, hb, q⟩ := h
  obtain rfl : ov = Value.ref p := ro
  obtain ⟨t, rfl⟩ := ri
  obtain ⟨its, rv, pl, hz⟩ := I.list hl
  obtain ⟨u, hu, ru⟩ := rv.get hj
  have hlt : j < its.length := (List.getElem?_eq_some_iff.mp hu).1
  refine wpAny_getItem_list (x := u) pl.isList (by omega) (by omega) ?_ ?_ 
  all_goals first
    | exact ⟨v, H, I, ru, q⟩
    | (simp; omega)
    | simpa using hu
/-! ### keys that are ints -/
def kInt (g : V → Int) : V → V → Hp → Prop := fun x y _ => y = .int (g x)
theorem key_int (g : V → Int) : KeyKind X g (kInt g) (fun i j => decide (i < j)) where
  grow := fun _ _ _ _ _ h => h
  one := fun x x' y H h h' => by
    have a : y = .int (g x) := h
    have b : y = .int (g x') := h'
    rw [a] at b
    injection b
  swo := ⟨fun x y h => by
    have := of_decide_eq_true h
    exact decide_eq_false (by omega), fun x y z h1 h2 => by
    have a := of_decide_eq_false h1
    have b := of_decide_eq_false h2
    exact decide_eq_false (by omega)⟩
  cmp := fun pins σ H s A us ρ hr I h2 hu => by
    have ex : ∀ u ∈ us, ∃ t, u = .int (ρ (vOf u)) t := fun u m => by
      obtain ⟨r, x, hx, e⟩ := hu u m
      have e2 : vOf u = .int (g x) := hx
      rw [e2] at r
      obtain ⟨t, et⟩ := r
      exact ⟨t, by rw [← e]; exact et⟩
    have all : ∀ l : List Value, (∀ u ∈ l, ∃ t, u = .int (ρ (vOf u)) t) → IntsAre l (l.map fun u => ρ (vOf u)) := by
      intro l
      induction l with
      | nil => intro _; exact .nil
      | cons u l ih =>
        intro h
        rw [List.map_cons]
        obtain ⟨t, e⟩ := h u List.mem_cons_self
        have q : IntsAre (.int (ρ (vOf u)) t :: l) (ρ (vOf u) :: l.map fun u => ρ (vOf u)) := .cons _ _ (ih fun v hv => h v (List.mem_cons_of_mem _ hv))
        rw [← e] at q
        exact q
    obtain ⟨κ, k1, k2⟩ := SrtO.ints_sortable (prog := X.prog) (w := X.w) (A := A) (s := s) (a := 0) (all us ex) h2 s.heap fun _ _ _ e => e
    refine ⟨κ, k1, fun p q hp hq => ?_⟩
    have q1 := k2 p q hp hq
    have ip : ∀ u ∈ us, SrtO.iv u = ρ (vOf u) := fun u m => by
      obtain ⟨t, e⟩ := ex u m
      have q : SrtO.iv (.int (ρ (vOf u)) t) = ρ (vOf u) := rfl
      rw [← e] at q
      exact q
    have el : SrtO.lt2 SrtO.ltIv p q = decide (ρ (vOf p.1) < ρ (vOf q.1)) := by
      show decide (SrtO.iv p.1 < SrtO.iv q.1) = _
      rw [ip _ hp, ip _ hq]
    rw [el] at q1
    exact q1

/-! ### keys (len(lot), lot), lot a tuple of ints -/
def ltLot (a b : List Int) : Bool := if a.length = b.length then HT.lexLt a b else decide (a.length < b.length)
def kLot (K : PySem.W.Frag) (rk : V → List Int) : V → V → Hp → Prop := fun x y H => ∃ t p, x = .ref t ∧ y = .ref p ∧ SqT K H t ((rk x).map V.int) ∧ H p = some (.tup [.int ((rk x).length : Int), .ref t])
theorem lexLt_self : ∀ l : List Int, HT.lexLt l l = false
  | [] => rfl
  | x :: l => by rw [HT.lexLt_cons, if_pos rfl, lexLt_self l]
theorem same_seqT {K : PySem.W.Frag} {H H' : Hp} {a : Addr} {xs : List V} (e : Same H H') (h : SqT K H a xs) : SqT K H' a xs := by
  rcases h with (h | ⟨o, h⟩) | h
  · exact .inl (.inl (e _ _ h))
  · exact .inl (.inr ⟨o, e _ _ h⟩)
  · exact .inr h
theorem swo_lot : SrtO.Swo ltLot := by
  refine ⟨fun x y h => ?_, fun x y z h1 h2 => ?_⟩
  · unfold ltLot at h ⊢
    by_cases e : x.length = y.length
    · rw [if_pos e] at h
      rw [if_pos e.symm]
      exact NtL.lex_asym _ _ h
    · rw [if_neg e] at h
      rw [if_neg (Ne.symm e)]
      have := of_decide_eq_true h
      exact decide_eq_false (by omega)
  · unfold ltLot at h1 h2 ⊢
    by_cases e1 : y.length = x.length
    · rw [if_pos e1] at h1
      by_cases e2 : z.length = y.length
      · rw [if_pos e2] at h2
        rw [if_pos (e2.trans e1)]
        exact NtL.lex_tr _ _ _ h1 h2
      · rw [if_neg e2] at h2
        have := of_decide_eq_false h2
        rw [if_neg (by omega)]
        exact decide_eq_false (by omega)
    · rw [if_neg e1] at h1
      have := of_decide_eq_false h1
      by_cases e2 : z.length = y.length
      · rw [if_neg (by omega)]
        exact decide_eq_false (by omega)
      · rw [if_neg e2] at h2
        have := of_decide_eq_false h2
        rw [if_neg (by omega)]
        exact decide_eq_false (by omega)
theorem ltLot_anti {a b : List Int} (h1 : ltLot a b = false) (h2 : ltLot b a = false) : a = b := by
  have key : ∀ a b : List Int, a.length = b.length → HT.lexLt a b = false → HT.lexLt b a = false → a = b := by
    intro a
    induction a with
    | nil => intro b h _ _; cases b with
      | nil => rfl
      | cons _ _ => simp at h
    | cons x a ih =>
      intro b h h1 h2
      cases b with
      | nil => simp at h
      | cons y b =>
        rw [HT.lexLt_cons] at h1 h2
        by_cases e : x = y
        · subst e
          rw [if_pos rfl] at h1 h2
          rw [ih b (by simpa using h) h1 h2]
        · rw [if_neg e] at h1
          rw [if_neg (Ne.symm e)] at h2
          have := of_decide_eq_false h1
          have := of_decide_eq_false h2
          exact absurd (by omega) e
  unfold ltLot at h1 h2
  by_cases e : a.length = b.length
  · rw [if_pos e] at h1
    rw [if_pos e.symm] at h2
    exact key a b e h1 h2
  · rw [if_neg e] at h1
    rw [if_neg (Ne.symm e)] at h2
    have := of_decide_eq_false h1
    have := of_decide_eq_false h2
    omega
theorem readsAll_ints {h : Heap} : ∀ {its : List Value} {ns : List Int}, IntsAre its ns → ∃ as, ReadsAll h its (ns.map PyData.int) as
  | _, _, .nil => ⟨_, .nil⟩
  | _, _, .cons n t r => by
    obtain ⟨as, q⟩ := readsAll_ints (h := h) r
    exact ⟨_, .cons (.int n t) q⟩
theorem shaped_ints (ns : List Int) : SeqAt.shaped (.tuple (ns.map PyData.int)) = true := by
  have h := PySem.W.plainAll_map (α := Int) ns
  have d := PySem.W.depthAll_map (α := Int) ns
  have c : PyData.canLayAll0 (ns.map PyData.int) = true := by
    induction ns with
    | nil => rfl
    | cons n ns ih =>
      rw [List.map_cons]
      unfold PyData.canLayAll0
      rw [ih (PySem.W.plainAll_map (α := Int) ns) (PySem.W.depthAll_map (α := Int) ns)]
      rfl
  unfold SeqAt.shaped
  rw [Bool.and_eq_true]
  refine ⟨?_, decide_eq_true ?_⟩
  · unfold PyData.canLay0
    exact c
  · unfold PyData.depth
    have e : PySem.W.Datum.depth Int = 0 := rfl
    rw [e] at d
    have d' : PyData.depthAll (ns.map PyData.int) ≤ 0 := d
    omega
theorem key_lot (rk : V → List Int) : KeyKind X rk (kLot X.K rk) ltLot where
  grow := fun x y H H' e ⟨t, p, h1, h2, h3, h4⟩ => ⟨t, p, h1, h2, same_seqT e h3, e _ _ h4⟩
  one := fun x x' y H ⟨t, p, h1, h2, h3, h4⟩ ⟨t', p', k1, k2, k3, k4⟩ => by
    subst h2
    injection k2 with e
    subst e
    rw [h4] at k4
    injection k4 with e
    injection e with e
    injection e with _ e
    injection e with e _
    rw [h1, k1, e]
  swo := swo_lot
  cmp := fun pins σ H s A us ρ hr I h2 hu => by
    -- what each key is
    have at_ : ∀ u ∈ us, ∃ (p : Addr) (o : Obj) (t : Addr) (tk : Tok) (n : Nat) (its : List Value), u = .ref p ∧ s.heap.get? p = some o ∧ o.cls = .type "tuple" ∧ o.data = .seq (List.toArray [.int ((ρ (vOf u)).length : Int) tk, .ref t]) n ∧
        IsTup s.heap t its.toArray ∧ IntsAre its (ρ (vOf u)) := fun u m => by
      obtain ⟨r, x, ⟨t, p, e1, e2, h3, h4⟩, e⟩ := hu u m
      rw [e2] at r
      obtain ⟨its, rv, pt, _⟩ := I.tuple h3
      obtain ⟨_, its2, rv2, o, ho, hc, n, hd⟩ := I.hok _ _ h4
      obtain ⟨u1, u2, rfl, r1, r2⟩ := vals2 rv2
      obtain ⟨tk, rfl⟩ := r1
      obtain rfl : u2 = Value.ref t := r2
      have er : u = Value.ref p := r
      refine ⟨p, o, t, tk, n, its, er, ho, hc, ?_, pt, ?_⟩
      · rw [← e]
        exact hd
      · rw [← e]
        have q := intsAre_of rv
        simpa using q
    have firsts : ∀ l : List Value, (∀ u ∈ l, u ∈ us) → ∃ fs : List Value, PySem.W.KatTups s.heap l fs ∧ fs.length = l.length ∧ ∀ f ∈ fs, ∃ i t, f = Value.int i t := by
      intro l
      induction l with
      | nil => intro _; exact ⟨[], PySem.W.KatTups.nil, rfl, fun _ h => nomatch h⟩
      | cons u l ih =>
        intro h
        obtain ⟨fs, k1, k2, k3⟩ := ih fun v hv => h v (List.mem_cons_of_mem _ hv)
        obtain ⟨p, o, t, tk, n, its, rfl, ho, hc, hd, _, _⟩ := at_ u (h u List.mem_cons_self)
        refine ⟨_ :: fs, PySem.W.KatTups.cons ho hc hd rfl k1, by rw [List.length_cons, List.length_cons, k2], fun f hf => ?_⟩
        rcases List.mem_cons.mp hf with hf | hf
        · exact ⟨_, _, hf⟩
        · exact k3 f hf
    obtain ⟨fs, k1, k2, k3⟩ := firsts us fun _ h => h
    refine ⟨tuples' true, fun Q E hq => ?_, fun p q hp hq => ?_⟩
    · refine PySem.W.kat_kind (T := .type "int") k1 (by omega) (fun f hm => ?_) (by rfl) ?_
      · obtain ⟨x, t, rfl⟩ := k3 f hm
        exact PySem.W.Looks.now
      · have e : (Value.type "int" != Value.type "tuple") = true := by first | decide +kernel | rfl | decide
        rw [e]
        exact hq
    · obtain ⟨p1, o1, t1, tk1, n1, its1, e1, ho1, hc1, hd1, pt1, ia1⟩ := at_ _ hp
      obtain ⟨p2, o2, t2, tk2, n2, its2, e2, ho2, hc2, hd2, pt2, ia2⟩ := at_ _ hq
      show wpAny _ _ (keyLt' (tuples' true) p.1 q.1) (fun r s' => s' = s ∧ r = ltLot (ρ (vOf p.1)) (ρ (vOf q.1))) _ s
      generalize ρ (vOf p.1) = a at *
      generalize ρ (vOf q.1) = b at *
      rw [e1, e2]
      have un := hr.un
      refine PySem.W.kat_lt ho1 hd1 ho2 hd2 ?_
      show PySem.W.KatLex X.prog X.w A true (decide (2 < 2)) _ [(.int (a.length : Int) tk1, .int (b.length : Int) tk2), (.ref t1, .ref t2)] 0 s
      refine PySem.W.kat_cons (SeqAt.EqAt.int_int _ tk1 _ tk2 X.prog X.w _ _ ?_)
      refine PySem.W.kat_go (fun x1 => ?_) (fun x1 => ?_)
      · have el : a.length = b.length := by
          have := eq_of_beq x1
          omega
        refine PySem.W.kat_yes (PySem.W.kat_cons ?_)
        obtain ⟨as, ra⟩ := readsAll_ints (h := s.heap) ia1
        obtain ⟨bs, rb⟩ := readsAll_ints (h := s.heap) ia2
        obtain ⟨o3, g3, c3, m3, d3⟩ := id pt1
        obtain ⟨o4, g4, c4, m4, d4⟩ := id pt2
        have R1 : Reads s.heap (.ref t1) (.tuple (a.map PyData.int)) as := .tuple g3 c3 d3 (by simpa using ra)
        have R2 : Reads s.heap (.ref t2) (.tuple (b.map PyData.int)) bs := .tuple g4 c4 d4 (by simpa using rb)
        refine SeqAt.eqAt_reads _ _ A s _ _ _ _ R1 R2 (SeqAt.canLay_of_shaped (shaped_ints a)) (SeqAt.canLay_of_shaped (shaped_ints b)) (SeqAt.room_of_shaped (shaped_ints a) (by omega)) X.prog X.w _ _ ?_
        have ev : PyData.eqv (.tuple (a.map PyData.int)) (.tuple (b.map PyData.int)) = decide (a = b) := by
          show PyData.eqvAll _ _ = _
          exact PySem.W.ked_eqvAll a b
        rw [ev]
        refine PySem.W.kat_go (fun x2 => ?_) (fun x2 => ?_)
        · have eab : a = b := of_decide_eq_true x2
          refine PySem.W.kat_yes (PySem.W.kat_nil ⟨rfl, ?_⟩)
          unfold ltLot
          rw [if_pos el, eab, lexLt_self]
          rfl
        · refine PySem.W.kat_no (PySem.W.kat_one _ _ ?_)
          refine HT.lt_tupInts pt1 pt2 (by simpa using ia1) (by simpa using ia2) (by omega) ⟨rfl, ?_⟩
          unfold ltLot
          rw [if_pos el]
      · have el : ¬ a.length = b.length := fun z => by
          have : ¬ ((a.length : Int) == (b.length : Int)) = true := by rw [x1]; exact Bool.false_ne_true
          exact this (by rw [z]; exact beq_self_eq_true _)
        refine PySem.W.kat_no ?_
        show wpAny _ _ (oneLt' true _ _) _ _ _
        refine oneLt_int ⟨rfl, ?_⟩
        unfold ltLot
        rw [if_neg el]
        exact decide_eq_decide.mpr (by omega)
end
end L2.KK
namespace L2.KK
open PySem PySem.Spec PyProof.Rows
abbrev emptySet (w : World) : Obj := { cls := .type "set", dict := none, data := .set #[] 0 (.fresh 0 0 (!w.params.followText "set-order")) }
section
variable {P : Program} {w : World} {A : Around} {E : Value → Shared → Prop} {s : Shared}
/-- set(xs), xs a list of ints -/
theorem set_of_ints {l : Addr} {items : Array Value} (ns : List Int) {Q : Value → Shared → Prop} (hh : A.handled = none) (hl : s.heap.IsList l items) (hit : IntsAre items.toList ns) (hb : ns.length + 1 < scanBound)
    (h : ∀ (h' : Heap) (tk c : Nat), SetR w h' s.heap.objs.size (fun j => decide (j ∈ ns)) c → c ≤ ns.length → (∀ b o, s.heap.get? b = some o → h'.get? b = some o) → Q (.ref s.heap.objs.size) { s with heap := h', toks := tk }) :
    wpAny (model P w) A (call (.type "set") [.ref l]) Q E s := by
  have hisz : items.size = ns.length := by
    have q := IntsAre.length hit
    rw [Array.length_toList] at q
    exact q
  obtain ⟨c, tl, hmro⟩ := PySem.F.called_set.mro
  have hmade := PySem.F.called_set.made
  have hsub := PySem.F.called_set.sub
  refine wpAny_call (codeAny_of_tree ?_)
  show wpAny _ _ (callAny (.type "set") _) _ _ _
  refine wpAny_pure ⟨Code.quiet_builtin _ (by decide +kernel), codeAny_builtin PySem.F.entry_type_call ?_⟩
  rw [Around.under_plain (weight_type_call_type "set" [.ref l] []) rfl]
  have h1 := PySem.F.called_set.notType
  have h2 := PySem.F.called_set.canCreate
  have hct := PySem.F.typeCall_set_1 (.ref l)
  repeat (any_goals (first | assumption | wp_step))
  refine codeAny_mono (code_set_led1 (.ref l) (E := E) (Q₁ := fun obj s₁ => obj = .ref s.heap.objs.size ∧ s₁ = { s with heap := s.heap.push (emptySet w) }) ⟨rfl, rfl⟩) fun r s₁ hr => ?_
  cases r with
  | error e => exact hr
  | ok fl =>
    cases fl with
    | ret obj =>
      obtain ⟨rfl, rfl⟩ := hr
      have hS : (s.heap.push (emptySet w)).get? s.heap.objs.size = some (emptySet w) := Heap.get?_push_size _ rfl
      have hT : Shared.TypeIs { s with heap := s.heap.push (emptySet w) } (.ref s.heap.objs.size) "set" := ⟨_, hS, rfl⟩
      have hli := PySem.F.called_set.init.lookup
      have hbi := PySem.F.called_set.init.bind (.ref s.heap.objs.size)
      repeat (any_goals (first | assumption | wp_step))
      refine codeAny_mono (codeAny_call_builtin (R := wants (fun r s₂ => r = .none ∧ ∃ h' tk c, s₂ = { s with heap := h', toks := tk } ∧ SetR w h' s.heap.objs.size (fun j => decide (j ∈ ns)) c ∧ c ≤ ns.length ∧
          (∀ b o, s.heap.get? b = some o → h'.get? b = some o)) E) PySem.F.called_set.init.plain PySem.F.entry_set_init (PySem.check_set_init_1 hT ?_)) fun r₂ s₂ hr₂ => ?_
      · obtain ⟨ol, hol, hcl, nl, hdl⟩ := id hl
        obtain ⟨ocls, odict, odata, oslots⟩ := ol
        simp only at hcl hdl
        subst hcl; subst hdl
        have hol' : (s.heap.push (emptySet w)).get? l = some { cls := .type "list", dict := odict, data := .seq items nl, slots := oslots } := Heap.get?_push_of_some _ hol
        have hsls := PySem.F.sub_list_set
        have hslf := PySem.F.sub_list_frozenset
        have hne : (Value.type "list" == Value.type "dict") = false := by decide
        have hl1 : (s.heap.push (emptySet w)).IsList l items := hl.push _
        unfold Builtin.«set.__init__» noKeywords Builtin.Frozenset.updateFrom
        generalize hPI : pyIter = PI
        wp_walk
        subst hPI
        refine wpAny_pyIter_list hl1 ?_
        refine wpAny_bind (wpAny_runValue ?_)
        have hlS : l < s.heap.objs.size := Heap.lt_size hol
        have hh3 : A.in1.in1.in1.handled = none := by simp [hh]
        have hz1 : (s.heap.push (emptySet w)).objs.size = s.heap.objs.size + 1 := Heap.size_push ..
        have hneI : l ≠ (s.heap.push (emptySet w)).objs.size := by
          rw [hz1]; exact Nat.ne_of_lt (Nat.lt_succ_of_lt hlS)
        have hSf : s.heap.objs.size ∉ [(s.heap.push (emptySet w)).objs.size, l] := by
          rw [hz1]; simp only [List.mem_cons, List.not_mem_nil, or_false, not_or]
          exact ⟨Nat.ne_of_lt (Nat.lt_succ_self _), Nat.ne_of_gt hlS⟩
        have hval : ∀ (i : Nat) (v : Value), items[i]? = some v → ∃ k t, ns[i]? = some k ∧ v = .int k t := fun i v hv => by
          have hi : i < ns.length := by rw [← hisz]; exact (Array.getElem?_eq_some_iff.mp hv).1
          obtain ⟨t, e⟩ := IntsAre.int_at hit i v (by rw [Array.getElem?_toList]; exact hv)
          exact ⟨ns[i], t, List.getElem?_eq_getElem hi, by rw [e, List.getD_eq_getElem?_getD, List.getElem?_eq_getElem hi]; rfl⟩
        refine set_update_ints ((Walks.list hh3 _ l hneI items).toS) s.heap.objs.size hSf ns hisz hb hval (items.size - 0) 0 _ (by omega) (Nat.zero_le _) ⟨⟨_, Heap.get?_push_size _ rfl, rfl, rfl⟩, (hl1.push _)⟩ ?hS0 ?hR
        case hS0 => exact ⟨0, Nat.le_refl 0, setR_new_at (Heap.get?_push_of_some _ hS)⟩
        case hR =>
          intro s' c' hm hc' hS'
          obtain ⟨h', g2, d', tk', os'⟩ := s'
          have eg : g2 = s.gens := hm.gens
          have ed : d' = s.drawn := hm.drawn
          have eo : os' = s.os := hm.os
          subst eg; subst ed; subst eo
          show wpAny _ _ _ _ _ _
          refine wpAny_pure ?_
          show wpAny _ _ (ret Value.none) _ _ _
          rw [hisz] at hc'
          refine wpAny_pure ⟨rfl, h', tk', c', rfl, hS', hc', fun b o e => ?_⟩
          have hb0 : b < s.heap.objs.size := Heap.lt_size e
          refine hm.heap b o (fun hmem => ?_) (Heap.get?_push_of_some _ (Heap.get?_push_of_some _ e))
          rcases List.mem_cons.mp hmem with z | z
          · exact Nat.ne_of_lt hb0 z
          · have e1 : b = s.heap.objs.size + 1 := (List.mem_singleton.mp z).trans hz1
            exact absurd hb0 (by rw [e1]; exact Nat.not_lt.mpr (Nat.le_succ _))
      · cases r₂ with
        | error e => exact hr₂
        | ok fl₂ =>
          cases fl₂ with
          | ret r =>
            obtain ⟨rfl, h', tk, c', rfl, hS', hc', hk'⟩ := hr₂
            repeat (any_goals (first | assumption | wp_step))
            exact h _ _ _ hS' hc' hk'
          | _ => exact hr₂.elim
    | _ => exact hr.elim
end
section
variable {X : Cx}
def rSetL (K : PySem.W.Frag) (w : World) : List V → Hp → VK → Prop := fun vs H Q => ∃ (a : Addr) (ns : List Int), vs = [.ref a] ∧ SqL K H a (ns.map V.int) ∧ ns.length ≤ 4000 ∧
  ∀ (p : Addr) (c : Nat), H p = none → c ≤ ns.length → Q (.ref p) (upd H p (SetO w p (fun j => decide (j ∈ ns)) c))
theorem cr_setL (hc : X.calm = true) : CallR X (.type "set") (rSetL X.K X.w) := by
  intro pins s σ H vs us Q I r h
  obtain ⟨a, ns, rfl, hs, hz, q⟩ := h
  obtain rfl := Vals.ref1 r
  obtain ⟨its, rv, pl, _⟩ := I.list hs
  have hi : IntsAre its ns := rv.ints
  have hn : H s.heap.objs.size = none := I.hok.fresh (Nat.le_refl _)
  refine set_of_ints (P := X.prog) ns (I.ok.hd hc) pl.isList (by simpa using hi) (Nat.lt_of_le_of_lt (Nat.succ_le_succ hz) (by decide)) fun h' tk c R hcl k => ?_
  exact ⟨.ref s.heap.objs.size, _, I.laid (t' := tk) k (Nat.le_refl _) (setO_new R), rfl, q _ c hn hcl⟩
end
end L2.KK
/-! whole numbers that are not negative; lists made by a comprehension; sorted by a def, two ways -/
namespace L2.KK
open PySem PySem.Spec PyProof.Rows
abbrev nV (n : Nat) : V := .int (n : Int)
def rN (g : Nat → Nat → V) : R2 := fun x y H Q => ∃ a b : Nat, x = nV a ∧ y = nV b ∧ Q (g a b) H
def rNC (C : Nat → Nat → Prop) (g : Nat → Nat → V) : R2 := fun x y H Q => ∃ a b : Nat, x = nV a ∧ y = nV b ∧ C a b ∧ Q (g a b) H
section
variable {X : Cx}
theorem op_andN : OpR X (binaryOp .BitAnd) (rN fun a b => nV (a &&& b)) := by
  intro pins s σ H x y v u Q I rx ry ⟨a, b, e1, e2, q⟩
  refine op_and pins s σ H x y v u Q I rx ry ⟨_, _, e1, e2, ?_⟩
  show Q (V.int (Builtin.bitAnd (a : Int) (b : Int))) H
  rw [PySem.W.os_band]
  exact q
theorem op_orN : OpR X (binaryOp .BitOr) (rN fun a b => nV (a ||| b)) := by
  intro pins s σ H x y v u Q I rx ry ⟨a, b, e1, e2, q⟩
  refine op_or pins s σ H x y v u Q I rx ry ⟨_, _, e1, e2, ?_⟩
  show Q (V.int (Builtin.bitOr (a : Int) (b : Int))) H
  rw [bitOr_nn (Int.natCast_nonneg a) (Int.natCast_nonneg b), Int.toNat_natCast, Int.toNat_natCast]
  exact q
theorem op_xorN : OpR X (binaryOp .BitXor) (rN fun a b => nV (a ^^^ b)) := by
  intro pins s σ H x y v u Q I rx ry ⟨a, b, e1, e2, q⟩
  refine op_xor pins s σ H x y v u Q I rx ry ⟨_, _, e1, e2, ?_⟩
  have e : Builtin.bitXor (a : Int) (b : Int) = ((a ^^^ b : Nat) : Int) := by
    show Builtin.bitOr (a : Int) (b : Int) - Builtin.bitAnd (a : Int) (b : Int) = _
    rw [bitOr_nn (Int.natCast_nonneg a) (Int.natCast_nonneg b), Int.toNat_natCast, Int.toNat_natCast, PySem.W.os_band]
    have := MK.or_and_xor a b
    omega
  show Q (V.int (Builtin.bitXor (a : Int) (b : Int))) H
  rw [e]
  exact q
theorem op_addNN : OpR X (binaryOp .Add) (rN fun a b => nV (a + b)) := by
  intro pins s σ H x y v u Q I rx ry ⟨a, b, e1, e2, q⟩
  refine op_add pins s σ H x y v u Q I rx ry ⟨_, _, e1, e2, ?_⟩
  show Q (V.int ((a : Int) + (b : Int))) H
  rw [← Int.natCast_add]
  exact q
theorem op_subNN : OpR X (binaryOp .Sub) (rNC (fun a b => b ≤ a) fun a b => nV (a - b)) := by
  intro pins s σ H x y v u Q I rx ry ⟨a, b, e1, e2, c, q⟩
  refine op_sub pins s σ H x y v u Q I rx ry ⟨_, _, e1, e2, ?_⟩
  show Q (V.int ((a : Int) - (b : Int))) H
  rw [show (a : Int) - (b : Int) = ((a - b : Nat) : Int) by omega]
  exact q
theorem op_shrNN : OpR X (binaryOp .RShift) (rN fun a b => nV (a >>> b)) := by
  intro pins s σ H x y v u Q I rx ry ⟨a, b, e1, e2, q⟩
  refine op_shr pins s σ H x y v u Q I rx ry ⟨_, _, e1, e2, Int.natCast_nonneg b, ?_⟩
  show Q (V.int ((a : Int) / (2 : Int) ^ (b : Int).toNat)) H
  rw [Int.toNat_natCast, show (a : Int) / (2 : Int) ^ b = ((a >>> b : Nat) : Int) by rw [Nat.shiftRight_eq_div_pow, Int.natCast_ediv, Int.natCast_pow]; rfl]
  exact q
/-- 1 << k -/
theorem op_shlNN : OpR X (binaryOp .LShift) (rNC (fun a b => b ≤ 1000000 ∧ a < 18446744073709551616) fun a b => nV (a * 2 ^ b)) := by
  intro pins s σ H x y v u Q I rx ry ⟨a, b, e1, e2, ⟨c1, c2⟩, q⟩
  refine op_shl pins s σ H x y v u Q I rx ry ⟨_, _, e1, e2, ⟨Int.natCast_nonneg b, by omega, by omega⟩, ?_⟩
  show Q (V.int ((a : Int) * (2 : Int) ^ (b : Int).toNat)) H
  rw [Int.toNat_natCast, show (a : Int) * (2 : Int) ^ b = ((a * 2 ^ b : Nat) : Int) by rw [Int.natCast_mul, Int.natCast_pow]; rfl]
  exact q

/-! ### comprehensions whose turns change nothing that stood -/
variable {K : PySem.W.Frag} {H H1 : Hp} {D : Addr} {σ : St} {k : Nat} {tt : TT} {te : TE} {Qd : Hp → Prop}
theorem paired_snoc {α β : Type} {F : α → β → Prop} {a : List α} {b : List β} {x : α} {y : β} (h : Paired F a b) (r : F x y) : Paired F (a ++ [x]) (b ++ [y]) := paired_append h (.cons r .nil)
theorem same_fresh {H H' : Hp} {p : Addr} {o : HO} (e : Same H H') (h : H p = none) : Same H (upd H' p o) := fun b u q => by
  rw [upd_ne (ne_of_none q h)]
  exact e b u q
theorem same_new {H : Hp} {p : Addr} {o : HO} (h : H p = none) : Same H (upd H p o) := same_fresh (Same.refl H) h
def NotL : HO → Prop
  | .lst _ => False
  | _ => True
/-- all but lists is as it was -/
def SameT (H H' : Hp) : Prop := ∀ b o, H b = some o → NotL o → H' b = some o
theorem sameT_of {H H' : Hp} (e : Same H H') : SameT H H' := fun b o q _ => e b o q
theorem sameT_lst {H : Hp} {D : Addr} {xs ys : List V} (h : H D = some (.lst xs)) : SameT H (upd H D (.lst ys)) := fun b o q n => by
  have nb : b ≠ D := fun z => by
    rw [z, h] at q
    cases q
    exact n
  rw [upd_ne nb]
  exact q
/-- the turns of a comprehension: sel: which are kept; P i y H: y is what turn i makes -/
structure Turns (H : Hp) (σ : St) (k : Nat) (item : Nat → V) (n : Nat) (tt : TT) (te : TE) (sel : Nat → Bool) (P : Nat → V → Hp → Prop) : Prop where
  mono : ∀ i y H H', SameT H H' → P i y H → P i y H'
  test : ∀ i H', i < n → Same H H' → ∀ Q : Bool → Hp → Prop, (∀ H'', Same H' H'' → Q (sel i) H'') → tt ((σ.set k none).set k (some (item i))) H' Q
  elt : ∀ i H', i < n → sel i = true → Same H H' → ∀ Q : VK, (∀ y H'', Same H' H'' → P i y H'' → Q y H'') → te ((σ.set k none).set k (some (item i))) H' Q
variable {item : Nat → V} {n : Nat} {sel : Nat → Bool} {P : Nat → V → Hp → Prop}
def Made (H : Hp) (D : Addr) (sel : Nat → Bool) (P : Nat → V → Hp → Prop) (i : Nat) (H' : Hp) : Prop := Same H H' ∧ ∃ ys, H' D = some (.lst ys) ∧ ys.length ≤ i ∧ Paired (fun y j => P j y H') ys ((List.range i).filter sel)
theorem Turns.go (T : Turns H σ k item n tt te sel P) (hD : H D = none) (hz : n ≤ sizeLine) {i : Nat} {H' : Hp} (hi : i < n) (M : Made H D sel P i H') :
    gName k (item i) (wipe σ [k]) H' fun σ2 H2 => wipe σ2 [k] = wipe σ [k] ∧ tt σ2 H2 fun b H3 =>
      if b = true then te σ2 H3 fun y H4 => ∃ acc, H4 D = some (.lst acc) ∧ acc.length < sizeLine ∧ Made H D sel P (i + 1) (upd H4 D (.lst (acc ++ [y]))) else Made H D sel P (i + 1) H3 := by
  obtain ⟨sm, ys, hd, hl, pr⟩ := M
  show wipe ((σ.set k none).set k (some (item i))) [k] = wipe σ [k] ∧ tt ((σ.set k none).set k (some (item i))) H' _
  refine ⟨by show ((σ.set k none).set k (some (item i))).set k none = σ.set k none; rw [List.set_set, List.set_set], ?_⟩
  refine T.test i H' hi sm _ fun H3 s3 => ?_
  have rs : (List.range (i + 1)).filter sel = (List.range i).filter sel ++ (if sel i = true then [i] else []) := by
    rw [List.range_succ, List.filter_append]
    rw [List.filter_cons, List.filter_nil]
  cases hsel : sel i with
  | true =>
    refine iteT ?_
    refine T.elt i H3 hi hsel (sm.trans s3) _ fun y H4 s4 p => ?_
    refine ⟨ys, s4 _ _ (s3 _ _ hd), by omega, same_fresh ((sm.trans s3).trans s4) hD, ys ++ [y], upd_same, by rw [List.length_append]; show ys.length + 1 ≤ i + 1; omega, ?_⟩
    rw [rs, hsel, if_pos rfl]
    have s5 := sameT_lst (ys := ys ++ [y]) (s4 _ _ (s3 _ _ hd))
    exact paired_snoc (Paired.mapP pr fun y j q => T.mono _ _ _ _ s5 (T.mono _ _ _ _ (sameT_of (s3.trans s4)) q)) (T.mono _ _ _ _ s5 p)
  | false =>
    refine iteF ?_
    exact ⟨sm.trans s3, ys, s3 _ _ hd, by omega, by rw [rs, hsel, if_neg Bool.false_ne_true, List.append_nil]; exact Paired.mapP pr fun y j q => T.mono _ _ _ _ (sameT_of s3) q⟩
theorem Turns.start (hD : H D = none) : Made H D sel P 0 (upd H D (.lst [])) := ⟨same_new hD, [], upd_same, Nat.zero_le _, .nil⟩
theorem lc_rangeT {lo : Int} (T : Turns H σ k (fun i => .int (lo + i)) n tt te sel P) (hD : H D = none) (hz : n ≤ sizeLine) (hd : ∀ H' ys, Same H H' → H' D = some (.lst ys) → ys.length ≤ n → Paired (fun y j => P j y H') ys ((List.range n).filter sel) → Qd H') :
    ∃ W : Nat → Nat → Hp → Prop, (∃ m, W 0 m (upd H D (.lst []))) ∧ ∀ i m H, W i m H →
      ((Itr lo n).stop i H ∧ Qd H) ∨ ((Itr lo n).go i H ∧ ∃ Nx : Hp → Prop, (∀ H', Nx H' → ∃ m', m' < m ∧ W (i + 1) m' H') ∧ ∀ x H', (Itr lo n).yld i H x H' → gName k x (wipe σ [k]) H' fun σ2 H2 => wipe σ2 [k] = wipe σ [k] ∧ tt σ2 H2 fun b H3 =>
        if b = true then te σ2 H3 fun y H4 => ∃ acc, H4 D = some (.lst acc) ∧ acc.length < sizeLine ∧ Nx (upd H4 D (.lst (acc ++ [y]))) else Nx H3) :=
  lc_range (lo := lo) (n := n) (Made H D sel P) (Turns.start hD) (fun i H' hi M => T.go hD hz hi M) fun H' ⟨a, ys, b, c, d⟩ => hd H' ys a b c d
theorem lc_listT {a : Addr} {xs : List V} (hx : SqL K H a xs) (T : Turns H σ k (fun i => xs.getD i .non) xs.length tt te sel P) (hD : H D = none) (hz : xs.length ≤ sizeLine)
    (hd : ∀ H' ys, Same H H' → H' D = some (.lst ys) → ys.length ≤ xs.length → Paired (fun y j => P j y H') ys ((List.range xs.length).filter sel) → Qd H') :
    ∃ W : Nat → Nat → Hp → Prop, (∃ m, W 0 m (upd H D (.lst []))) ∧ ∀ i m H, W i m H →
      ((Itl K a).stop i H ∧ Qd H) ∨ ((Itl K a).go i H ∧ ∃ Nx : Hp → Prop, (∀ H', Nx H' → ∃ m', m' < m ∧ W (i + 1) m' H') ∧ ∀ x H', (Itl K a).yld i H x H' → gName k x (wipe σ [k]) H' fun σ2 H2 => wipe σ2 [k] = wipe σ [k] ∧ tt σ2 H2 fun b H3 =>
        if b = true then te σ2 H3 fun y H4 => ∃ acc, H4 D = some (.lst acc) ∧ acc.length < sizeLine ∧ Nx (upd H4 D (.lst (acc ++ [y]))) else Nx H3) :=
  lc_list (K := K) (a := a) (xs := xs) (Made H D sel P) (Turns.start hD) (fun i H' _ M => M.1.seq hx) (fun i x H' hi M => by
    obtain ⟨hl, e⟩ := List.getElem?_eq_some_iff.mp hi
    have q := T.go hD hz hl M
    rw [List.getD_eq_getElem?_getD, hi] at q
    exact q) fun H' ⟨a, ys, b, c, d⟩ => hd H' ys a b c d
theorem paired_map_eq {α β : Type} {g : β → α} : ∀ {ys : List α} {l : List β}, Paired (fun y j => y = g j) ys l → ys = l.map g
  | _, _, .nil => rfl
  | _, _, .cons r t => by rw [List.map_cons, ← r, ← paired_map_eq t]
theorem filter_yes (n : Nat) : (List.range n).filter (fun _ => true) = List.range n := List.filter_eq_self.mpr fun _ _ => rfl
theorem map_range_get {α : Type} (xs : List α) (d : α) : (List.range xs.length).map (fun i => xs.getD i d) = xs := by
  apply List.ext_getElem
  · rw [List.length_map, List.length_range]
  · intro i h1 h2
    rw [List.getElem_map, List.getElem_range, List.getD_eq_getElem?_getD, List.getElem?_eq_getElem h2]
    rfl
/-! ### sorted by a def, whatever the ranks -/
variable {f : Addr} {fd : FuncData} {ps : List Str} {sp : Sp} {j : Nat}
def rSortedI (K : PySem.W.Frag) (f : Addr) (sp : Sp) : List V → List V → Hp → VK → Prop := fun vs zs H Q => ∃ g : V → Int, rSortedF K f sp g (kInt g) (fun i j => decide (i < j)) vs zs H Q
def rSortedLot (K : PySem.W.Frag) (f : Addr) (sp : Sp) : List V → List V → Hp → VK → Prop := fun vs zs H Q => ∃ g : V → List Int, rSortedF K f sp g (kLot K g) ltLot vs zs H Q
theorem cr_sortedBy (F : FnOk X.prog X.w X.K X.mg X.base CX0 j f fd ps sp) (hb : Binds X.K fd ps []) (hr : Room (j + 8) X.A) : CallRK X (.builtin "sorted") [Str.ofString "key"] (rSortedI X.K f sp) :=
  fun pins s σ H xs zs us ws Q I r rz ⟨g, h⟩ => cr_sortedF F hb hr (key_int g) pins s σ H xs zs us ws Q I r rz h
theorem cr_sortedLot (F : FnOk X.prog X.w X.K X.mg X.base CX0 j f fd ps sp) (hb : Binds X.K fd ps []) (hr : Room (j + 8) X.A) : CallRK X (.builtin "sorted") [Str.ofString "key"] (rSortedLot X.K f sp) :=
  fun pins s σ H xs zs us ws Q I r rz ⟨g, h⟩ => cr_sortedF F hb hr (key_lot g) pins s σ H xs zs us ws Q I r rz h
/-! ### the state that the law's draws hang on -/
structure Dr (H : Hp) (d c : Addr) : Prop where
  ex : ∃ (ns : List Int) (i r z : Int), H d = some (.lst [.ref c, .int i, .int r, .int z]) ∧ H c = some (.lst (ns.map V.int)) ∧ 0 ≤ i ∧ ns.length ≤ 1000
/-- all but the object at d is as it was -/
def Kp (d : Addr) (H H' : Hp) : Prop := ∀ b o, H b = some o → b ≠ d → H' b = some o
theorem Kp.refl (d : Addr) (H : Hp) : Kp d H H := fun _ _ h _ => h
theorem Kp.trans {d : Addr} {H H1 H2 : Hp} (a : Kp d H H1) (b : Kp d H1 H2) : Kp d H H2 := fun c o h n => b c o (a c o h n) n
theorem Kp.of {d : Addr} {H H' : Hp} (e : Same H H') : Kp d H H' := fun b o h _ => e b o h
theorem Kp.new {d p : Addr} {H H' : Hp} {o : HO} (e : Kp d H H') (h : H p = none) : Kp d H (upd H' p o) := fun b u q n => by
  rw [upd_ne (ne_of_none q h)]
  exact e b u q n
theorem Dr.keep {H H' : Hp} {d c : Addr} (D : Dr H d c) (k : Same H H') : Dr H' d c := by
  obtain ⟨ns, i, r, z, h1, h2, h3, h4⟩ := D.ex
  exact ⟨ns, i, r, z, k _ _ h1, k _ _ h2, h3, h4⟩
theorem Dr.ne {H : Hp} {d c p : Addr} (D : Dr H d c) (h : H p = none) : p ≠ d ∧ p ≠ c := by
  obtain ⟨ns, i, r, z, h1, h2, h3, h4⟩ := D.ex
  exact ⟨(ne_of_none h1 h).symm, (ne_of_none h2 h).symm⟩
/-- another object changes -/
theorem Dr.put {H : Hp} {d c p : Addr} {o : HO} (D : Dr H d c) (h1 : p ≠ d) (h2 : p ≠ c) : Dr (upd H p o) d c := by
  obtain ⟨ns, i, r, z, e1, e2, e3, e4⟩ := D.ex
  exact ⟨ns, i, r, z, by rw [upd_ne h1.symm]; exact e1, by rw [upd_ne h2.symm]; exact e2, e3, e4⟩
theorem Dr.cd {H : Hp} {d c : Addr} (D : Dr H d c) : c ≠ d := by
  obtain ⟨ns, i, r, z, hd, hc, _, _⟩ := D.ex
  rintro rfl
  rw [hd] at hc
  injection hc with e
  injection e with e
  cases ns with
  | nil => cases e
  | cons x l => injection e with e _; cases e
end
end L2.KK
namespace L2.KK
open PySem PySem.Spec PyProof.Rows C8
section
variable {P : Program} {w : World} {K : PySem.W.Frag} {mg : Str → Option Value} {base : Heap}
abbrev FnP (K : PySem.W.Frag) (x qual : Str) (st : Stmt) (f : Addr) (fd : FuncData) : Prop := FunD K x qual (defArgs st) (defBody st) (defScope st) [] [] f fd
/-- the def st stands in the module under its name -/
structure FnAt (K : PySem.W.Frag) (mg : Str → Option Value) (x : Str) (st : Stmt) : Prop where
  ex : ∃ f fd, FnP K x x st f fd ∧ mg x = some (.ref f)
theorem calOf {x : Str} {st : Stmt} {N ps : List Str} {sp : Sp} {k : Nat} (D : FnAt K mg x st) (S : FnScope N ps (defScope st))
    (bn : ∀ (kV doc pm : Value) (an : Option Addr) (cdv ct : Value) (us : List Value), us.length = ps.length → bindArgs (PySem.W.fnOf x x (defArgs st) (defBody st) (defScope st) .none kV doc pm an cdv ct) ⟨us, []⟩ = pure (ps.zip us))
    (len : ∀ vs H Q E, sp vs H Q E → vs.length = ps.length)
    (body : ∀ (f : Addr) (cdv : Value) (A : Around) (outer : List Env) (s : Shared) (H : Hp) (vs : List V) (Q : VK) (E : XK), Room k (A.deeper (envOfC x (defScope st) s.heap.objs.size f cdv)) → sp vs H Q E →
      ∃ t, PSs (cxOf CX0 P w K mg base N x (defScope st) f cdv A outer s H E).nox (defBody st) t ∧ t { nx := fun _ H' => Q .non H', rt := Q } (start N vs) H) : Cal P w K mg base (k + 1) x sp [] := by
  obtain ⟨f, fd, F, m⟩ := D.ex
  refine ⟨f, fd, ps, [], ?_, m, F.kp, F.bindsN bn, .nil⟩
  refine F.ok S len fun cdv A outer s H vs Q E hr hsp => ?_
  obtain ⟨t, h, q⟩ := body f cdv A outer s H vs Q E hr hsp
  exact ⟨t, h.nox, q⟩
/-- the parts of a def that is handed on as a key -/
theorem cal_parts {k : Nat} {x : Str} {sp : Sp} (c : Cal P w K mg base k x sp []) : ∃ (f : Addr) (fd : FuncData) (ps : List Str), FnOk P w K mg base CX0 k f fd ps sp ∧ mg x = some (.ref f) ∧ Binds K fd ps [] := by
  obtain ⟨f, fd, ps, ds, F, m, _, b, d⟩ := c.ex
  cases d
  exact ⟨f, fd, ps, F, m, b⟩
end
end L2.KK
/-! rules whose reading names the written part by a letter: they stand within comprehensions too -/
namespace L2.KK
open PySem PySem.Spec PyProof.Rows C8
section
variable (K : PySem.W.Frag) {X : Cx}
def rLenQ (K : PySem.W.Frag) : List V → Hp → VK → Prop := fun xs H Q => ∃ p ys, xs = [.ref p] ∧ (SqL K H p ys ∨ SqT K H p ys) ∧ Q (.int ys.length) H
def rListQ (K : PySem.W.Frag) : List V → Hp → VK → Prop := fun xs H Q => ∃ p ys, xs = [.ref p] ∧ (SqL K H p ys ∨ SqT K H p ys) ∧ ∀ l, H l = none → Q (.ref l) (upd H l (.lst ys))
def rTupQ (K : PySem.W.Frag) : List V → Hp → VK → Prop := fun xs H Q => ∃ p ys, xs = [.ref p] ∧ ((SqL K H p ys ∧ ∀ l, H l = none → Q (.ref l) (upd H l (.tup ys))) ∨ (SqT K H p ys ∧ Q (.ref p) H))
def tTruQ (K : PySem.W.Frag) (ta : TE) : TT := fun σ H Q => ta σ H fun x H' => ∃ k, TruV K x H' k ∧ Q k H'
theorem ixL (h : X.K = K := by rfl) : IxR X (rIxL K) := by subst h; exact ix_list
theorem ixT (h : X.K = K := by rfl) : IxR X (rIxT K) := by subst h; exact ix_tup
theorem eqD (hu : X.A.units + 64 < cLine) (h : X.K = K := by rfl) : OpR X (compareOp .Eq) (rEqD K) := by subst h; exact op_eqD hu
theorem neD (hu : X.A.units + 64 < cLine) (h : X.K = K := by rfl) : OpR X (compareOp .NotEq) (rNeD K) := by subst h; exact op_neD hu
theorem inSeq (h : X.K = K := by rfl) : OpR X (compareOp .In) (rIn K false) := by subst h; exact op_in_seq
theorem notInSeq (h : X.K = K := by rfl) : OpR X (compareOp .NotIn) (rIn K true) := by subst h; exact op_notIn_seq
theorem catA (h : X.K = K := by rfl) : OpR X (binaryOp .Add) (rCatA K) := by subst h; exact op_catA
theorem slL (h : X.K = K := by rfl) : SlR X (rSlL K) := by subst h; exact sl_list
theorem slT (h : X.K = K := by rfl) : SlR X (rSlA K) := by subst h; exact sl_tupA
theorem crLen (h : X.K = K := by rfl) : CallR X (.builtin "len") (rLenQ K) := by subst h; exact call_len_seq
theorem crList (h : X.K = K := by rfl) : CallR X (.type "list") (rListQ K) := by subst h; exact call_list_of
theorem crTup (h : X.K = K := by rfl) : CallR X (.type "tuple") (rTupQ K) := by subst h; exact call_tuple_of
theorem crSum (h : X.K = K := by rfl) (hc : X.calm = true := by rfl) : CallR X (.builtin "sum") (rSum K) := by subst h; exact cr_sum hc
theorem crMax (h : X.K = K := by rfl) (hc : X.calm = true := by rfl) : CallR X (.builtin "max") (rMax K) := by subst h; exact cr_max hc
theorem crMin (h : X.K = K := by rfl) (hc : X.calm = true := by rfl) : CallR X (.builtin "min") (rMin K) := by subst h; exact cr_min hc
theorem crAny (h : X.K = K := by rfl) (hc : X.calm = true := by rfl) : CallR X (.builtin "any") (rAny K) := by subst h; exact cr_any hc
theorem crAll (h : X.K = K := by rfl) (hc : X.calm = true := by rfl) : CallR X (.builtin "all") (rAll K) := by subst h; exact cr_all hc
theorem crSortI (h : X.K = K := by rfl) : CallR X (.builtin "sorted") (L2.rSortedI K) := by subst h; exact cr_sortedI
theorem crSortP (h : X.K = K := by rfl) : CallR X (.builtin "sorted") (rSortedPO K) := by subst h; exact cr_sortedPO
theorem crIsi (h : X.K = K := by rfl) : CallR X (.builtin "isinstance") (rIsi K) := by subst h; exact call_isi
theorem crSetL (h : X.K = K := by rfl) (hc : X.calm = true := by rfl) : CallR X (.type "set") (rSetL K X.w) := by subst h; exact cr_setL hc
variable {f : Addr} {fd : FuncData} {ps : List Str} {sp : Sp} {j : Nat}
theorem crSortBy (F : FnOk X.prog X.w X.K X.mg X.base CX0 j f fd ps sp) (hb : Binds X.K fd ps []) (hr : Room (j + 8) X.A) (h : X.K = K := by rfl) : CallRK X (.builtin "sorted") [Str.ofString "key"] (rSortedI K f sp) := by subst h; exact cr_sortedBy F hb hr
theorem crSortLot (F : FnOk X.prog X.w X.K X.mg X.base CX0 j f fd ps sp) (hb : Binds X.K fd ps []) (hr : Room (j + 8) X.A) (h : X.K = K := by rfl) : CallRK X (.builtin "sorted") [Str.ofString "key"] (rSortedLot K f sp) := by subst h; exact cr_sortedLot F hb hr
variable {e o : Expr} {es : List Expr} {ta to : TE} {t : TA} {pos apos cpos p : Pos} {name : Str} {T id : String} {r : V → List V → Hp → VK → Prop}
theorem ptTru (ha : PE X e ta) (he : ∀ whole, isTrue e X.env whole = (do let v ← whole; standAt e.pos; holding [v] (truthy v)) := by intro _; rfl) (h : X.K = K := by rfl) : PT X e (tTruQ K ta) := by subst h; exact pt_truth ha he
theorem peFld (ha : PE X e ta) {f : Str} (hb : attributeBase e f X.env (eval e X.env) = eval e X.env := by rfl) (h : X.K = K := by rfl) : PE X (.Attribute e f pos) (tFld K ta f) := by subst h; exact pe_fld ha hb
theorem peBm (pa : PlainAttrs T) (slot : Slot T name id) (hty : typeOf (.builtin id) = pure (.type "method_descriptor")) (hm : MtR X id r) (ho : PE X o to) (ha : PA X (e :: es) t)
    (hx : PA X (e :: es) t → PE X o to → PE X (.Call (.Attribute o name apos) (e :: es) [] cpos) (tBM X.K T r to t)) (h : X.K = K := by rfl) : PE X (.Call (.Attribute o name apos) (e :: es) [] cpos) (tBM K T r to t) := by
  subst h
  exact hx ha ho
theorem piList (ha : PE X e ta) {tg : Expr} (h : X.K = K := by rfl) : PI X tg e (iList K ta) := by subst h; exact pi_list ha
theorem piTup (ha : PE X e ta) {tg : Expr} (h : X.K = K := by rfl) : PI X tg e (iTup K ta) := by subst h; exact pi_tup ha
theorem pgTup {es : List Expr} {k : Nat} {t : TGs} {n : Nat} (hc : X.calm = true) (hp : PGs X es t) (hn : (assignEach es X.env).length = n := by rfl) (hst : (assignEach es X.env).findIdx? (·.1) = none := by rfl) (h : X.K = K := by rfl) : PG X (.Tuple es k pos) (gTup K n t) := by
  subst h
  exact pg_tup hc hp hn hst
theorem getL (h : X.K = K := by rfl) : PGet X (rGetL K) := by subst h; exact get_list
end
end L2.KK
namespace L2.KK
open PySem PySem.Spec PyProof.Rows C8
section
variable {P : Program} {w : World} {K : PySem.W.Frag} {mg : Str → Option Value} {base : Heap}
/-- calOf for the def that the statement calls: its function object is known -/
theorem okOf {x : Str} {st : Stmt} {N ps : List Str} {sp : Sp} {k : Nat} {f : Addr} {fd : FuncData} (F : FnP K x x st f fd) (S : FnScope N ps (defScope st))
    (len : ∀ vs H Q E, sp vs H Q E → vs.length = ps.length)
    (body : ∀ (f : Addr) (cdv : Value) (A : Around) (outer : List Env) (s : Shared) (H : Hp) (vs : List V) (Q : VK) (E : XK), Room k (A.deeper (envOfC x (defScope st) s.heap.objs.size f cdv)) → sp vs H Q E →
      ∃ t, PSs (cxOf CX0 P w K mg base N x (defScope st) f cdv A outer s H E).nox (defBody st) t ∧ t { nx := fun _ H' => Q .non H', rt := Q } (start N vs) H) : FnOk P w K mg base CX0 (k + 1) f fd ps sp := by
  refine F.ok S len fun cdv A outer s H vs Q E hr hsp => ?_
  obtain ⟨t, h, q⟩ := body f cdv A outer s H vs Q E hr hsp
  exact ⟨t, h.nox, q⟩
end
end L2.KK
/-! own exceptions with an own __init__ that calls its base's; own == of instances; facts of one's own in the head -/
namespace L2.KK
open PySem PySem.Spec PyProof.Rows C8
section
variable {P : Program} {w : World} {K : PySem.W.Frag} {mg : Str → Option Value} {base : Heap}
/-! ### defs that may let an exception out -/
structure CalX (P : Program) (w : World) (K : PySem.W.Frag) (mg : Str → Option Value) (base : Heap) (k : Nat) (x : Str) (sp : Sp) : Prop where
  ex : ∃ (f : Addr) (fd : FuncData) (ps : List Str), FnOk P w K mg base (L2.CX P w) k f fd ps sp ∧ mg x = some (.ref f) ∧ PySem.W.keepIn K (.ref f) = true ∧ Binds K fd ps []
theorem fnok_calm {k : Nat} {f : Addr} {fd : FuncData} {ps : List Str} {sp : Sp} (F : FnOk P w K mg base (L2.CX P w) k f fd ps sp) : FnOk P w K mg base CX0 k f fd ps (fun vs H Q _ => sp vs H Q E0) :=
  ⟨fun vs H Q E h => F.len vs H Q E0 h, fun A outer s H args us vs Q E hr he hb hv hs => codeAny_mono (F.run A outer s H args us vs Q E0 hr he hb hv hs) fun r s' h => by
    cases r with
    | ok fl => cases fl <;> exact h
    | error e =>
      obtain ⟨_, _, _, _, _, _, _, _, _, _, _, _, z⟩ := h
      exact z.elim⟩
theorem CalX.calm {k : Nat} {x : Str} {sp : Sp} (c : CalX P w K mg base k x sp) : Cal P w K mg base k x (fun vs H Q _ => sp vs H Q E0) [] := by
  obtain ⟨f, fd, ps, F, m, kp, b⟩ := c.ex
  exact ⟨f, fd, ps, [], fnok_calm F, m, kp, b, .nil⟩
theorem Cal.weak {k : Nat} {x : Str} {sp sp' : Sp} (c : Cal P w K mg base k x sp []) (h : ∀ vs H Q E, sp' vs H Q E → sp vs H Q E) : Cal P w K mg base k x sp' [] := by
  obtain ⟨f, fd, ps, ds, F, m, kp, b, d⟩ := c.ex
  exact ⟨f, fd, ps, ds, F.imp h, m, kp, b, d⟩
theorem calOfX {x : Str} {st : Stmt} {N ps : List Str} {sp : Sp} {k : Nat} (D : FnAt K mg x st) (S : FnScope N ps (defScope st))
    (bn : ∀ (kV doc pm : Value) (an : Option Addr) (cdv ct : Value) (us : List Value), us.length = ps.length → bindArgs (PySem.W.fnOf x x (defArgs st) (defBody st) (defScope st) .none kV doc pm an cdv ct) ⟨us, []⟩ = pure (ps.zip us))
    (len : ∀ vs H Q E, sp vs H Q E → vs.length = ps.length)
    (body : ∀ (f : Addr) (cdv : Value) (A : Around) (outer : List Env) (s : Shared) (H : Hp) (vs : List V) (Q : VK) (E : XK), Room k (A.deeper (envOfC x (defScope st) s.heap.objs.size f cdv)) → sp vs H Q E →
      ∃ t, PSs (cxOf (L2.CX P w) P w K mg base N x (defScope st) f cdv A outer s H E) (defBody st) t ∧ t { nx := fun _ H' => Q .non H', rt := Q } (start N vs) H) : CalX P w K mg base (k + 1) x sp := by
  obtain ⟨f, fd, F, m⟩ := D.ex
  refine ⟨f, fd, ps, ?_, m, F.kp, F.bindsN bn⟩
  exact F.ok S len fun cdv A outer s H vs Q E hr hsp => body f cdv A outer s H vs Q E hr hsp
/-! ### methods -/
/-- the method m of the class named c stands under its qualified name -/
structure MtAt (K : PySem.W.Frag) (C : Addr) (m q : Str) (st : Stmt) : Prop where
  ex : ∃ f fd, FnP K m q st f fd ∧ Meth K C m f
structure InAt (K : PySem.W.Frag) (C : Addr) (q : Str) (st : Stmt) : Prop where
  ex : ∃ f fd, FnP K "__init__" q st f fd ∧ Mk K C f
theorem metOf {m q : Str} {C : Addr} {st : Stmt} {N ps : List Str} {sp : Sp} {k : Nat} (c : Cls K C) (D : MtAt K C m q st) (S : FnScope N ps (defScope st))
    (bn : ∀ (kV doc pm : Value) (an : Option Addr) (cdv ct : Value) (us : List Value), us.length = ps.length → bindArgs (PySem.W.fnOf m q (defArgs st) (defBody st) (defScope st) .none kV doc pm an cdv ct) ⟨us, []⟩ = pure (ps.zip us))
    (len : ∀ vs H Q E, sp vs H Q E → vs.length = ps.length)
    (body : ∀ (f : Addr) (cdv : Value) (A : Around) (outer : List Env) (s : Shared) (H : Hp) (vs : List V) (Q : VK) (E : XK), Room k (A.deeper (envOfC q (defScope st) s.heap.objs.size f cdv)) → sp vs H Q E →
      ∃ t, PSs (cxOf CX0 P w K mg base N q (defScope st) f cdv A outer s H E).nox (defBody st) t ∧ t { nx := fun _ H' => Q .non H', rt := Q } (start N vs) H) : Met P w K mg base (k + 1) C m sp [] := by
  obtain ⟨f, fd, F, me⟩ := D.ex
  refine ⟨f, fd, ps, [], c, me, ?_, F.bindsN bn, .nil⟩
  refine F.ok S len fun cdv A outer s H vs Q E hr hsp => ?_
  obtain ⟨t, h, q⟩ := body f cdv A outer s H vs Q E hr hsp
  exact ⟨t, h.nox, q⟩
theorem makOf {x q : Str} {C : Addr} {st : Stmt} {N ps : List Str} {sp : Sp} {k : Nat} (hm : mg x = some (.ref C)) (D : InAt K C q st) (S : FnScope N ps (defScope st))
    (bn : ∀ (kV doc pm : Value) (an : Option Addr) (cdv ct : Value) (us : List Value), us.length = ps.length → bindArgs (PySem.W.fnOf "__init__" q (defArgs st) (defBody st) (defScope st) .none kV doc pm an cdv ct) ⟨us, []⟩ = pure (ps.zip us))
    (len : ∀ vs H Q E, sp vs H Q E → vs.length = ps.length)
    (body : ∀ (f : Addr) (cdv : Value) (A : Around) (outer : List Env) (s : Shared) (H : Hp) (vs : List V) (Q : VK) (E : XK), Room k (A.deeper (envOfC q (defScope st) s.heap.objs.size f cdv)) → sp vs H Q E →
      ∃ t, PSs (cxOf CX0 P w K mg base N q (defScope st) f cdv A outer s H E).nox (defBody st) t ∧ t { nx := fun _ H' => Q .non H', rt := Q } (start N vs) H) : Mak P w K mg base (k + 1) x C sp [] := by
  obtain ⟨f, fd, F, me⟩ := D.ex
  refine ⟨f, fd, ps, [], me, ?_, hm, F.bindsN bn, .nil⟩
  refine F.ok S len fun cdv A outer s H vs Q E hr hsp => ?_
  obtain ⟨t, h, q⟩ := body f cdv A outer s H vs Q E hr hsp
  exact ⟨t, h.nox, q⟩
/-! ### own exceptions -/
/-- what the written part says of an own exception class with an own __init__ (its def at fI) -/
structure OwnX (K : PySem.W.Frag) (C fI : Addr) : Prop where
  oex : OexC K C
  init : PySem.W.findIn K (.ref C) "__init__" = some (some (.ref fI))
  ty : PySem.W.typeIn K (.ref fI) = some (.type "function")
  xf : XfC K C
/-- a base whose __init__ is ValueError's -/
structure BaseX (K : PySem.W.Frag) (C : Addr) : Prop where
  rd : ClX.CRead K C (.type "type")
  at_ : PySem.W.findCls K (.ref C) (.type "type") "__init__" = some (.val (.builtin "ValueError.__init__"))
end
section
variable {X : Cx} {e : Expr} {es : List Expr} {ta : TA} {p1 p2 pos : Pos} {B x : Str} {C0 C fI : Addr}
/-- Base.__init__(self, ..), Base an own class over ValueError -/
theorem pe_pinit {pl : Sem Bool} (T : BaseX X.K C0) (hm : X.mg B = some (.ref C0)) (hg : Gl X B) (ha : PA X (e :: es) ta)
    (hc : eval (.Call (.Attribute (.Name B p1) "__init__" p2) (e :: es) [] pos) X.env = (do
      let ov ← eval (.Name B p1) X.env
      standAt p2.atName
      let (f, first) ← holding [ov] (getMethod ov "__init__" pl)
      callWith pos f first (backTo pos (starEach (e :: es) X.env)) (backToKw pos (keywordEach [] X.env))) := by rfl) (hdb : (B == ("__debug__" : Str)) = false := by decide)
    (he : starEach (e :: es) X.env = (false, eval e X.env) :: starEach es X.env := by rfl) (hpl : (backTo pos (starEach es X.env)).any (·.1) = false := by rfl) :
    PE X (.Call (.Attribute (.Name B p1) "__init__" p2) (e :: es) [] pos) (tVeI X.K ta) := by
  refine ⟨fun pins s σ H Q I h => ?_⟩
  refine PySem.W.methodCall_KW (ld_glob I hg hm ?_ hdb) hc
  refine PySem.W.method_cls I.kIn T.rd.ga (PySem.W.cls_value I.kIn T.rd.rd T.at_ (by decide +kernel) ?_)
  show wpAny _ _ (callWith pos (Value.builtin "ValueError.__init__") [] (backTo pos (starEach (e :: es) X.env)) []) _ _ _
  refine PyProof.Rows.callWith_method1 (thn (ha.run pos pins _ σ H _ (I.tok _) h) fun us s1 ⟨vs, H1, I1, r1, a, C, ws, ev, hl, T, ea, q⟩ => ?_) he hpl
  subst ev
  cases r1 with
  | @cons _ u0 _ ur ra rw' =>
    obtain rfl : u0 = Value.ref a := ra
    have hlen : ur.length ≤ sizeLine := by
      rw [← Paired.length rw', sizeLine_eq]
      omega
    exact oinit_ok T I1 ea hlen fun s' J => ⟨.non, H1, J, rfl, q⟩
/-- a call that may let an exception out -/
theorem pe_cx {k j : Nat} {sp : Sp} {W : WX} (c : CalX X.prog X.w X.K X.mg X.base k x sp) (hr : Room j X.A) (hk : k ≤ j) (hg : Gl X x) (tk : Takes X W) (ha : PA X (e :: es) ta)
    (hdb : (x == ("__debug__" : Str)) = false := by decide) (he : starEach (e :: es) X.env = (false, eval e X.env) :: starEach es X.env := by rfl) (hpl : (backTo pos (starEach es X.env)).any (·.1) = false := by rfl) :
    PE X (.Call (.Name x p1) (e :: es) [] pos) (tCallS sp (WE W) ta) := by
  obtain ⟨f, fd, ps, F, m, kp, b⟩ := c.ex
  exact pe_callS F (hr.mono hk) hg m kp b (fun σ => passAt tk σ) ha hdb he hpl
/-- an own exception made: its __init__ keeps sp -/
structure MakX (P : Program) (w : World) (K : PySem.W.Frag) (mg : Str → Option Value) (base : Heap) (k : Nat) (x : Str) (C : Addr) (sp : Sp) : Prop where
  ex : ∃ (f : Addr) (fd : FuncData) (ps : List Str), OwnX K C f ∧ FnOk P w K mg base CX0 k f fd ps sp ∧ mg x = some (.ref C) ∧ Binds K fd ps []
theorem pmk_x {k j : Nat} {sp : Sp} (M : MakX X.prog X.w X.K X.mg X.base k x C sp) (hr : Room j X.A) (hk : k + 1 ≤ j) (hg : Gl X x) (ha : PA X (e :: es) ta)
    (hdb : (x == ("__debug__" : Str)) = false := by decide) (he : starEach (e :: es) X.env = (false, eval e X.env) :: starEach es X.env := by rfl) (hpl : (backTo pos (starEach es X.env)).any (·.1) = false := by rfl) :
    PMk X (.Call (.Name x p1) (e :: es) [] pos) (tMkO C sp [] ta) := by
  obtain ⟨f, fd, ps, T, F, m, b⟩ := M.ex
  exact pmk_oex T.oex T.init T.ty F (hr.mono hk) b .nil pass0 hg m ha hdb he hpl
/-- raise Own(..), out of the def -/
theorem ps_rx {k j : Nat} {sp : Sp} {W : WX} (M : MakX X.prog X.w X.K X.mg X.base k x C sp) (hr : Room j X.A) (hk : k + 1 ≤ j) (hg : Gl X x) (hc : X.calm = true) (tk : Takes X W) (ha : PA X (e :: es) ta)
    (hdb : (x == ("__debug__" : Str)) = false := by decide) (he : starEach (e :: es) X.env = (false, eval e X.env) :: starEach es X.env := by rfl) (hpl : (backTo pos (starEach es X.env)).any (·.1) = false := by rfl) :
    PS X (.Raise (some (.Call (.Name x p1) (e :: es) [] pos)) none p2) (fun _ σ H => tMkO C sp [] ta σ H fun cls d H' => W cls d σ H') :=
  ps_raise hc tk (pmk_x M hr hk hg ha hdb he hpl)
end
section
variable {P : Program} {w : World} {K : PySem.W.Frag} {mg : Str → Option Value} {base : Heap}
theorem makXOf {x q : Str} {C f : Addr} {st : Stmt} {N ps : List Str} {sp : Sp} {k : Nat} (hm : mg x = some (.ref C)) (O : OwnX K C f) (D : ∃ fd, FnP K "__init__" q st f fd) (S : FnScope N ps (defScope st))
    (bn : ∀ (kV doc pm : Value) (an : Option Addr) (cdv ct : Value) (us : List Value), us.length = ps.length → bindArgs (PySem.W.fnOf "__init__" q (defArgs st) (defBody st) (defScope st) .none kV doc pm an cdv ct) ⟨us, []⟩ = pure (ps.zip us))
    (len : ∀ vs H Q E, sp vs H Q E → vs.length = ps.length)
    (body : ∀ (f : Addr) (cdv : Value) (A : Around) (outer : List Env) (s : Shared) (H : Hp) (vs : List V) (Q : VK) (E : XK), Room k (A.deeper (envOfC q (defScope st) s.heap.objs.size f cdv)) → sp vs H Q E →
      ∃ t, PSs (cxOf CX0 P w K mg base N q (defScope st) f cdv A outer s H E).nox (defBody st) t ∧ t { nx := fun _ H' => Q .non H', rt := Q } (start N vs) H) : MakX P w K mg base (k + 1) x C sp := by
  obtain ⟨fd, F⟩ := D
  refine ⟨f, fd, ps, O, ?_, hm, F.bindsN bn⟩
  refine F.ok S len fun cdv A outer s H vs Q E hr hsp => ?_
  obtain ⟨t, h, q⟩ := body f cdv A outer s H vs Q E hr hsp
  exact ⟨t, h.nox, q⟩
/-- __init__(self, x): the base's, then one field -/
def spX1 (K : PySem.W.Frag) (C : Addr) (fld : Str) : Sp := fun vs H Q _ => ∃ (a : Addr) (v : V), vs = [.ref a, v] ∧ H a = some (exo a C none) ∧ ∀ dx, H dx = none → dx ≠ a → Q .non (upd (upd H dx (exd dx [(fld, v)])) a (exo a C (some dx)))
/-- what such an exception leaves -/
theorem mkO_1 {C : Addr} {fld : Str} {H : Hp} {v : V} {Q : XK} (k : ∀ (d : Addr) (H' : Hp), Same H H' → H d = none → H' d = some (.xd [(fld, v)]) → Q (.ref C) (some d) H') : ∀ a, H a = none → spX1 K C fld (.ref a :: ([v] ++ [])) (upd H a (exo a C none))
    (fun u H2 => u = .non ∧ ∃ (d : Addr) (fs : List (Str × V)), H2 a = some (exo a C (some d)) ∧ H2 d = some (exd d fs) ∧ H d = none ∧ Q (.ref C) (some d) (upd (del H2 a) d (.xd fs))) (fun _ _ _ => False) := fun a ha => by
  refine ⟨a, v, rfl, upd_same, fun dx hd ne => ⟨rfl, dx, [(fld, v)], upd_same, by rw [upd_ne ne, upd_same], ?_, ?_⟩⟩
  · rw [upd_ne ne] at hd
    exact hd
  · rw [upd_ne ne] at hd
    refine k dx _ (fun b o e => ?_) hd upd_same
    have n1 : b ≠ dx := ne_of_none e hd
    have n2 : b ≠ a := ne_of_none e ha
    rw [upd_ne n1, del_ne n2, upd_ne n2, upd_ne n1, upd_ne n2]
    exact e
end
section
variable {X : Cx} {e : Expr} {es : List Expr} {ta : TA} {p1 p2 pos : Pos} {B x : Str} {C0 C fI : Addr}
/-! ### own == -/
theorem rel_bl {v : V} {u : Value} {k : Bool} (e : v = .bl k) (r : RelV v u) : u = .bool k := by
  subst e
  exact r
theorem op_eqOwn {n : Nat} {f : Addr} {fd : FuncData} {ps : List Str} {sp : Sp} (F : FnOk X.prog X.w X.K X.mg X.base CX0 n f fd ps sp) (me : Meth X.K C "__eq__" f) (hb : Binds X.K fd ps []) (hr : Room n X.A) (hu : X.A.units < cLine) :
    OpR X (compareOp .Eq) (fun x y H Q => ∃ a b dx dy fs gs, x = .ref a ∧ y = .ref b ∧ H a = some (.ins C dx fs) ∧ H b = some (.ins C dy gs) ∧ sp [.ref a, .ref b] H (fun v H' => ∃ k, v = .bl k ∧ Q v H') E0) := by
  intro pins s σ H x y v u Q I rx ry h
  obtain ⟨a, b, dx, dy, fs, gs, rfl, rfl, ha, hb', hsp⟩ := h
  cases rx
  cases ry
  obtain ⟨mA, J, _⟩ := ins_get I.hok ha
  obtain ⟨mB, J', _⟩ := ins_get I.hok hb'
  obtain ⟨od, J, _⟩ := J.look
  obtain ⟨od', J', _⟩ := J'.look
  obtain ⟨m, hF⟩ := I.fr
  show wpAny (model X.prog X.w) X.A (richCompare .Eq (.ref a) (.ref b)) (EP X pins σ Q) X.xe s
  refine PySem.W.cmp_K (op := .Eq) (tb := .ref C) hu hF I.ok.mod.kin J J'.type (by simp [PySem.W.notFirst]) me.at_ me.fn ?_
  have hl := F.len _ _ _ _ hsp
  have r2 : Vals [V.ref a, V.ref b] [Value.ref a, Value.ref b] := .cons rfl (.cons rfl .nil)
  have z := run_fn (Q := fun v H' => ∃ k, v = V.bl k ∧ Q v H') F hr hb (dvs := []) Paired.nil (E := E0) pass0 I r2 (by simpa using hsp)
  refine wpAny_mono z (fun r s' q => ?_) fun _ _ x => x
  obtain ⟨v, H', I', rv, k, ev, q⟩ := q
  subst ev
  have er : r = .bool k := rv
  subst er
  exact ⟨.bl k, H', I', rfl, q⟩
end
/-! ### facts of one's own -/
def eqOV (a b : Option (Option Value)) : Bool := decide (a = b)
def oexB (K : PySem.W.Frag) (C : Addr) : Bool := (match K.lookup C with
  | some ⟨.type t, _, .cls cd, ⟨[_, _, _, _, some (.builtin n), _]⟩⟩ => decide (t = "type") && (decide (n = "ValueError.__new__") && (cd.hasDict && (!cd.hasDel && (match cd.mro with
    | .ref C' :: bm => decide (C' = C) && PySem.HandSPX.refsVE bm
    | _ => false))))
  | _ => false) && (eqOV (PySem.W.findIn K (.ref C) "__setattr__") (some (some (.builtin "object.__setattr__"))) && (decide (PySem.W.subIn K (.ref C) (.type "BaseException") = some true) && (decide (PySem.W.typeIn K (.ref C) = some (.type "type")) && PySem.W.keepIn K (.ref C))))
theorem oexB_ok {K : PySem.W.Frag} {C : Addr} (h : oexB K C = true) : OexC K C := by
  obtain ⟨h1, h⟩ := He.ba h
  obtain ⟨h2, h⟩ := He.ba h
  obtain ⟨h3, h⟩ := He.ba h
  obtain ⟨h4, h5⟩ := He.ba h
  refine ⟨?_, of_decide_eq_true h2, of_decide_eq_true h3, of_decide_eq_true h4, h5⟩
  split at h1
  · rename_i t dd cd k0 k1 k2 k3 n k5 e
    obtain ⟨g1, h1⟩ := He.ba h1
    obtain ⟨g2, h1⟩ := He.ba h1
    obtain ⟨g3, h1⟩ := He.ba h1
    obtain ⟨g4, h1⟩ := He.ba h1
    obtain ⟨nm, bs, mro, ns, qn, hd, sn, sub, ab, col, del⟩ := cd
    dsimp only at g3 g4 h1
    cases mro with
    | nil => cases h1
    | cons c0 bm =>
      cases c0 with
      | ref C' =>
        obtain ⟨g5, g6⟩ := He.ba h1
        have a1 : t = "type" := of_decide_eq_true g1
        have a2 : n = "ValueError.__new__" := of_decide_eq_true g2
        have a3 : C' = C := of_decide_eq_true g5
        have a4 : del = false := by simpa using g4
        subst a1 a2 a3 a4 g3
        exact ⟨nm, qn, ns, bs, bm, sn, sub, ab, col, dd, k0, k1, k2, k3, k5, e, g6⟩
      | _ => cases h1
  · cases h1
def ownB (x : Str) (K : PySem.W.Frag) : Bool := oexB K (He.ga K x) && (eqOV (PySem.W.findIn K (.ref (He.ga K x)) "__init__") (some (some (.ref (He.ma K (He.ga K x) "__init__")))) && (decide (PySem.W.typeIn K (.ref (He.ma K (He.ga K x) "__init__")) = some (.type "function")) && xfB K (He.ga K x)))
theorem ownB_ok {K : PySem.W.Frag} {x : Str} (h : ownB x K = true) : OwnX K (He.ga K x) (He.ma K (He.ga K x) "__init__") := by
  obtain ⟨h1, h⟩ := He.ba h
  obtain ⟨h2, h⟩ := He.ba h
  obtain ⟨h3, h4⟩ := He.ba h
  exact ⟨oexB_ok h1, of_decide_eq_true h2, of_decide_eq_true h3, xfB_ok h4⟩
def basB (x : Str) (K : PySem.W.Frag) : Bool := PySem.W.readsIn K (He.ga K x) (.type "type") && (eqOV (PySem.W.specialIn K (.ref (He.ga K x)) "__getattribute__") (some (some (.builtin "type.__getattribute__"))) && (match PySem.W.findCls K (.ref (He.ga K x)) (.type "type") "__init__" with
  | some (.val (.builtin n)) => decide (n = "ValueError.__init__")
  | _ => false))
theorem basB_ok {K : PySem.W.Frag} {x : Str} (h : basB x K = true) : BaseX K (He.ga K x) := by
  obtain ⟨h1, h⟩ := He.ba h
  obtain ⟨h2, h3⟩ := He.ba h
  refine ⟨⟨h1, of_decide_eq_true h2⟩, ?_⟩
  split at h3
  · rename_i n e
    have a : n = "ValueError.__init__" := of_decide_eq_true h3
    rw [e, a]
  · cases h3
/-- isinstance(instance of x, y) -/
def isiB (x y : Str) (b : Bool) (K : PySem.W.Frag) : Bool := decide (PySem.W.kitOne K (.ref (He.ga K x)) (.ref (He.ga K y)) = some b)
def tyiB (t : String) (y : Str) (b : Bool) (K : PySem.W.Frag) : Bool := decide (PySem.W.kitOne K (.type t) (.ref (He.ga K y)) = some b)
def frK (n : Nat) (g : Addr → Option Obj) : PySem.W.Frag := He.frG g (cStatics :: He.asD g n)
abbrev AlK : Type := He.AlD × List Bool
def obsK (n : Nat) (fa : List He.Fa) (fn : List He.DefD) (my : List (PySem.W.Frag → Bool)) (g : Addr → Option Obj) : AlK := (He.obsD fa fn (frK n g), my.map fun f => f (frK n g))
def SaysK (fa : List He.Fa) (fn : List He.DefD) (my : List (PySem.W.Frag → Bool)) (K : PySem.W.Frag) : Prop := He.SaysD fa fn K ∧ my.map (fun f => f K) = my.map fun _ => true
theorem SaysK.own {fa : List He.Fa} {fn : List He.DefD} {my : List (PySem.W.Frag → Bool)} {K : PySem.W.Frag} (c : SaysK fa fn my K) (i : Nat) {f : PySem.W.Frag → Bool} (h : my[i]? = some f := by rfl) : f K = true := by
  have q : (my.map fun f => f K)[i]? = (my.map fun _ => true)[i]? := by rw [c.2]
  rw [List.getElem?_map, List.getElem?_map, h] at q
  exact Option.some.inj q
def hookK (n : Nat) (fa : List He.Fa) (fn : List He.DefD) (my : List (PySem.W.Frag → Bool)) : PySem.W.Hook where
  α := AlK
  obs := fun s => obsK n fa fn my s.heap.get?
  val := fun _ => (He.valD fn, my.map fun _ => true)
  says := fun _ h => ∃ K : PySem.W.Frag, K.In h ∧ SaysK fa fn my K
  of := fun _ s e => ⟨frK n s.heap.get?, He.frG_in, congrArg Prod.fst e, congrArg Prod.snd e⟩
  keeps := fun _ _ _ ⟨K, hK, c⟩ k => ⟨K, PySem.W.Frag.In.keeps hK k, c⟩
theorem obsK_eq {n : Nat} {fa : List He.Fa} {fn : List He.DefD} {my : List (PySem.W.Frag → Bool)} {g : Addr → Option Obj} {s : Shared} (h : ∀ a, g a = s.heap.get? a) : obsK n fa fn my g = (hookK n fa fn my).obs s := by
  have e : g = s.heap.get? := funext h
  rw [e]
  rfl
end L2.KK
/-! tuple.index of flat values -/
namespace L2.KK
open PySem PySem.Spec PyProof.Rows C8
def rTupIdx (K : PySem.W.Frag) : V → List V → Hp → VK → Prop := fun x xs H Q => ∃ (p : Addr) (ys : List V) (y : V) (j : Nat) (z : V), x = V.ref p ∧ xs = [y] ∧ SqT K H p ys ∧ flatV y = true ∧ ys.all flatV = true ∧ ys[j]? = some z ∧ eqV z y = true ∧
  (∀ (m : Nat) (z' : V), m < j → ys[m]? = some z' → eqV z' y = false) ∧ Q (.int (j : Nat)) H
theorem mtTupIdx {X : Cx} (K : PySem.W.Frag) (hK : X.K = K := by rfl) : MtR X "tuple.index" (rTupIdx K) := by
  subst hK
  intro pins s σ H x xs v us Q I rx rxs h
  obtain ⟨p, ys, y, j, z, rfl, rfl, hs, fy, fys, hz, hzj, hno, q⟩ := h
  cases rx
  cases rxs with
  | cons ry rt =>
    rename_i uy ut
    cases rt
    obtain ⟨its, rv, pl, hlen⟩ := I.tuple hs
    obtain ⟨⟨cls, dd, dt, sl⟩, ho, hc, n, hd⟩ := pl
    simp only at hc hd
    subst hc hd
    have all : ∀ (m : Nat) (hm : m < its.toArray.size), ∃ z', ys[m]? = some z' ∧ eqU y its.toArray[m] = eqV z' y := fun m hm => by
      have hml : m < its.length := by simpa using hm
      have hmy : m < ys.length := by rw [rv.length]; exact hml
      obtain ⟨u2, hu2, ru2⟩ := rv.get (List.getElem?_eq_getElem hmy)
      refine ⟨ys[m], List.getElem?_eq_getElem hmy, ?_⟩
      have e1 : its.toArray[m] = u2 := by simpa using (List.getElem?_eq_some_iff.mp hu2).2
      rw [e1]
      exact eqU_of ru2 (flat_at fys (List.getElem?_eq_getElem hmy))
    have hj : j < its.toArray.size := by
      have := (List.getElem?_eq_some_iff.mp hz).1
      rw [rv.length] at this
      simpa using this
    refine call_meets PySem.F.slot_tuple_index ⟨_, ho, rfl⟩ PySem.F.entry_tuple_index (PySem.F.args_tuple_index_2 _ _) (TI.tuple_indexAt p its.toArray n dd sl uy (eqU y) j hj ?_ ?_)
      ⟨ho, fun u' hu' => mem_eqAt ry fy rv fys u' (by simpa using hu'), ⟨.int (j : Nat), H, I.tok _, ⟨_, rfl⟩, q⟩⟩
    · obtain ⟨z', h1, h2⟩ := all j hj
      rw [hz] at h1
      cases h1
      rw [h2]
      exact hzj
    · intro m hm hmj
      obtain ⟨z', h1, h2⟩ := all m hm
      rw [h2]
      exact hno m z' hmj h1
/-- a tuple whose object is known to be a bare one -/
def BareT (H : Hp) (p : Addr) (xs : List V) : Prop := ∃ o : Obj, H p = some (.frz o (.tup xs)) ∧ o.cls = .type "tuple" ∧ o.dict = none
theorem BareT.seq {K : PySem.W.Frag} {H : Hp} {p : Addr} {xs : List V} (h : BareT H p xs) : SqT K H p xs := by
  obtain ⟨o, h, _⟩ := h
  exact .inl (.inr ⟨o, h⟩)
theorem BareT.grow {H H' : Hp} {p : Addr} {xs : List V} (h : BareT H p xs) (e : Same H H') : BareT H' p xs := by
  obtain ⟨o, h, c⟩ := h
  exact ⟨o, e _ _ h, c⟩
section
variable {X : Cx} {K : PySem.W.Frag}
/-- tuple(a list): a new bare tuple -/
theorem crTupF (K : PySem.W.Frag) (hK : X.K = K := by rfl) : CallR X (.type "tuple") (fun xs H Q => ∃ p ys, xs = [.ref p] ∧ SqL K H p ys ∧ ∀ l H', H l = none → Same H H' → BareT H' l ys → Q (.ref l) H') := by
  subst hK
  intro pins s σ H xs us Q I r h
  obtain ⟨p, ys, rfl, hq, q⟩ := h
  obtain ⟨u, rfl, rx⟩ := vals1 r
  cases rx
  obtain ⟨its, r', pl, hz⟩ := I.list hq
  have hlen := r'.length
  refine call_tuple_list pl.isList (fun h' kp => ?_) (by simp only [List.size_toArray] <;> omega)
  have I1 : Inv X pins σ H { s with heap := h' } := I.kept (t' := s.toks) kp
  have n0 : H h'.objs.size = none := I1.hok.fresh (Nat.le_refl _)
  have I2 : Inv X pins σ (upd H h'.objs.size (.frz { cls := .type "tuple", data := .seq its.toArray } (.tup ys))) { s with heap := h'.push { cls := .type "tuple", data := .seq its.toArray } } :=
    I1.laid (t' := s.toks) (fun b o e => Heap.get?_push_of_some _ e) (Nat.le_refl _) ⟨Heap.get?_push_size _ rfl, hz, its, r', IsTup.new _ _⟩
  exact ⟨.ref h'.objs.size, _, I2, rfl, q _ _ n0 (same_new n0) ⟨_, upd_same, rfl, rfl⟩⟩
variable {o e : Expr} {es : List Expr} {to : TE} {t : TA} {apos cpos : Pos}
def tTidx (K : PySem.W.Frag) (to : TE) (t : TA) : TE := fun σ H Q => to σ H fun x H1 => (∃ p xs, x = .ref p ∧ BareT H1 p xs) ∧ t σ H1 fun vs H2 => rTupIdx K x vs H2 Q
/-- t.index(x), t a bare tuple -/
theorem pe_tidx (hm : MtR X "tuple.index" (rTupIdx K)) (ho : PE X o to) (ha : PA X (e :: es) t) (hbase : attributeBase o "index" X.env (eval o X.env) = eval o X.env := by rfl)
    (hfew : ((backTo cpos (starEach (e :: es) X.env)).all (fun x => !x.1) && (backToKw cpos (keywordEach [] X.env)).all (fun x => x.1.isSome) && decide ((e :: es).length + ([] : List Keyword).length + (if ([] : List Keyword).isEmpty then 0 else 1) < 30)) = true := by rfl)
    (hline : (apos.endLine == cpos.line) = true := by rfl) (hs : starEach (e :: es) X.env = (false, eval e X.env) :: starEach es X.env := by rfl) (hplain : (backTo cpos (starEach es X.env)).any (·.1) = false := by rfl) :
    PE X (.Call (.Attribute o "index" apos) (e :: es) [] cpos) (tTidx K to t) := by
  refine ⟨fun pins s σ H Q I h => ?_⟩
  refine wpAny_Call_method_late hbase hfew hline rfl (thn (ho.run pins s σ H _ I h) fun v s1 ⟨x, H1, I1, r1, ⟨p, xs, ex, ob, hb, hc, hd⟩, q1⟩ => ?_)
  subst ex
  obtain rfl : v = Value.ref p := r1
  have g : s1.heap.get? p = some ob := (show ObjOk X.prog X.w H1 s1.heap p (.frz ob (.tup xs)) from I1.hok p _ hb).1
  refine ⟨"tuple", "tuple.index", PySem.F.plainAttrs_tuple, PySem.F.slot_tuple_index, PySem.F.type_tuple_index, ⟨ob, g, hc⟩, fun a z => ⟨ob, by cases z; exact g, hd⟩, ?_⟩
  have hA := ha.run cpos pins s1 σ H1 _ I1 q1
  rw [hs] at hA ⊢
  refine Calls.callWith_builtin (by show (false || (backTo cpos (starEach es X.env)).any (·.1)) = false; rw [hplain] <;> rfl) (Calls.evalArgs_plain ?_)
  exact thn hA fun us s2 ⟨vs, H2, I2, r2, q2⟩ => hm pins s2 σ H2 (V.ref p) vs (Value.ref p) us Q I2 rfl r2 q2
end
end L2.KK
/-! more of numbers and of comprehensions -/
namespace L2.KK
open PySem PySem.Spec PyProof.Rows C8
section
variable {X : Cx}
theorem op_mulNN : OpR X (binaryOp .Mult) (rNC (fun a b => a < 18446744073709551616 ∨ b < 18446744073709551616) fun a b => nV (a * b)) := by
  intro pins s σ H x y v u Q I rx ry ⟨a, b, e1, e2, c, q⟩
  refine op_mul pins s σ H x y v u Q I rx ry ⟨_, _, e1, e2, ?_, ?_⟩
  · rcases c with c | c
    · exact .inl ⟨by omega, by omega⟩
    · exact .inr ⟨by omega, by omega⟩
  · show Q (V.int ((a : Int) * (b : Int))) H
    rw [← Int.natCast_mul]
    exact q
variable {K : PySem.W.Frag} {H H1 : Hp} {D : Addr} {σ : St} {k : Nat} {tt : TT} {te : TE} {Qd : Hp → Prop} {item : Nat → V} {n : Nat} {sel : Nat → Bool} {P : Nat → V → Hp → Prop} {J : It} {G : Hp → Prop} {Y : Nat → Hp → V → Hp → Prop}
/-- a comprehension over any walk that hands on what stands, its turns changing nothing that stood -/
theorem lc_itT (w : Walk J n G Y) (hY : ∀ i H x H', i < n → Y i H x H' → H' = H ∧ x = item i) (hG : ∀ H', Same H H' → G H') (T : Turns H σ k item n tt te sel P) (hD : H D = none) (hz : n ≤ sizeLine)
    (hd : ∀ H' ys, Same H H' → H' D = some (.lst ys) → ys.length ≤ n → Paired (fun y j => P j y H') ys ((List.range n).filter sel) → Qd H') :
    ∃ W : Nat → Nat → Hp → Prop, (∃ m, W 0 m (upd H D (.lst []))) ∧ ∀ i m H, W i m H →
      (J.stop i H ∧ Qd H) ∨ (J.go i H ∧ ∃ Nx : Hp → Prop, (∀ H', Nx H' → ∃ m', m' < m ∧ W (i + 1) m' H') ∧ ∀ x H', J.yld i H x H' → gName k x (wipe σ [k]) H' fun σ2 H2 => wipe σ2 [k] = wipe σ [k] ∧ tt σ2 H2 fun b H3 =>
        if b = true then te σ2 H3 fun y H4 => ∃ acc, H4 D = some (.lst acc) ∧ acc.length < sizeLine ∧ Nx (upd H4 D (.lst (acc ++ [y]))) else Nx H3) :=
  lc_it w (Made H D sel P) (Turns.start hD) (fun _ _ _ M => hG _ M.1) (fun i x H0 H' hi M y => by
    obtain ⟨rfl, rfl⟩ := hY i H0 x H' hi y
    exact T.go hD hz hi M) fun H' ⟨a, ys, b, c, d⟩ => hd H' ys a b c d
theorem yAt_item {xs : List V} {i : Nat} {H H' : Hp} {x : V} (y : YAt xs i H x H') : H' = H ∧ x = xs.getD i .non := ⟨y.1, by rw [List.getD_eq_getElem?_getD, y.2]; rfl⟩
theorem lc_tupT {a : Addr} {xs : List V} (hx : SqT K H a xs) (T : Turns H σ k (fun i => xs.getD i .non) xs.length tt te sel P) (hD : H D = none) (hz : xs.length ≤ sizeLine)
    (hd : ∀ H' ys, Same H H' → H' D = some (.lst ys) → ys.length ≤ xs.length → Paired (fun y j => P j y H') ys ((List.range xs.length).filter sel) → Qd H') :
    ∃ W : Nat → Nat → Hp → Prop, (∃ m, W 0 m (upd H D (.lst []))) ∧ ∀ i m H, W i m H →
      ((Itt K a).stop i H ∧ Qd H) ∨ ((Itt K a).go i H ∧ ∃ Nx : Hp → Prop, (∀ H', Nx H' → ∃ m', m' < m ∧ W (i + 1) m' H') ∧ ∀ x H', (Itt K a).yld i H x H' → gName k x (wipe σ [k]) H' fun σ2 H2 => wipe σ2 [k] = wipe σ [k] ∧ tt σ2 H2 fun b H3 =>
        if b = true then te σ2 H3 fun y H4 => ∃ acc, H4 D = some (.lst acc) ∧ acc.length < sizeLine ∧ Nx (upd H4 D (.lst (acc ++ [y]))) else Nx H3) :=
  lc_itT walk_tup (fun _ _ _ _ _ y => yAt_item y) (fun _ s => same_seqT s hx) T hD hz hd
/-- reversed(a tuple) -/
theorem walk_revT {a : Addr} {xs : List V} : Walk (RT.ItvT K a xs.length) xs.length (fun H => SqT K H a xs) (fun i H x H' => H' = H ∧ xs[xs.length - 1 - i]? = some x) :=
  ⟨fun i _ hi q => ⟨hi, xs, xs[xs.length - 1 - i]'(by omega), q, by simp [show xs.length - 1 - i < xs.length by omega]⟩, fun _ _ => Nat.le_refl _, fun _ _ _ _ _ q y => ⟨y.1, y.2 xs q⟩⟩
theorem lc_revT {a : Addr} {xs : List V} (hx : SqT K H a xs) (T : Turns H σ k (fun i => xs.getD (xs.length - 1 - i) .non) xs.length tt te sel P) (hD : H D = none) (hz : xs.length ≤ sizeLine)
    (hd : ∀ H' ys, Same H H' → H' D = some (.lst ys) → ys.length ≤ xs.length → Paired (fun y j => P j y H') ys ((List.range xs.length).filter sel) → Qd H') :
    ∃ W : Nat → Nat → Hp → Prop, (∃ m, W 0 m (upd H D (.lst []))) ∧ ∀ i m H, W i m H →
      ((RT.ItvT K a xs.length).stop i H ∧ Qd H) ∨ ((RT.ItvT K a xs.length).go i H ∧ ∃ Nx : Hp → Prop, (∀ H', Nx H' → ∃ m', m' < m ∧ W (i + 1) m' H') ∧ ∀ x H', (RT.ItvT K a xs.length).yld i H x H' → gName k x (wipe σ [k]) H' fun σ2 H2 => wipe σ2 [k] = wipe σ [k] ∧ tt σ2 H2 fun b H3 =>
        if b = true then te σ2 H3 fun y H4 => ∃ acc, H4 D = some (.lst acc) ∧ acc.length < sizeLine ∧ Nx (upd H4 D (.lst (acc ++ [y]))) else Nx H3) :=
  lc_itT walk_revT (fun i H x H' hi y => ⟨y.1, by rw [List.getD_eq_getElem?_getD, y.2]; rfl⟩) (fun _ s => same_seqT s hx) T hD hz hd
end
/-! ### values -/
/-- a price: a number, or none -/
def pV : Option Nat → V
  | none => .non
  | some n => nV n
theorem pV_none (o : Option Nat) : (pV o = .non) = (o = none) := by
  cases o with
  | none => simp [pV]
  | some n => simp [pV, nV]
/-- a new tuple is told -/
def NewT (H : Hp) (Q : VK) (xs : List V) : Prop := ∀ p H', Same H H' → H p = none → H' p = some (.tup xs) → Q (.ref p) H'
end L2.KK
/-! instances: what they are, what stands when one changes -/
namespace L2.KK
open PySem PySem.Spec PyProof.Rows C8
structure InsX (K : PySem.W.Frag) (C : Addr) : Prop where
  c : Cls K C
  ha : PySem.W.findIn K (.ref C) "__class__" = some (some (.builtin "object.__class__"))
  hn : PySem.W.specialIn K (.builtin "object.__class__") "__get__" = some (some (.builtin "getset_descriptor.__get__"))
  ht : PySem.W.takesIn K (.builtin "object.__class__") = some true
  hm : PySem.W.mroIn K C (.type "object") = some true
def insB (x : Str) (K : PySem.W.Frag) : Bool := (He.Fa.cls x).ok K && (eqOV (PySem.W.findIn K (.ref (He.ga K x)) "__class__") (some (some (.builtin "object.__class__"))) && (eqOV (PySem.W.specialIn K (.builtin "object.__class__") "__get__") (some (some (.builtin "getset_descriptor.__get__"))) &&
  (decide (PySem.W.takesIn K (.builtin "object.__class__") = some true) && decide (PySem.W.mroIn K (He.ga K x) (.type "object") = some true))))
theorem insB_ok {K : PySem.W.Frag} {x : Str} (h : insB x K = true) : InsX K (He.ga K x) := by
  obtain ⟨h1, h⟩ := He.ba h
  obtain ⟨h2, h⟩ := He.ba h
  obtain ⟨h3, h⟩ := He.ba h
  obtain ⟨h4, h5⟩ := He.ba h
  exact ⟨He.cls_ok h1, of_decide_eq_true h2, of_decide_eq_true h3, of_decide_eq_true h4, of_decide_eq_true h5⟩
section
variable {K : PySem.W.Frag} {H H' : Hp} {a x C dx : Addr} {xs : List V} {fs : List (Str × V)}
theorem InsX.ty (T : InsX K C) (e : H a = some (.ins C dx fs)) : TyX K H (.ref a) (.ref C) := .base (.ins e T.c T.ha T.hn T.ht T.hm)
theorem tyx_seqT (h : SqT K H a xs) : TyX K H (.ref a) (.type "tuple") := by
  rcases h with h | ⟨o, its, n, h1, h2, _⟩
  · rcases h with h | ⟨o, h⟩
    · exact .base (.tup h)
    · exact .fTuple h
  · exact .kTuple h1 h2
theorem tyx_seqL (h : SqL K H a xs) : TyX K H (.ref a) (.type "list") := by
  rcases h with h | ⟨o, its, n, h1, h2, _⟩
  · rcases h with h | ⟨o, h⟩
    · exact .base (.lst h)
    · exact .base (.frz h)
  · exact .kList h1 h2
/-- a tuple stands when an instance changes -/
theorem kp_seqT (k : Kp x H H') (hx : H x = some (.ins C dx fs)) (h : SqT K H a xs) : SqT K H' a xs := by
  rcases h with h | h
  · rcases h with h | ⟨o, h⟩
    · exact .inl (.inl (k _ _ h fun z => by rw [z, hx] at h; cases h))
    · exact .inl (.inr ⟨o, k _ _ h fun z => by rw [z, hx] at h; cases h⟩)
  · exact .inr h
theorem kp_upd {o : HO} : Kp x H (upd H x o) := fun b u e n => by rw [upd_ne n]; exact e
theorem kp_list {l : Addr} {ys : List V} {x' : Addr} (k : Kp x' H H') (h : H l = some (.lst ys)) (n : l ≠ x') : H' l = some (.lst ys) := k _ _ h n
end
end L2.KK
namespace L2.KK
open PySem PySem.Spec PyProof.Rows C8
def top (i : Nat) : Stmt := PySem.Challenge.pw_pricedrules_k77_clashes_menders.main.body.getD i (.Pass ⟨0, 0, 0, 0⟩)
abbrev s_wall : Stmt := top 0
abbrev s_is_whole : Stmt := top 2
abbrev s_is_bits : Stmt := top 3
abbrev s_added : Stmt := top 4
abbrev s_times_price : Stmt := top 5
abbrev s_summed : Stmt := top 6
abbrev s_lower : Stmt := top 7
abbrev s_lowest : Stmt := top 8
abbrev s_highest : Stmt := top 9
abbrev s_bits_of : Stmt := top 10
abbrev s_bit_count : Stmt := top 11
abbrev s_firsts : Stmt := top 12
abbrev s_minimal_masks : Stmt := top 14
abbrev s_blocker : Stmt := top 15
abbrev s_as_lots : Stmt := top 16
abbrev s_lot_rank : Stmt := top 17
abbrev s_BadTable_init : Stmt := inClass (top 20) 0
abbrev s_BadRow_init : Stmt := inClass (top 21) 0
abbrev s_BadLot_init : Stmt := inClass (top 22) 0
abbrev s_BadPuzzle_init : Stmt := inClass (top 23) 0
abbrev s_BadFilling_init : Stmt := inClass (top 24) 0
abbrev s_TooMany_init : Stmt := inClass (top 25) 0
abbrev s_row_number : Stmt := top 27
abbrev s_row_of : Stmt := top 28
abbrev s_rows_of : Stmt := top 29
abbrev s_chosen_number : Stmt := top 30
abbrev s_Table_init : Stmt := inClass (top 34) 0
abbrev s_Table_span : Stmt := inClass (top 34) 1
abbrev s_Table_crisp : Stmt := inClass (top 34) 2
abbrev s_Table_price : Stmt := inClass (top 34) 3
abbrev s_Table_open_numbers : Stmt := inClass (top 34) 4
abbrev s_Table_open_rows : Stmt := inClass (top 34) 5
abbrev s_Table_contains : Stmt := inClass (top 34) 6
abbrev s_Table_eq : Stmt := inClass (top 34) 7
abbrev s_Table_add : Stmt := inClass (top 34) 8
abbrev s_Table_mul : Stmt := inClass (top 34) 9
abbrev s_swapped : Stmt := top 35
abbrev s_is_told : Stmt := top 39
abbrev s_Lot_init : Stmt := inClass (top 40) 0
abbrev s_Lot_eq : Stmt := inClass (top 40) 1
abbrev s_Lot_wider : Stmt := inClass (top 40) 2
abbrev s_is_use : Stmt := top 45
abbrev s_Puzzle_init : Stmt := inClass (top 46) 0
abbrev s_Puzzle_eq : Stmt := inClass (top 46) 1
abbrev s_Puzzle_add : Stmt := inClass (top 46) 2
abbrev s_Puzzle_use_price : Stmt := inClass (top 46) 3
abbrev s_Puzzle_price : Stmt := inClass (top 46) 4
abbrev s_merged : Stmt := top 47
abbrev s_all_merged : Stmt := top 48
abbrev s_spread : Stmt := top 51
abbrev s_open_masks : Stmt := top 54
abbrev s_left_mask : Stmt := top 55
abbrev s_clashes : Stmt := top 56
abbrev s_menders : Stmt := top 57
abbrev s_menders_of : Stmt := top 58
abbrev s_law_begin : Stmt := top 60
abbrev s_law_draw : Stmt := top 61
abbrev s_law_rare : Stmt := top 62
abbrev s_law_row : Stmt := top 63
abbrev s_law_rows : Stmt := top 64
abbrev s_law_ones : Stmt := top 65
abbrev s_law_low : Stmt := top 66
abbrev s_law_times : Stmt := top 67
abbrev s_law_cost : Stmt := top 68
abbrev s_law_opened : Stmt := top 69
abbrev s_law_loose : Stmt := top 70
abbrev s_law_uses : Stmt := top 71
abbrev s_law_use_price : Stmt := top 72
abbrev s_law_least_masks : Stmt := top 73
abbrev s_law_lots : Stmt := top 74
abbrev s_law_lot_rank : Stmt := top 75
abbrev s_law_open_masks : Stmt := top 76
abbrev s_law_left : Stmt := top 77
abbrev s_law_limit : Stmt := top 78
abbrev s_law_limits_ok : Stmt := top 79
abbrev s_law : Stmt := top 80
theorem sc_law_begin : FnScope ["script", "cell"] ["script"] (defScope s_law_begin) := ⟨rfl, rfl, rfl, by decide +kernel, rfl, by decide +kernel, by decide +kernel⟩
theorem sc_law_draw : FnScope ["d", "many", "found", "size", "cell"] ["d", "many"] (defScope s_law_draw) := ⟨rfl, rfl, rfl, by decide +kernel, rfl, by decide +kernel, by decide +kernel⟩
structure Bl (mg : Str → Option Value) : Prop where
  b_NotImplemented : mg "NotImplemented" = none
  b_ValueError : mg "ValueError" = none
  b_abs : mg "abs" = none
  b_all : mg "all" = none
  b_any : mg "any" = none
  b_bool : mg "bool" = none
  b_enumerate : mg "enumerate" = none
  b_int : mg "int" = none
  b_isinstance : mg "isinstance" = none
  b_len : mg "len" = none
  b_list : mg "list" = none
  b_property : mg "property" = none
  b_range : mg "range" = none
  b_reversed : mg "reversed" = none
  b_sorted : mg "sorted" = none
  b_sum : mg "sum" = none
  b_tuple : mg "tuple" = none
  b_zip : mg "zip" = none
  g_PLACES : ∃ u, mg "PLACES" = some u ∧ RelV (.int 4) u
  g_GREATEST : ∃ u, mg "GREATEST" = some u ∧ RelV (.int 100000000000000000000000000000000000000000000000000) u
  g_TABLES : ∃ u, mg "TABLES" = some u ∧ RelV (.int 16) u
  g_DEAREST : ∃ u, mg "DEAREST" = some u ∧ RelV (.int 1000) u
  g_NAMES : ∃ u, mg "NAMES" = some u ∧ RelV (.int 400) u
  g_USES : ∃ u, mg "USES" = some u ∧ RelV (.int 20000) u
  g_TIMES : ∃ u, mg "TIMES" = some u ∧ RelV (.int 10000000000000000000000000000000000000000) u
  g_SEARCHED : ∃ u, mg "SEARCHED" = some u ∧ RelV (.int 12) u
  g_CLASHED : ∃ u, mg "CLASHED" = some u ∧ RelV (.int 10) u
section
variable {P : Program} {w : World} {K : PySem.W.Frag} {mg : Str → Option Value} {base : Heap}
/-! ### the law's draws -/
def spBegin (K : PySem.W.Frag) : Sp := fun vs H Q _ => ∃ (a : Addr) (ns : List Int), vs = [.ref a] ∧ SqL K H a (ns.map V.int) ∧ ns.length ≤ 63 ∧ ∀ d c H', Same H H' → H d = none → H c = none → Dr H' d c → Q (.ref d) H'
def spDraw : Sp := fun vs H Q _ => ∃ (d c : Addr) (m : Int), vs = [.ref d, .int m] ∧ Dr H d c ∧ 1 ≤ m ∧ m < 1073741824 ∧ ∀ (n : Nat) H', (n : Int) < m → Dr H' d c → Kp d H H' → Q (nV n) H'
theorem c_begin (D : FnAt K mg "_law_begin" s_law_begin) (T : Bl mg) : Cal P w K mg base 1 "_law_begin" (spBegin K) [] := by
  refine calOf D sc_law_begin (fun _ _ _ _ _ _ us hl => match us, hl with | [_], _ => rfl) (fun vs H Q E h => ?_) (fun f cdv A outer s H vs Q E hr h => ?_)
  · obtain ⟨a, ns, rfl, _⟩ := h
    rfl
  · obtain ⟨a, ns, rfl, hS, hl, k⟩ := h
    have nd := sc_law_begin.nd
    refine ⟨_, (pss_one (ps_ret (pe_lst (pa_cons (pe_lc (own := [("cell", 1)]) (g := gName 1) (tt := tYes) rfl nd (piList K (pv 0)) (blkOk_by (N := ["script", "cell"]) (sc := defScope s_law_begin) (own := [("cell", 1)]) (by decide +kernel)) (fun _ _ _ _ _ => (pg_name (i := 1) nd rfl (by first | exact Or.inl rfl | exact Or.inr rfl))) (fun _ _ _ _ _ => pts_nil) (fun _ _ _ _ _ => (pe_callTy call_int1 (by rfl) T.b_int (by decide +kernel) (pa_cons (pv 1) pa_nil)))) (pa_cons pe_int (pa_cons pe_int (pa_cons pe_int pa_nil))))))), ?_⟩
    have hz : (ns.map V.int).length ≤ sizeLine := Nat.le_of_lt (small1000 (by rw [List.length_map]; omega))
    refine ⟨.ref a, rfl, a, rfl, ⟨_, hS⟩, fun D hD => lc_listT hS (sel := fun _ => true) (P := fun i y _ => y = .int (ns.getD i 0)) ⟨fun _ _ _ _ _ h => h, fun i H' _ _ R r => r H' (Same.refl H'), fun i H' hi _ _ R r => ?_⟩ hD hz (fun H1 ys sm hd _ pr => ?_)⟩
    · have e : (ns.map V.int).getD i .non = .int (ns.getD i 0) := by
        rw [List.length_map] at hi
        rw [List.getD_eq_getElem?_getD, List.getD_eq_getElem?_getD, List.getElem?_map, List.getElem?_eq_getElem hi]
        rfl
      exact ⟨_, rfl, .inl ⟨ns.getD i 0, by rw [e], r _ H' (Same.refl H') rfl⟩⟩
    · rw [filter_yes] at pr
      have ey : ys = ns.map V.int := by
        rw [paired_map_eq pr, List.length_map]
        have q := congrArg (List.map V.int) (map_range_get ns 0)
        rw [List.map_map] at q
        exact q
      refine ⟨by show 4 ≤ sizeLine; decide, fun d hd0 => ?_⟩
      have nD : D ≠ d := ne_of_none hd hd0
      refine k d D _ (same_fresh sm (sm.free hd0)) (sm.free hd0) hD ⟨ns, 0, 0, 7, upd_same, ?_, Int.le_refl 0, by omega⟩
      rw [upd_ne nD, hd, ey]
theorem mod_pos {a m : Int} (h : 1 ≤ m) : ∃ n : Nat, a.fmod m = (n : Int) ∧ (n : Int) < m := by
  have h1 := Int.fmod_nonneg_of_pos a (show 0 < m by omega)
  have h2 := Int.fmod_lt_of_pos a (show 0 < m by omega)
  exact ⟨(a.fmod m).toNat, by omega, by omega⟩
theorem c_draw (D : FnAt K mg "_law_draw" s_law_draw) (T : Bl mg) : Cal P w K mg base 1 "_law_draw" spDraw [] := by
  refine calOf D sc_law_draw (fun _ _ _ _ _ _ us hl => match us, hl with | [_, _], _ => rfl) (fun vs H Q E h => ?_) (fun f cdv A outer s H vs Q E hr h => ?_)
  · obtain ⟨d, c, m, rfl, _⟩ := h
    rfl
  · obtain ⟨d, c, m, rfl, D, h1, h2, k⟩ := h
    obtain ⟨ns, i, r, z, hd, hc, hi, hn⟩ := D.ex
    have nd := sc_law_draw.nd
    have ncd : c ≠ d := D.cd
    -- d as it is changed: the items at 1, 2, 3
    have fin : ∀ (a : Int) (i r z : Int) (H' : Hp), 0 ≤ i → H' d = some (.lst [.ref c, .int i, .int r, .int z]) → Kp d H H' → Q (.int (a.fmod m)) H' := fun a i r z H' hi' e kp => by
      obtain ⟨n, en, ln⟩ := mod_pos (a := a) h1
      rw [en]
      exact k n H' ln ⟨ns, i, r, z, e, kp c _ hc ncd, hi', hn⟩ kp
    have kpd : ∀ o, Kp d H (upd H d o) := fun o b u e n => by rw [upd_ne n]; exact e
    refine ⟨_, (pss_cons (ps_if (pt_cmpR op_gt (pe_ix (ixL K) (pv 0) pe_int (fun _ _ => rfl)) pe_int (nomark _))
        (pss_cons (ps_set (i := 2) nd rfl (by first | exact Or.inl rfl | exact Or.inr rfl) (pe_ix (ixL K) (pv 0) pe_int (fun _ _ => rfl)))
        (pss_cons (ps_asg (pe_op op_fdivN (pv 2) (pv 1)) (pg_sub (pv 0) pe_int set_list))
        (pss_one (ps_ret (pe_op op_modN (pe_callTy call_int1 (by rfl) T.b_int (by decide +kernel) (pa_cons (pv 2) pa_nil)) (pv 1))))))
        pss_nil)
      (pss_cons (ps_set (i := 3) nd rfl (by first | exact Or.inl rfl | exact Or.inr rfl) pe_int)
      (pss_cut (ps_if (pt_cmpR op_lt (pe_ix (ixL K) (pv 0) pe_int (fun _ _ => rfl)) (pe_callB (crLen K) (by rfl) T.b_len (by decide +kernel) (pa_cons (pe_ix (ixL K) (pv 0) pe_int (fun _ _ => rfl)) pa_nil)) (nomark _))
        (pss_cons (ps_set (i := 4) nd rfl (by first | exact Or.inl rfl | exact Or.inr rfl) (pe_ix (ixL K) (pe_ix (ixL K) (pv 0) pe_int (fun _ _ => rfl)) (pe_ix (ixL K) (pv 0) pe_int (fun _ _ => rfl)) (fun _ _ => rfl)))
        (pss_one (ps_set (i := 3) nd rfl (by first | exact Or.inl rfl | exact Or.inr rfl) (pe_op op_add (pe_op op_mul pe_int (pe_callB call_abs (by rfl) T.b_abs (by decide +kernel) (pa_cons (pv 4) pa_nil))) (pe_callTy call_int1 (by rfl) T.b_int (by decide +kernel) (pa_cons (pe_cmpR op_lt (pv 4) pe_int (nomark _)) pa_nil))))))
        pss_nil)
      (pss_cons (ps_augS (pv 0) pe_int (getL K) pe_int ip_add set_list)
      (pss_cons (ps_if (pt_cmpR op_ge (pv 3) (pe_op op_mul pe_int (pe_op op_pow pe_int pe_int)) (nomark _))
        (pss_cons (ps_set (i := 2) nd rfl (by first | exact Or.inl rfl | exact Or.inr rfl) (pe_op op_modN (pe_callTy call_int1 (by rfl) T.b_int (by decide +kernel) (pa_cons (pe_op op_fdivN (pv 3) pe_int) pa_nil)) (pe_op op_shl pe_int pe_int)))
        (pss_cons (ps_asg (pe_op op_fdivN (pv 2) (pv 1)) (pg_sub (pv 0) pe_int set_list))
        (pss_one (ps_ret (pe_op op_modN (pe_callTy call_int1 (by rfl) T.b_int (by decide +kernel) (pa_cons (pv 2) pa_nil)) (pv 1))))))
        pss_nil)
      (pss_cons (ps_asg (pe_op op_modN (pe_callTy call_int1 (by rfl) T.b_int (by decide +kernel) (pa_cons (pe_op op_add (pe_op op_add (pe_op op_add (pe_op op_mul (pe_ix (ixL K) (pv 0) pe_int (fun _ _ => rfl)) pe_int) (pe_op op_mul (pe_op op_modN (pe_callTy call_int1 (by rfl) T.b_int (by decide +kernel) (pa_cons (pv 3) pa_nil)) pe_int) pe_int)) (pe_op op_mul (pe_ix (ixL K) (pv 0) pe_int (fun _ _ => rfl)) pe_int)) pe_int) pa_nil)) pe_int) (pg_sub (pv 0) pe_int set_list))
      (pss_one (ps_ret (pe_op op_modN (pe_callTy call_int1 (by rfl) T.b_int (by decide +kernel) (pa_cons (pe_op op_fdivN (pe_ix (ixL K) (pv 0) pe_int (fun _ _ => rfl)) pe_int) pa_nil)) (pv 1)))))))))), ?_⟩
    have m0 : m ≠ 0 ∧ m.natAbs < 1073741824 := ⟨by omega, by omega⟩
    -- if d[2] > 0
    refine ⟨_, rfl, d, _, 2, .int r, rfl, rfl, SqL.of hd, rfl, r, 0, rfl, rfl, _, rfl, ite2 (fun _ => ?_) (fun _ => ?_)⟩
    · refine ⟨_, rfl, d, _, 2, .int r, rfl, rfl, SqL.of hd, rfl, ?_⟩
      refine ⟨_, rfl, _, rfl, r, m, rfl, rfl, m0, _, rfl, d, _, 2, 2, rfl, rfl, hd, rfl, ?_⟩
      refine ⟨_, rfl, .inl ⟨r, rfl, _, rfl, r, m, rfl, rfl, m0.1, ?_⟩⟩
      exact fin r i (r.fdiv m) z _ hi upd_same (kpd _)
    · -- size = 0; if d[1] < len(d[0])
      refine ⟨fun σ' H' => H' = H ∧ ∃ (size : Int) (c4 : Option V), σ' = [some (.ref d), some (.int m), none, some (.int size), c4], ?_, ?_⟩
      · refine ⟨_, rfl, d, _, 1, .int i, rfl, rfl, SqL.of hd, rfl, _, rfl, d, _, 0, .ref c, rfl, rfl, SqL.of hd, rfl, c, _, rfl, .inl (SqL.of hc), i, _, rfl, rfl, _, rfl, ite2 (fun hlt => ?_) (fun _ => ⟨rfl, 0, none, rfl⟩)⟩
        have hlt' := of_decide_eq_true hlt
        rw [List.length_map] at hlt'
        have hix : (ns.map V.int)[i.toNat]? = some (.int (ns.getD i.toNat 0)) := by
          rw [List.getElem?_map, List.getD_eq_getElem?_getD, List.getElem?_eq_getElem (show i.toNat < ns.length by omega)]
          rfl
        have ei : (i.toNat : Int) = i := by omega
        have hat : atI (ns.map V.int) i = some (.int (ns.getD i.toNat 0)) := by
          have q := atI_nat hix
          rw [ei] at q
          exact q
        refine ⟨_, rfl, d, _, 0, .ref c, rfl, rfl, SqL.of hd, rfl, _, rfl, d, _, 1, .int i, rfl, rfl, SqL.of hd, rfl, c, _, i, _, rfl, rfl, SqL.of hc, hat, ?_⟩
        generalize ns.getD i.toNat 0 = cell
        refine ⟨_, rfl, cell, rfl, 2, _, rfl, rfl, .inl ⟨by decide, by decide⟩, _, rfl, cell, 0, rfl, rfl, .inr ⟨_, rfl, _, _, rfl, rfl, rfl, _, _, rfl⟩⟩
      · rintro σ' H' ⟨rfl, size, c4, rfl⟩
        -- d[1] += 1
        refine ⟨_, rfl, d, _, 1, .int i, rfl, rfl, SqL.of hd, rfl, by decide, i, 1, rfl, rfl, d, _, 1, 1, rfl, rfl, hd, rfl, ?_⟩
        have hd1 : upd H' d (.lst [.ref c, .int (i + 1), .int r, .int z]) d = some (.lst [.ref c, .int (i + 1), .int r, .int z]) := upd_same
        -- if size >= 2 * 10 ** 18
        refine ⟨_, rfl, 10, 18, rfl, rfl, ⟨by decide, by decide, by decide⟩, 2, _, rfl, rfl, .inl ⟨by decide, by decide⟩, size, _, rfl, rfl, _, rfl, ite2 (fun _ => ?_) (fun _ => ?_)⟩
        · refine ⟨_, rfl, size, 2, rfl, rfl, ⟨by decide, by decide⟩, .inl ⟨_, rfl, 1, 6000, rfl, rfl, ⟨by decide, by decide, by decide⟩, _, _, rfl, rfl, ?_, ?_⟩⟩
          · exact Int.ne_of_gt (by rw [Int.one_mul]; exact Int.pow_pos (by decide))
          · refine ⟨_, rfl, _, rfl, _, m, rfl, rfl, m0, _, rfl, d, _, 2, 2, rfl, rfl, hd1, rfl, ?_⟩
            refine ⟨_, rfl, .inl ⟨_, rfl, _, rfl, _, m, rfl, rfl, m0.1, ?_⟩⟩
            exact fin _ (i + 1) _ z _ (by omega) upd_same fun b u e n => by rw [upd_ne n, upd_ne n]; exact e
        · refine ⟨_, rfl, d, _, 3, .int z, rfl, rfl, SqL.of hd1, rfl, z, 48271, rfl, rfl, .inr ⟨by decide, by decide⟩, ?_⟩
          refine ⟨_, rfl, .inl ⟨size, rfl, size, 2147483629, rfl, rfl, (show (2147483629 : Int) ≠ 0 by decide), _, 16807, rfl, rfl, .inr ⟨by decide, by decide⟩, _, _, rfl, rfl, ?_⟩⟩
          refine ⟨_, rfl, d, _, 1, .int (i + 1), rfl, rfl, SqL.of hd1, rfl, _, 69621, rfl, rfl, .inr ⟨by decide, by decide⟩, _, _, rfl, rfl, _, 11, rfl, rfl, .inl ⟨_, rfl, _, 2147483647, rfl, rfl, (show (2147483647 : Int) ≠ 0 by decide), ?_⟩⟩
          refine ⟨_, rfl, d, _, 3, 3, rfl, rfl, hd1, rfl, ?_⟩
          refine ⟨_, rfl, d, _, 3, _, rfl, rfl, SqL.of upd_same, rfl, _, 16, rfl, rfl, ⟨by decide, by decide⟩, .inl ⟨_, rfl, _, rfl, _, m, rfl, rfl, m0.1, ?_⟩⟩
          exact fin _ (i + 1) r _ _ (by omega) upd_same fun b u e n => by rw [upd_ne n, upd_ne n]; exact e

end
end L2.KK
namespace L2.KK
open PySem PySem.Spec PyProof.Rows C8
def dd_is_whole : He.DefD := ⟨("is_whole", none), "is_whole", "is_whole", defArgs s_is_whole, defBody s_is_whole, defScope s_is_whole, [], []⟩
def dd_times_price : He.DefD := ⟨("times_price", none), "times_price", "times_price", defArgs s_times_price, defBody s_times_price, defScope s_times_price, [], []⟩
def dd_lower : He.DefD := ⟨("lower", none), "lower", "lower", defArgs s_lower, defBody s_lower, defScope s_lower, [], []⟩
def dd_lowest : He.DefD := ⟨("lowest", none), "lowest", "lowest", defArgs s_lowest, defBody s_lowest, defScope s_lowest, [], []⟩
def dd_highest : He.DefD := ⟨("highest", none), "highest", "highest", defArgs s_highest, defBody s_highest, defScope s_highest, [], []⟩
def dd_bits_of : He.DefD := ⟨("bits_of", none), "bits_of", "bits_of", defArgs s_bits_of, defBody s_bits_of, defScope s_bits_of, [], []⟩
def dd_bit_count : He.DefD := ⟨("bit_count", none), "bit_count", "bit_count", defArgs s_bit_count, defBody s_bit_count, defScope s_bit_count, [], []⟩
def dd_firsts : He.DefD := ⟨("firsts", none), "firsts", "firsts", defArgs s_firsts, defBody s_firsts, defScope s_firsts, [], []⟩
def dd_minimal_masks : He.DefD := ⟨("minimal_masks", none), "minimal_masks", "minimal_masks", defArgs s_minimal_masks, defBody s_minimal_masks, defScope s_minimal_masks, [], []⟩
def dd_blocker : He.DefD := ⟨("blocker", none), "blocker", "blocker", defArgs s_blocker, defBody s_blocker, defScope s_blocker, [], []⟩
def dd_as_lots : He.DefD := ⟨("as_lots", none), "as_lots", "as_lots", defArgs s_as_lots, defBody s_as_lots, defScope s_as_lots, [], []⟩
def dd_lot_rank : He.DefD := ⟨("lot_rank", none), "lot_rank", "lot_rank", defArgs s_lot_rank, defBody s_lot_rank, defScope s_lot_rank, [], []⟩
def dd_TooMany_init : He.DefD := ⟨("TooMany", some "__init__"), "__init__", "TooMany.__init__", defArgs s_TooMany_init, defBody s_TooMany_init, defScope s_TooMany_init, [], []⟩
def dd_row_number : He.DefD := ⟨("row_number", none), "row_number", "row_number", defArgs s_row_number, defBody s_row_number, defScope s_row_number, [], []⟩
def dd_row_of : He.DefD := ⟨("row_of", none), "row_of", "row_of", defArgs s_row_of, defBody s_row_of, defScope s_row_of, [], []⟩
def dd_rows_of : He.DefD := ⟨("rows_of", none), "rows_of", "rows_of", defArgs s_rows_of, defBody s_rows_of, defScope s_rows_of, [], []⟩
def dd_chosen_number : He.DefD := ⟨("chosen_number", none), "chosen_number", "chosen_number", defArgs s_chosen_number, defBody s_chosen_number, defScope s_chosen_number, [], []⟩
def dd_Table_init : He.DefD := ⟨("Table", some "__init__"), "__init__", "Table.__init__", defArgs s_Table_init, defBody s_Table_init, defScope s_Table_init, [], []⟩
def dd_Table_eq : He.DefD := ⟨("Table", some "__eq__"), "__eq__", "Table.__eq__", defArgs s_Table_eq, defBody s_Table_eq, defScope s_Table_eq, [], []⟩
def dd_swapped : He.DefD := ⟨("swapped", none), "swapped", "swapped", defArgs s_swapped, defBody s_swapped, defScope s_swapped, [], []⟩
def dd_is_told : He.DefD := ⟨("is_told", none), "is_told", "is_told", defArgs s_is_told, defBody s_is_told, defScope s_is_told, [], []⟩
def dd_Lot_init : He.DefD := ⟨("Lot", some "__init__"), "__init__", "Lot.__init__", defArgs s_Lot_init, defBody s_Lot_init, defScope s_Lot_init, [], []⟩
def dd_is_use : He.DefD := ⟨("is_use", none), "is_use", "is_use", defArgs s_is_use, defBody s_is_use, defScope s_is_use, [], []⟩
def dd_Puzzle_init : He.DefD := ⟨("Puzzle", some "__init__"), "__init__", "Puzzle.__init__", defArgs s_Puzzle_init, defBody s_Puzzle_init, defScope s_Puzzle_init, [], []⟩
def dd_merged : He.DefD := ⟨("merged", none), "merged", "merged", defArgs s_merged, defBody s_merged, defScope s_merged, [], []⟩
def dd_all_merged : He.DefD := ⟨("all_merged", none), "all_merged", "all_merged", defArgs s_all_merged, defBody s_all_merged, defScope s_all_merged, [], []⟩
def dd_spread : He.DefD := ⟨("spread", none), "spread", "spread", defArgs s_spread, defBody s_spread, defScope s_spread, [], []⟩
def dd_open_masks : He.DefD := ⟨("open_masks", none), "open_masks", "open_masks", defArgs s_open_masks, defBody s_open_masks, defScope s_open_masks, [], []⟩
def dd_left_mask : He.DefD := ⟨("left_mask", none), "left_mask", "left_mask", defArgs s_left_mask, defBody s_left_mask, defScope s_left_mask, [], []⟩
def dd_clashes : He.DefD := ⟨("clashes", none), "clashes", "clashes", defArgs s_clashes, defBody s_clashes, defScope s_clashes, [], []⟩
def dd_menders : He.DefD := ⟨("menders", none), "menders", "menders", defArgs s_menders, defBody s_menders, defScope s_menders, [], []⟩
def dd_menders_of : He.DefD := ⟨("menders_of", none), "menders_of", "menders_of", defArgs s_menders_of, defBody s_menders_of, defScope s_menders_of, [], []⟩
def dd_law_begin : He.DefD := ⟨("_law_begin", none), "_law_begin", "_law_begin", defArgs s_law_begin, defBody s_law_begin, defScope s_law_begin, [], []⟩
def dd_law_draw : He.DefD := ⟨("_law_draw", none), "_law_draw", "_law_draw", defArgs s_law_draw, defBody s_law_draw, defScope s_law_draw, [], []⟩
def dd_law_rare : He.DefD := ⟨("_law_rare", none), "_law_rare", "_law_rare", defArgs s_law_rare, defBody s_law_rare, defScope s_law_rare, [], []⟩
def dd_law_row : He.DefD := ⟨("_law_row", none), "_law_row", "_law_row", defArgs s_law_row, defBody s_law_row, defScope s_law_row, [], []⟩
def dd_law_rows : He.DefD := ⟨("_law_rows", none), "_law_rows", "_law_rows", defArgs s_law_rows, defBody s_law_rows, defScope s_law_rows, [], []⟩
def dd_law_ones : He.DefD := ⟨("_law_ones", none), "_law_ones", "_law_ones", defArgs s_law_ones, defBody s_law_ones, defScope s_law_ones, [], []⟩
def dd_law_low : He.DefD := ⟨("_law_low", none), "_law_low", "_law_low", defArgs s_law_low, defBody s_law_low, defScope s_law_low, [], []⟩
def dd_law_times : He.DefD := ⟨("_law_times", none), "_law_times", "_law_times", defArgs s_law_times, defBody s_law_times, defScope s_law_times, [], []⟩
def dd_law_cost : He.DefD := ⟨("_law_cost", none), "_law_cost", "_law_cost", defArgs s_law_cost, defBody s_law_cost, defScope s_law_cost, [], []⟩
def dd_law_opened : He.DefD := ⟨("_law_opened", none), "_law_opened", "_law_opened", defArgs s_law_opened, defBody s_law_opened, defScope s_law_opened, [], []⟩
def dd_law_loose : He.DefD := ⟨("_law_loose", none), "_law_loose", "_law_loose", defArgs s_law_loose, defBody s_law_loose, defScope s_law_loose, [], []⟩
def dd_law_uses : He.DefD := ⟨("_law_uses", none), "_law_uses", "_law_uses", defArgs s_law_uses, defBody s_law_uses, defScope s_law_uses, [], []⟩
def dd_law_use_price : He.DefD := ⟨("_law_use_price", none), "_law_use_price", "_law_use_price", defArgs s_law_use_price, defBody s_law_use_price, defScope s_law_use_price, [], []⟩
def dd_law_least_masks : He.DefD := ⟨("_law_least_masks", none), "_law_least_masks", "_law_least_masks", defArgs s_law_least_masks, defBody s_law_least_masks, defScope s_law_least_masks, [], []⟩
def dd_law_lots : He.DefD := ⟨("_law_lots", none), "_law_lots", "_law_lots", defArgs s_law_lots, defBody s_law_lots, defScope s_law_lots, [], []⟩
def dd_law_lot_rank : He.DefD := ⟨("_law_lot_rank", none), "_law_lot_rank", "_law_lot_rank", defArgs s_law_lot_rank, defBody s_law_lot_rank, defScope s_law_lot_rank, [], []⟩
def dd_law_open_masks : He.DefD := ⟨("_law_open_masks", none), "_law_open_masks", "_law_open_masks", defArgs s_law_open_masks, defBody s_law_open_masks, defScope s_law_open_masks, [], []⟩
def dd_law_left : He.DefD := ⟨("_law_left", none), "_law_left", "_law_left", defArgs s_law_left, defBody s_law_left, defScope s_law_left, [], []⟩
def dd_law_limit : He.DefD := ⟨("_law_limit", none), "_law_limit", "_law_limit", defArgs s_law_limit, defBody s_law_limit, defScope s_law_limit, [], []⟩
def dd_law_limits_ok : He.DefD := ⟨("_law_limits_ok", none), "_law_limits_ok", "_law_limits_ok", defArgs s_law_limits_ok, defBody s_law_limits_ok, defScope s_law_limits_ok, [], []⟩
def dd_law : He.DefD := ⟨("law", none), "law", "law", defArgs s_law, defBody s_law, defScope s_law, [], []⟩
def fnL : List He.DefD := [dd_is_whole, dd_times_price, dd_lower, dd_lowest, dd_highest, dd_bits_of, dd_bit_count, dd_firsts, dd_minimal_masks, dd_blocker, dd_as_lots, dd_lot_rank, dd_TooMany_init, dd_row_number, dd_row_of, dd_rows_of, dd_chosen_number, dd_Table_init, dd_Table_eq, dd_swapped, dd_is_told, dd_Lot_init, dd_is_use, dd_Puzzle_init, dd_merged, dd_all_merged, dd_spread, dd_open_masks, dd_left_mask, dd_clashes, dd_menders, dd_menders_of, dd_law_begin, dd_law_draw, dd_law_rare, dd_law_row, dd_law_rows, dd_law_ones, dd_law_low, dd_law_times] ++ [dd_law_cost, dd_law_opened, dd_law_loose, dd_law_uses, dd_law_use_price, dd_law_least_masks, dd_law_lots, dd_law_lot_rank, dd_law_open_masks, dd_law_left, dd_law_limit, dd_law_limits_ok, dd_law]
def faL : List He.Fa := [.glo "is_whole", .glo "times_price", .glo "lower", .glo "lowest", .glo "highest", .glo "bits_of", .glo "bit_count", .glo "firsts", .glo "minimal_masks", .glo "blocker", .glo "as_lots", .glo "lot_rank", .glo "row_number", .glo "row_of", .glo "rows_of", .glo "chosen_number", .glo "swapped", .glo "is_told", .glo "is_use", .glo "merged", .glo "all_merged", .glo "spread", .glo "open_masks", .glo "left_mask", .glo "clashes", .glo "menders", .glo "menders_of", .glo "_law_begin", .glo "_law_draw", .glo "_law_rare", .glo "_law_row", .glo "_law_rows", .glo "_law_ones", .glo "_law_low", .glo "_law_times", .glo "_law_cost", .glo "_law_opened", .glo "_law_loose", .glo "_law_uses", .glo "_law_use_price"] ++ [.glo "_law_least_masks", .glo "_law_lots", .glo "_law_lot_rank", .glo "_law_open_masks", .glo "_law_left", .glo "_law_limit", .glo "_law_limits_ok", .glo "law", .free "NotImplemented", .free "ValueError", .free "abs", .free "all", .free "any", .free "bool", .free "enumerate", .free "int", .free "isinstance", .free "len", .free "list", .free "property", .free "range", .free "reversed", .free "sorted", .free "sum", .free "tuple", .free "zip", .int "PLACES" 4, .int "GREATEST" 100000000000000000000000000000000000000000000000000, .int "TABLES" 16, .int "DEAREST" 1000, .int "NAMES" 400, .int "USES" 20000, .int "TIMES" 10000000000000000000000000000000000000000, .int "SEARCHED" 12, .int "CLASHED" 10, .glo "Table", .mkr "Table", .meth "Table" "__eq__", .noat "Table" "places", .noat "Table" "prices"] ++ [.noat "Table" "least", .noat "Table" "most", .glo "Lot", .mkr "Lot", .noat "Lot" "tables", .noat "Lot" "swaps", .glo "Puzzle", .mkr "Puzzle", .noat "Puzzle" "lot", .noat "Puzzle" "many", .noat "Puzzle" "uses", .glo "TooMany", .noat "TooMany" "limit", .glo "PricedError", .exm "TooMany" "TooMany" true]
def myL : List (PySem.W.Frag → Bool) := [insB "Table", insB "Lot", insB "Puzzle", isiB "Table" "Table" true, isiB "Lot" "Lot" true, ownB "TooMany", basB "PricedError"]
abbrev RR : PySem.W.OpenRow := PySem.W.OpenLaw.row PySem.Challenge.rw_pricedrules_k77_clashes_menders
abbrev hkD : PySem.W.Hook := hookK 6 faL fnL myL
def obD (s : PySem.W.SharedT) : AlK := obsK 6 faL fnL myL (HandSHeadRun.getT s)
theorem obD_eq (s : PySem.W.SharedT) : obD s = hkD.obs s.abs := obsK_eq (HandSHeadRun.getT_eq s)
def looseL : List Str := ((["_wall", "is_whole", "is_bits", "added", "times_price", "summed", "lower", "lowest", "highest", "bits_of", "bit_count", "firsts", "minimal_masks", "blocker", "as_lots", "lot_rank", "PricedError", "BadTable", "BadRow", "BadLot"] : List Str) ++ (["BadPuzzle", "BadFilling", "TooMany", "row_number", "row_of", "rows_of", "chosen_number", "PLACES", "GREATEST", "Table", "swapped", "TABLES", "DEAREST", "is_told", "Lot", "NAMES", "USES", "TIMES", "is_use", "Puzzle"] : List Str) ++ (["merged", "all_merged", "SEARCHED", "spread", "CLASHED", "open_masks", "left_mask", "clashes", "menders", "menders_of", "_law_begin", "_law_draw", "_law_rare", "_law_row", "_law_rows", "_law_ones", "_law_low", "_law_times", "_law_cost", "_law_opened"] : List Str) ++ (["_law_loose", "_law_uses", "_law_use_price", "_law_least_masks", "_law_lots", "_law_lot_rank", "_law_open_masks", "_law_left", "_law_limit", "_law_limits_ok"] : List Str))
theorem runD (w : World) : HandSHeadRun.RunEq RR (PySem.W.view RR.prog [80]) hkD obD 8000 looseL w := by
  intro os
  kernel_rfl
end L2.KK
/-! == of nested tuples and lists of numbers, texts, None -/
namespace L2.KK
open PySem PySem.Spec PyProof.Rows C8
mutual
def pln : PyData → Bool
  | .none => true
  | .int _ => true
  | .bool _ => false
  | .str x => PyData.strOk x
  | .list xs => plnAll xs
  | .tuple xs => plnAll xs
  | .dict _ => false
def plnAll : List PyData → Bool
  | [] => true
  | x :: xs => pln x && plnAll xs
end
mutual
theorem pln_lay : ∀ d : PyData, pln d = true → d.canLay0 = true
  | .none, _ => by simp only [PyData.canLay0]
  | .int _, _ => by simp only [PyData.canLay0]
  | .bool _, h => by simp [pln] at h
  | .str x, h => by simpa [pln, PyData.canLay0] using h
  | .list xs, h => by simp only [PyData.canLay0]; exact plnAll_lay xs (by simpa [pln] using h)
  | .tuple xs, h => by simp only [PyData.canLay0]; exact plnAll_lay xs (by simpa [pln] using h)
  | .dict _, h => by simp [pln] at h
theorem plnAll_lay : ∀ xs : List PyData, plnAll xs = true → PyData.canLayAll0 xs = true
  | [], _ => by simp only [PyData.canLayAll0]
  | x :: xs, h => by
    have h' : pln x = true ∧ plnAll xs = true := by simpa [plnAll] using h
    simp only [PyData.canLayAll0, pln_lay x h'.1, plnAll_lay xs h'.2, Bool.and_self]
end
mutual
theorem eqv_iff : ∀ a b : PyData, pln a = true → pln b = true → (PyData.eqv a b = true ↔ a = b)
  | .none, b, _, hb => by cases b <;> simp [PyData.eqv, pln] at hb ⊢
  | .int i, b, _, hb => by cases b <;> simp [PyData.eqv, pln] at hb ⊢
  | .bool _, _, h, _ => by simp [pln] at h
  | .dict _, _, h, _ => by simp [pln] at h
  | .str x, b, _, hb => by cases b <;> simp [PyData.eqv, pln] at hb ⊢
  | .list xs, b, ha, hb => by
    cases b with
    | list ys =>
      have := eqvAll_iff xs ys (by simpa [pln] using ha) (by simpa [pln] using hb)
      simp only [PyData.eqv, this, PyData.list.injEq]
    | _ => simp [PyData.eqv]
  | .tuple xs, b, ha, hb => by
    cases b with
    | tuple ys =>
      have := eqvAll_iff xs ys (by simpa [pln] using ha) (by simpa [pln] using hb)
      simp only [PyData.eqv, this, PyData.tuple.injEq]
    | _ => simp [PyData.eqv]
theorem eqvAll_iff : ∀ xs ys : List PyData, plnAll xs = true → plnAll ys = true → (PyData.eqvAll xs ys = true ↔ xs = ys)
  | [], ys, _, _ => by cases ys <;> simp [PyData.eqvAll]
  | x :: xs, [], _, _ => by simp [PyData.eqvAll]
  | x :: xs, y :: ys, ha, hb => by
    have h1 : pln x = true ∧ plnAll xs = true := by simpa [plnAll] using ha
    have h2 : pln y = true ∧ plnAll ys = true := by simpa [plnAll] using hb
    simp only [PyData.eqvAll, Bool.and_eq_true, eqv_iff x y h1.1 h2.1, eqvAll_iff xs ys h1.2 h2.2, List.cons.injEq]
end
theorem pln_shaped {d : PyData} (h : pln d = true) (hd : d.depth ≤ 64) : SeqAt.shaped d = true := Bool.and_eq_true_iff.mpr ⟨pln_lay d h, decide_eq_true hd⟩
theorem plnAll_of : ∀ {xs : List PyData}, (∀ x ∈ xs, pln x = true) → plnAll xs = true
  | [], _ => rfl
  | x :: xs, h => by
    show (pln x && plnAll xs) = true
    rw [h x List.mem_cons_self, plnAll_of fun y hy => h y (List.mem_cons_of_mem _ hy)]
    rfl
theorem depthAll_le {n : Nat} : ∀ {xs : List PyData}, (∀ x ∈ xs, x.depth ≤ n) → PyData.depthAll xs ≤ n
  | [], _ => by unfold PyData.depthAll; omega
  | x :: xs, h => by
    unfold PyData.depthAll
    have := h x List.mem_cons_self
    have := depthAll_le fun y hy => h y (List.mem_cons_of_mem _ hy)
    omega
theorem depth_tup {n : Nat} {xs : List PyData} (h : ∀ x ∈ xs, x.depth ≤ n) : (PyData.tuple xs).depth ≤ n + 1 := by
  have := depthAll_le h
  unfold PyData.depth
  omega
theorem depth_lst {n : Nat} {xs : List PyData} (h : ∀ x ∈ xs, x.depth ≤ n) : (PyData.list xs).depth ≤ n + 1 := by
  have := depthAll_le h
  unfold PyData.depth
  omega
theorem pln_tup {xs : List PyData} (h : ∀ x ∈ xs, pln x = true) : pln (.tuple xs) = true := by
  show plnAll xs = true
  exact plnAll_of h
section
variable {K : PySem.W.Frag} {H : Hp} {x y : V} {dx dy : PyData} {Q : VK}
theorem eqd_pln (hx : Dp K H x dx) (hy : Dp K H y dy) (px : pln dx = true) (py : pln dy = true) (lx : dx.depth ≤ 64) (ly : dy.depth ≤ 64) (q : ∀ k : Bool, (k = true ↔ dx = dy) → Q (.bl k) H) : rEqD K x y H Q :=
  ⟨_, _, hx, hy, pln_shaped px lx, pln_shaped py ly, q _ (eqv_iff dx dy px py)⟩
theorem ned_pln (hx : Dp K H x dx) (hy : Dp K H y dy) (px : pln dx = true) (py : pln dy = true) (lx : dx.depth ≤ 64) (ly : dy.depth ≤ 64) (q : ∀ k : Bool, (k = true ↔ dx = dy) → Q (.bl (!k)) H) : rNeD K x y H Q :=
  ⟨_, _, hx, hy, pln_shaped px lx, pln_shaped py ly, q _ (eqv_iff dx dy px py)⟩
end
/-! prices as data -/
def pD : Option Nat → PyData
  | none => .none
  | some n => .int n
theorem pD_inj {a b : Option Nat} (h : pD a = pD b) : a = b := by
  cases a <;> cases b <;> simp [pD] at h
  · rfl
  · congr 1
    omega
theorem pD_pln (p : Option Nat) : pln (pD p) = true := by cases p <;> rfl
theorem pD_depth (p : Option Nat) : (pD p).depth ≤ 0 := by cases p <;> exact Nat.le_refl 0
theorem dp_price {K : PySem.W.Frag} {H : Hp} (p : Option Nat) : Dp K H (pV p) (pD p) := by
  cases p with
  | none => exact .non
  | some n => exact .int n
theorem dp_prices {K : PySem.W.Frag} {H : Hp} : ∀ ps : List (Option Nat), DpAll K H (ps.map pV) (ps.map pD)
  | [] => .nil
  | p :: ps => .cons (dp_price p) (dp_prices ps)
theorem pDs_inj {a b : List (Option Nat)} (h : a.map pD = b.map pD) : a = b := by
  induction a generalizing b with
  | nil => cases b with
    | nil => rfl
    | cons => cases h
  | cons x a ih => cases b with
    | nil => cases h
    | cons y b =>
      rw [List.map_cons, List.map_cons] at h
      injection h with h1 h2
      rw [pD_inj h1, ih h2]
end L2.KK
/-! plain: prices, rows, chosen numbers -/
namespace MK
def lowO : Option Nat → Option Nat → Option Nat
  | none, b => b
  | some x, none => some x
  | some x, some y => some (if x ≤ y then x else y)
def lowL (ps : List (Option Nat)) : Option Nat := ps.foldl lowO none
def hiO : Option Nat → Option Nat → Option Nat
  | b, none => b
  | none, some x => some x
  | some y, some x => if x > y then some x else some y
def hiL (ps : List (Option Nat)) : Option Nat := ps.foldl hiO none
def lowStep : Option Nat → Option Nat → Option Nat
  | b, none => b
  | none, some x => some x
  | some y, some x => if x < y then some x else some y
def lowS (ps : List (Option Nat)) : Option Nat := ps.foldl lowStep none
theorem fold_some {f : Option Nat → Option Nat → Option Nat} (h1 : ∀ x b, (f (some x) b).isSome = true) (h2 : ∀ a y, (f a (some y)).isSome = true) : ∀ (ps : List (Option Nat)) (a : Option Nat), (a.isSome = true ∨ ∃ p ∈ ps, p.isSome = true) → (ps.foldl f a).isSome = true
  | [], a, h => by
    rcases h with h | ⟨p, hp, _⟩
    · exact h
    · cases hp
  | p :: ps, a, h => by
    rw [List.foldl_cons]
    refine fold_some h1 h2 ps _ ?_
    rcases h with h | ⟨q, hq, h⟩
    · obtain ⟨x, rfl⟩ := Option.isSome_iff_exists.mp h
      exact .inl (h1 x p)
    · rcases List.mem_cons.mp hq with z | z
      · obtain ⟨y, rfl⟩ := Option.isSome_iff_exists.mp h
        rw [← z]
        exact .inl (h2 a y)
      · exact .inr ⟨q, z, h⟩
theorem lowL_some {ps : List (Option Nat)} (h : ∃ p ∈ ps, p.isSome = true) : (lowL ps).isSome = true :=
  fold_some (fun x b => by cases b <;> rfl) (fun a y => by cases a <;> rfl) ps none (.inr h)
theorem hiL_some {ps : List (Option Nat)} (h : ∃ p ∈ ps, p.isSome = true) : (hiL ps).isSome = true :=
  fold_some (fun x b => by
    cases b with
    | none => rfl
    | some y => show (if y > x then some y else some x).isSome = true; split <;> rfl) (fun a y => by
    cases a with
    | none => rfl
    | some x => show (if y > x then some y else some x).isSome = true; split <;> rfl) ps none (.inr h)
theorem fold_none : ∀ (ps : List (Option Nat)), (∀ p ∈ ps, p = none) → ps.foldl lowStep none = none
  | [], _ => rfl
  | p :: ps, h => by
    rw [List.foldl_cons, h p List.mem_cons_self]
    exact fold_none ps fun q hq => h q (List.mem_cons_of_mem _ hq)
theorem lowS_some {ps : List (Option Nat)} : (lowS ps).isSome = true ↔ ∃ p ∈ ps, p.isSome = true := by
  constructor
  · intro h
    refine Classical.byContradiction fun n => ?_
    have : lowS ps = none := fold_none ps fun p hp => by
      cases p with
      | none => rfl
      | some x => exact absurd ⟨_, hp, rfl⟩ n
    rw [this] at h
    cases h
  · exact fun h => fold_some (fun x b => by
      cases b with
      | none => rfl
      | some y => show (if y < x then some y else some x).isSome = true; split <;> rfl) (fun a y => by
      cases a with
      | none => rfl
      | some x => show (if y < x then some y else some x).isSome = true; split <;> rfl) ps none (.inr h)
theorem hi_le {B : Nat} : ∀ (ps : List (Option Nat)) (a : Option Nat), (∀ m, a = some m → m ≤ B) → (∀ p ∈ ps, ∀ m, p = some m → m ≤ B) → ∀ m, ps.foldl hiO a = some m → m ≤ B
  | [], a, ha, _, m, h => ha m h
  | p :: ps, a, ha, hp, m, h => by
    rw [List.foldl_cons] at h
    refine hi_le ps _ (fun k hk => ?_) (fun q hq => hp q (List.mem_cons_of_mem _ hq)) m h
    have h1 := hp p List.mem_cons_self
    cases p with
    | none =>
      cases a with
      | none => exact ha k hk
      | some y => exact ha k hk
    | some x =>
      cases a with
      | none => exact h1 k hk
      | some y =>
        have e : hiO (some y) (some x) = if x > y then some x else some y := rfl
        rw [e] at hk
        by_cases hxy : x > y
        · rw [if_pos hxy] at hk
          exact h1 k hk
        · rw [if_neg hxy] at hk
          exact ha k hk
theorem hiL_le {B : Nat} {ps : List (Option Nat)} (h : ∀ p ∈ ps, ∀ m, p = some m → m ≤ B) : ∀ m, hiL ps = some m → m ≤ B := hi_le ps none (fun _ h => nomatch h) h
/-- the bits of n, the first place the greatest one -/
def rowL (n k : Nat) : List Nat := (List.range k).map fun j => n >>> (k - 1 - j) &&& 1
theorem rowL_len (n k : Nat) : (rowL n k).length = k := by unfold rowL; rw [List.length_map, List.length_range]
def chosen (picks fill : List Nat) : Nat := picks.foldl (fun r x => r * 2 + fill.getD x 0) 0
def first1 (acc : List Nat) (x : Nat) : List Nat := if x ∈ acc then acc else acc ++ [x]
def firstsL (ns : List Nat) : List Nat := ns.foldl first1 []
end MK
/-! plain: merged uses, open masks, clashes and menders -/
namespace MK
def bitAt (n many nm : Nat) : Nat := n >>> (many - 1 - nm) &&& 1
theorem bitAt_le (n many nm : Nat) : bitAt n many nm ≤ 1 := by
  unfold bitAt
  rw [Nat.and_one_is_mod]
  omega
def cat2 (bs : List Nat) (r : Nat) : Nat := bs.foldl (fun r b => r * 2 + b) r
theorem cat2_eq : ∀ (bs : List Nat) (r : Nat), cat2 bs r = r * 2 ^ bs.length + cat2 bs 0
  | [], r => by simp [cat2]
  | b :: bs, r => by
    show cat2 bs (r * 2 + b) = r * 2 ^ (bs.length + 1) + cat2 bs (0 * 2 + b)
    rw [cat2_eq bs (r * 2 + b), cat2_eq bs (0 * 2 + b), Nat.pow_succ, Nat.add_mul, Nat.add_mul]
    have : r * 2 * 2 ^ bs.length = r * (2 ^ bs.length * 2) := by rw [Nat.mul_assoc, Nat.mul_comm 2]
    omega
theorem cat2_lt : ∀ (bs : List Nat), (∀ b ∈ bs, b ≤ 1) → cat2 bs 0 < 2 ^ bs.length
  | [], _ => Nat.one_pos
  | b :: bs, h => by
    show cat2 bs (0 * 2 + b) < 2 ^ (bs.length + 1)
    rw [cat2_eq, Nat.pow_succ]
    have h1 := cat2_lt bs fun x hx => h x (List.mem_cons_of_mem _ hx)
    have h2 := h b List.mem_cons_self
    have : (0 * 2 + b) * 2 ^ bs.length ≤ 1 * 2 ^ bs.length := Nat.mul_le_mul_right _ (by omega)
    omega
/-- the bits of what was put together are its parts -/
theorem rowL_cat2 : ∀ (bs : List Nat), (∀ b ∈ bs, b ≤ 1) → ∀ j, j < bs.length → (cat2 bs 0) >>> (bs.length - 1 - j) &&& 1 = bs.getD j 0
  | [], _, j, hj => absurd hj (Nat.not_lt_zero j)
  | b :: bs, h, j, hj => by
    have hb := h b List.mem_cons_self
    have hbs : ∀ x ∈ bs, x ≤ 1 := fun x hx => h x (List.mem_cons_of_mem _ hx)
    have lt := cat2_lt bs hbs
    have e : cat2 (b :: bs) 0 = b * 2 ^ bs.length + cat2 bs 0 := by
      show cat2 bs (0 * 2 + b) = _
      rw [cat2_eq]
      congr 2
      omega
    rw [e, List.length_cons, Nat.and_one_is_mod, Nat.shiftRight_eq_div_pow]
    cases j with
    | zero =>
      have p : bs.length + 1 - 1 - 0 = bs.length := by omega
      rw [p, Nat.mul_comm b, Nat.mul_add_div (Nat.two_pow_pos _), Nat.div_eq_of_lt lt]
      show (b + 0) % 2 = b
      omega
    | succ j =>
      have hj' : j < bs.length := Nat.lt_of_succ_lt_succ hj
      have ih := rowL_cat2 bs hbs j hj'
      rw [Nat.and_one_is_mod, Nat.shiftRight_eq_div_pow] at ih
      have p : bs.length + 1 - 1 - (j + 1) = bs.length - 1 - j := by omega
      rw [p, List.getD_cons_succ, ← ih]
      have q : 2 ^ bs.length = 2 ^ (bs.length - 1 - j) * (2 ^ j * 2) := by
        rw [← Nat.pow_succ, ← Nat.pow_add]
        congr 1
        omega
      rw [q, show b * (2 ^ (bs.length - 1 - j) * (2 ^ j * 2)) = 2 ^ (bs.length - 1 - j) * (b * 2 ^ j * 2) by
        rw [Nat.mul_left_comm, Nat.mul_assoc], Nat.mul_add_div (Nat.two_pow_pos _)]
      omega
theorem rowL_getD {n k j : Nat} (h : j < k) : (rowL n k).getD j 0 = bitAt n k j := by
  unfold rowL
  rw [List.getD_eq_getElem?_getD, List.getElem?_map, List.getElem?_range h]
  rfl
theorem rowL_of_cat2 {bs : List Nat} (h : ∀ b ∈ bs, b ≤ 1) {j : Nat} (hj : j < bs.length) : (rowL (cat2 bs 0) bs.length).getD j 0 = bs.getD j 0 := by
  rw [rowL_getD hj]
  exact rowL_cat2 bs h j hj
/-! firsts -/
theorem firsts_mem : ∀ (ns acc : List Nat) (x : Nat), x ∈ ns.foldl first1 acc ↔ x ∈ acc ∨ x ∈ ns
  | [], acc, x => by simp
  | n :: ns, acc, x => by
    rw [List.foldl_cons, firsts_mem ns]
    unfold first1
    split
    · rename_i h
      constructor
      · rintro (z | z)
        · exact .inl z
        · exact .inr (List.mem_cons_of_mem _ z)
      · rintro (z | z)
        · exact .inl z
        · rcases List.mem_cons.mp z with e | e
          · rw [e]; exact .inl h
          · exact .inr e
    · rw [List.mem_append, List.mem_singleton, List.mem_cons]
      constructor
      · rintro ((z | z) | z)
        · exact .inl z
        · exact .inr (.inl z)
        · exact .inr (.inr z)
      · rintro (z | z | z)
        · exact .inl (.inl z)
        · exact .inl (.inr z)
        · exact .inr z
theorem mem_firstsL {ns : List Nat} {x : Nat} : x ∈ firstsL ns ↔ x ∈ ns := by
  unfold firstsL
  rw [firsts_mem]
  simp
theorem firsts_len : ∀ (ns acc : List Nat), (ns.foldl first1 acc).length ≤ acc.length + ns.length
  | [], acc => Nat.le_refl _
  | n :: ns, acc => by
    rw [List.foldl_cons]
    have := firsts_len ns (first1 acc n)
    have h : (first1 acc n).length ≤ acc.length + 1 := by
      unfold first1
      split
      · omega
      · rw [List.length_append]; exact Nat.le_refl _
    rw [List.length_cons]
    omega
theorem firstsL_len (ns : List Nat) : (firstsL ns).length ≤ ns.length := by
  have := firsts_len ns []
  rw [List.length_nil] at this
  unfold firstsL
  omega
/-- the first place of a member -/
theorem idx_of {ns : List Nat} {x : Nat} (h : x ∈ ns) : ns.idxOf x < ns.length ∧ ns[ns.idxOf x]? = some x ∧ ∀ m, m < ns.idxOf x → ns[m]? ≠ some x := by
  have hl := List.idxOf_lt_length_of_mem h
  refine ⟨hl, ?_, fun m hm e => ?_⟩
  · rw [List.getElem?_eq_getElem hl, List.getElem_idxOf hl]
  · obtain ⟨h1, h2⟩ := List.getElem?_eq_some_iff.mp e
    have := List.not_of_lt_findIdx (p := (· == x)) (xs := ns) (i := m) hm
    rw [h2] at this
    simp at this
def spr (ones : List Nat) (many n : Nat) : Nat := ones.foldl (fun r nm => r * 2 + bitAt n many nm) 0
theorem spr_cat (ones : List Nat) (many n : Nat) : spr ones many n = cat2 (ones.map (bitAt n many)) 0 := by
  unfold spr cat2
  rw [List.foldl_map]
theorem spr_lt (ones : List Nat) (many n : Nat) : spr ones many n < 2 ^ ones.length := by
  rw [spr_cat]
  have := cat2_lt (ones.map (bitAt n many)) fun b hb => by
    obtain ⟨x, _, rfl⟩ := List.mem_map.mp hb
    exact bitAt_le _ _ _
  rw [List.length_map] at this
  exact this
def whereL (ones names : List Nat) : List Nat := names.map fun x => ones.idxOf x
theorem fold_cat {g : Nat → Nat} (ps : List Nat) : ps.foldl (fun r x => r * 2 + g x) 0 = cat2 (ps.map g) 0 := by
  unfold cat2
  rw [List.foldl_map]
theorem chosen_cat (ps fs : List Nat) : chosen ps fs = cat2 (ps.map fun x => fs.getD x 0) 0 := fold_cat ps
/-- the merged use's number is the use's own -/
theorem merged_number {names : List Nat} {many n : Nat} (h : ∀ x ∈ names, x < many) : chosen (whereL (firstsL names) names) (rowL (spr (firstsL names) many n) (firstsL names).length) = chosen names (rowL n many) := by
  rw [chosen_cat, chosen_cat]
  congr 1
  unfold whereL
  rw [List.map_map]
  refine List.map_congr_left fun x hx => ?_
  obtain ⟨hl, hg, _⟩ := idx_of (mem_firstsL.mpr hx)
  show (rowL (spr (firstsL names) many n) (firstsL names).length).getD ((firstsL names).idxOf x) 0 = (rowL n many).getD x 0
  rw [rowL_getD (h x hx), spr_cat]
  have q := rowL_of_cat2 (bs := (firstsL names).map (bitAt n many)) (j := (firstsL names).idxOf x) (fun b hb => by
    obtain ⟨y, _, rfl⟩ := List.mem_map.mp hb
    exact bitAt_le _ _ _) (by rw [List.length_map]; exact hl)
  rw [List.length_map] at q
  rw [q, List.getD_eq_getElem?_getD, List.getElem?_map, hg]
  rfl
theorem chosen_lt {names fs : List Nat} (h : ∀ b ∈ fs, b ≤ 1) : chosen names fs < 2 ^ names.length := by
  rw [chosen_cat]
  have := cat2_lt (names.map fun x => fs.getD x 0) fun b hb => by
    obtain ⟨x, _, rfl⟩ := List.mem_map.mp hb
    rw [List.getD_eq_getElem?_getD]
    cases e : fs[x]? with
    | none => exact Nat.zero_le 1
    | some y => exact h y (List.mem_of_getElem? e)
  rw [List.length_map] at this
  exact this
theorem rowL_le (n k : Nat) : ∀ b ∈ rowL n k, b ≤ 1 := fun b hb => by
  obtain ⟨j, _, rfl⟩ := List.mem_map.mp hb
  rw [Nat.and_one_is_mod]
  omega
/-! open masks -/
def maskF (f : Nat → Option Nat) (n : Nat) : Nat := (List.range n).foldl (fun m i => if (f i).isSome = true then m ||| 2 ^ i else m) 0
theorem maskF_succ (f : Nat → Option Nat) (n : Nat) : maskF f (n + 1) = if (f n).isSome = true then maskF f n ||| 2 ^ n else maskF f n := by
  unfold maskF
  rw [List.range_succ, List.foldl_append]
  rfl
theorem maskF_lt (f : Nat → Option Nat) : ∀ n, maskF f n < 2 ^ n
  | 0 => Nat.one_pos
  | n + 1 => by
    rw [maskF_succ]
    have h := maskF_lt f n
    have p : 2 ^ n < 2 ^ (n + 1) := Nat.pow_lt_pow_right (by decide) (Nat.lt_succ_self n)
    split
    · exact Nat.or_lt_two_pow (by omega) p
    · omega
theorem maskF_congr {f g : Nat → Option Nat} : ∀ n, (∀ i, i < n → (f i).isSome = (g i).isSome) → maskF f n = maskF g n
  | 0, _ => rfl
  | n + 1, h => by
    rw [maskF_succ, maskF_succ, maskF_congr n fun i hi => h i (by omega), h n (Nat.lt_succ_self n)]
/-! what is left -/
def leftM (ms : List Nat) (lot many : Nat) : Nat := (bitsOf lot ms.length).foldl (fun l s => l &&& ms.getD s 0) (2 ^ 2 ^ many - 1)
theorem left_bit : ∀ (ss : List Nat) (ms : List Nat) (a i : Nat), (ss.foldl (fun l s => l &&& ms.getD s 0) a).testBit i = (a.testBit i && ss.all fun s => (ms.getD s 0).testBit i)
  | [], ms, a, i => by simp
  | s :: ss, ms, a, i => by
    rw [List.foldl_cons, left_bit ss, Nat.testBit_and, List.all_cons, Bool.and_assoc]
theorem foldl_sub {ss : List Nat} {ms : List Nat} {a : Nat} : sub (ss.foldl (fun l s => l &&& ms.getD s 0) a) a := sub_iff.mpr fun i h => by
  rw [left_bit] at h
  exact (Bool.and_eq_true_iff.mp h).1
theorem left_anti {ms : List Nat} {a b many : Nat} (h : sub a b) : sub (leftM ms b many) (leftM ms a many) := sub_iff.mpr fun i hi => by
  unfold leftM at hi ⊢
  rw [left_bit, Bool.and_eq_true, List.all_eq_true] at hi ⊢
  refine ⟨hi.1, fun s hs => hi.2 s ?_⟩
  rw [mem_bitsOf] at hs ⊢
  exact ⟨hs.1, sub_iff.mp h s hs.2⟩
/-- a lot of uses that leaves nothing open -/
def Bad (ms : List Nat) (many lot : Nat) : Prop := leftM ms lot many = 0
theorem bad_up {ms : List Nat} {many a b : Nat} (h : sub a b) (hb : Bad ms many a) : Bad ms many b := by
  have := left_anti (ms := ms) (many := many) h
  unfold Bad at hb ⊢
  rw [hb] at this
  have := sub_le this
  omega
def badL (ms : List Nat) (many : Nat) : List Nat := (List.range (2 ^ ms.length)).filter fun lot => decide (leftM ms lot many = 0)
def goodL (ms : List Nat) (many : Nat) : List Nat := (List.range (2 ^ ms.length)).filter fun lot => !decide (leftM ms ((2 ^ ms.length - 1) ^^^ lot) many = 0)
theorem mem_badL {ms : List Nat} {many x : Nat} : x ∈ badL ms many ↔ x < 2 ^ ms.length ∧ Bad ms many x := by
  unfold badL Bad
  rw [List.mem_filter, List.mem_range, decide_eq_true_iff]
theorem mem_goodL {ms : List Nat} {many x : Nat} : x ∈ goodL ms many ↔ x < 2 ^ ms.length ∧ ¬ Bad ms many ((2 ^ ms.length - 1) ^^^ x) := by
  unfold goodL Bad
  rw [List.mem_filter, List.mem_range]
  simp
theorem compl_bit {n x i : Nat} (h : x < 2 ^ n) : ((2 ^ n - 1) ^^^ x).testBit i = (decide (i < n) && !x.testBit i) := by
  rw [Nat.testBit_xor, Nat.testBit_two_pow_sub_one]
  by_cases hi : i < n
  · rw [decide_eq_true hi]; simp
  · rw [decide_eq_false hi, Nat.testBit_lt_two_pow (Nat.lt_of_lt_of_le h (Nat.pow_le_pow_right (by decide) (by omega)))]; rfl
/-- the good lots are those that meet every least bad one -/
theorem good_tr {ms : List Nat} {many : Nat} {B : List Nat} (hB : ∀ x, x ∈ B ↔ MinOf (· ∈ badL ms many) x) (x : Nat) : x ∈ goodL ms many ↔ Tr B ms.length x := by
  rw [mem_goodL]
  constructor
  · rintro ⟨h1, h2⟩
    refine ⟨h1, fun m hm z => h2 ?_⟩
    have hb := ((hB m).mp hm).1
    obtain ⟨m1, m2⟩ := mem_badL.mp hb
    refine bad_up (sub_iff.mpr fun i hi => ?_) m2
    rw [compl_bit h1, decide_eq_true (bit_of_lt m1 hi), Bool.true_and]
    cases hx : x.testBit i with
    | false => rfl
    | true => exact absurd z (and_ne.mpr ⟨i, hx, hi⟩)
  · rintro ⟨h1, h2⟩
    refine ⟨h1, fun hb => ?_⟩
    have lt : (2 ^ ms.length - 1) ^^^ x < 2 ^ ms.length := Nat.xor_lt_two_pow (by have := Nat.two_pow_pos ms.length; omega) h1
    obtain ⟨y, hy, hs⟩ := exists_min (S := (· ∈ badL ms many)) _ _ (Nat.le_refl _) (mem_badL.mpr ⟨lt, hb⟩)
    refine h2 y ((hB y).mpr hy) ?_
    refine Classical.byContradiction fun ne => ?_
    obtain ⟨i, i1, i2⟩ := and_ne.mp ne
    have := sub_iff.mp hs i i2
    rw [compl_bit h1, i1] at this
    simp at this
end MK
namespace L2.KK
open PySem PySem.Spec PyProof.Rows C8
theorem sc_law_rare : FnScope ["d", "many"] ["d", "many"] (defScope s_law_rare) := ⟨rfl, rfl, rfl, by decide +kernel, rfl, by decide +kernel, by decide +kernel⟩
section
variable {P : Program} {w : World} {K : PySem.W.Frag} {mg : Str → Option Value} {base : Heap}
abbrev nL (xs : List Nat) : List V := xs.map nV
theorem nL_get {xs : List Nat} {i : Nat} (h : i < xs.length) : (nL xs)[i]? = some (nV xs[i]) := by
  rw [List.getElem?_map, List.getElem?_eq_getElem h]
  rfl
/-! ### drawn things -/
def spRare : Sp := fun vs H Q _ => ∃ (d c : Addr) (m : Int), vs = [.ref d, .int m] ∧ Dr H d c ∧ 1 ≤ m ∧ m < 1073741824 ∧ ∀ (b : Bool) H', Dr H' d c → Kp d H H' → Q (.bl b) H'
def spPick : Sp := fun vs H Q _ => ∃ (d c a : Addr) (xs : List V), vs = [.ref d, .ref a] ∧ Dr H d c ∧ H a = some (.lst xs) ∧ a ≠ d ∧ a ≠ c ∧ 0 < xs.length ∧ xs.length ≤ 100000 ∧
  ∀ (i : Nat) (v : V) H', xs[i]? = some v → Dr H' d c → Kp d H H' → Q v H'
def spPop : Sp := fun vs H Q _ => ∃ (d c a : Addr) (xs : List V), vs = [.ref d, .ref a] ∧ Dr H d c ∧ H a = some (.lst xs) ∧ a ≠ d ∧ a ≠ c ∧ 0 < xs.length ∧ xs.length ≤ 100000 ∧
  ∀ (i : Nat) (v : V) H', xs[i]? = some v → Dr H' d c → H' a = some (.lst (xs.eraseIdx i)) → (∀ b o, H b = some o → b ≠ d → b ≠ a → H' b = some o) → Q v H'
def spShuf (K : PySem.W.Frag) : Sp := fun vs H Q _ => ∃ (d c a : Addr) (xs : List V), vs = [.ref d, .ref a] ∧ Dr H d c ∧ SqL K H a xs ∧ xs.length ≤ 100000 ∧
  ∀ (p : Addr) (ys : List V) H', ys.Perm xs → H p = none → H' p = some (.lst ys) → Dr H' d c → Kp d H H' → Q (.ref p) H'
theorem c_rare (D : FnAt K mg "_law_rare" s_law_rare) (T : Bl mg) (c_law_draw : Cal P w K mg base 1 "_law_draw" spDraw []) : Cal P w K mg base 2 "_law_rare" spRare [] := by
  refine calOf D sc_law_rare (fun _ _ _ _ _ _ us hl => match us, hl with | [_, _], _ => rfl) (fun vs H Q E h => ?_) (fun f cdv A outer s H vs Q E hr h => ?_)
  · obtain ⟨d, c, m, rfl, _⟩ := h
    rfl
  · obtain ⟨d, c, m, rfl, D, h1, h2, k⟩ := h
    refine ⟨_, (pss_one (ps_ret (pe_cmpR op_eq (pe_c c_law_draw hr (by decide) (by rfl) (pa_cons (pv 0) (pa_cons (pv 1) pa_nil))) (pe_op op_fdivN (pv 1) pe_int) (nomark _)))), ?_⟩
    refine ⟨_, rfl, _, rfl, d, c, m, rfl, D, h1, h2, fun n H' _ D' kp => ?_⟩
    exact ⟨_, rfl, m, 2, rfl, rfl, ⟨by decide, by decide⟩, rfl, k _ H' D' kp⟩
theorem erase_perm {α : Type} : ∀ (l : List α) (i : Nat) (h : i < l.length), (l[i] :: l.eraseIdx i).Perm l
  | [], _, h => absurd h (Nat.not_lt_zero _)
  | _ :: _, 0, _ => List.Perm.refl _
  | a :: l, i + 1, h => by
    show (l[i]'(Nat.lt_of_succ_lt_succ h) :: a :: l.eraseIdx i).Perm (a :: l)
    exact (List.Perm.swap a _ _).trans ((erase_perm l i (Nat.lt_of_succ_lt_succ h)).cons a)
theorem seqIx {n k : Nat} (h : k < n) : seqIndex? (k : Int) n = some k := by
  unfold seqIndex?
  have h0 : ¬ (k : Int) < 0 := by omega
  simp [h0]
  omega
end
end L2.KK
namespace L2.KK
open PySem PySem.Spec PyProof.Rows C8
theorem sc_law_ones : FnScope ["mask", "many"] ["mask"] (defScope s_law_ones) := ⟨rfl, rfl, rfl, by decide +kernel, rfl, by decide +kernel, by decide +kernel⟩
theorem sc_bit_count : FnScope ["mask", "many"] ["mask"] (defScope s_bit_count) := ⟨rfl, rfl, rfl, by decide +kernel, rfl, by decide +kernel, by decide +kernel⟩
theorem sc_bits_of : FnScope ["mask", "many", "spot"] ["mask", "many"] (defScope s_bits_of) := ⟨rfl, rfl, rfl, by decide +kernel, rfl, by decide +kernel, by decide +kernel⟩
section
variable {P : Program} {w : World} {K : PySem.W.Frag} {mg : Str → Option Value} {base : Heap}
/-! ### bits -/
def spOnes : Sp := fun vs H Q _ => ∃ m : Nat, vs = [nV m] ∧ Q (nV (MK.pc m)) H
theorem clear_step {k c n : Nat} (h : MK.pc k + c = n) (h0 : 0 < k) : MK.pc (k &&& (k - 1)) + (c + 1) = n ∧ k &&& (k - 1) < k := by
  obtain ⟨a, b⟩ := MK.clear_low k k (Nat.le_refl _) h0
  exact ⟨by omega, b⟩
theorem c_ones (D : FnAt K mg "_law_ones" s_law_ones) (T : Bl mg) : Cal P w K mg base 1 "_law_ones" spOnes [] := by
  refine calOf D sc_law_ones (fun _ _ _ _ _ _ us hl => match us, hl with | [_], _ => rfl) (fun vs H Q E h => ?_) (fun f cdv A outer s H vs Q E hr h => ?_)
  · obtain ⟨m, rfl, _⟩ := h
    rfl
  · obtain ⟨m, rfl, k⟩ := h
    have nd := sc_law_ones.nd
    refine ⟨_, (pss_cons (ps_set (i := 1) nd rfl (by first | exact Or.inl rfl | exact Or.inr rfl) pe_int)
      (pss_cons (ps_while PassesOwn.never (pt_cmpR op_gt (pv 0) pe_int (nomark _))
        (pss_cons (ps_set (i := 0) nd rfl (by first | exact Or.inl rfl | exact Or.inr rfl) (pe_op op_andN (pv 0) (pe_op op_subNN (pv 0) pe_int)))
        (pss_one (ps_aug (i := 1) nd rfl (by first | exact Or.inl rfl | exact Or.inr rfl) pe_int ip_add))))
      (pss_one (ps_ret (pv 1))))), ?_⟩
    refine ⟨fun n σ' H' => ∃ c, σ' = [some (nV n), some (nV c)] ∧ H' = H ∧ MK.pc n + c = MK.pc m, ⟨m, 0, rfl, rfl, rfl⟩, ?_⟩
    rintro n σ' H' ⟨c, rfl, rfl, e⟩
    refine ⟨_, rfl, _, 0, rfl, rfl, _, rfl, ite2 (fun h => ?_) (fun h => ?_)⟩
    · have h0 : 0 < n := by
        have := of_decide_eq_true h
        omega
      obtain ⟨e1, e2⟩ := clear_step e h0
      refine ⟨fun σ' H'' => ∃ c, σ' = [some (nV (n &&& (n - 1))), some (nV c)] ∧ H'' = H' ∧ MK.pc (n &&& (n - 1)) + c = MK.pc m, fun σ' H'' ⟨c', a1, a2, a3⟩ => ⟨_, e2, c', a1, a2, a3⟩, ?_⟩
      refine ⟨_, rfl, _, rfl, n, 1, rfl, rfl, h0, n, n - 1, rfl, rfl, ?_⟩
      exact ⟨_, rfl, _, 1, rfl, rfl, c + 1, rfl, rfl, e1⟩
    · have h0 : n = 0 := by
        have := of_decide_eq_false (by simpa using h : decide ((0 : Int) < (n : Int)) = false)
        omega
      subst h0
      rw [MK.pc_zero, Nat.zero_add] at e
      rw [← e] at k
      exact ⟨_, rfl, k⟩
theorem c_bit_count (D : FnAt K mg "bit_count" s_bit_count) (T : Bl mg) : Cal P w K mg base 1 "bit_count" spOnes [] := by
  refine calOf D sc_bit_count (fun _ _ _ _ _ _ us hl => match us, hl with | [_], _ => rfl) (fun vs H Q E h => ?_) (fun f cdv A outer s H vs Q E hr h => ?_)
  · obtain ⟨m, rfl, _⟩ := h
    rfl
  · obtain ⟨m, rfl, k⟩ := h
    have nd := sc_bit_count.nd
    refine ⟨_, (pss_cons (ps_set (i := 1) nd rfl (by first | exact Or.inl rfl | exact Or.inr rfl) pe_int)
      (pss_cons (ps_while PassesOwn.never (ptTru K (pv 0))
        (pss_cons (ps_set (i := 0) nd rfl (by first | exact Or.inl rfl | exact Or.inr rfl) (pe_op op_andN (pv 0) (pe_op op_subNN (pv 0) pe_int)))
        (pss_one (ps_set (i := 1) nd rfl (by first | exact Or.inl rfl | exact Or.inr rfl) (pe_op op_add (pv 1) pe_int)))))
      (pss_one (ps_ret (pv 1))))), ?_⟩
    refine ⟨fun n σ' H' => ∃ c, σ' = [some (nV n), some (nV c)] ∧ H' = H ∧ MK.pc n + c = MK.pc m, ⟨m, 0, rfl, rfl, rfl⟩, ?_⟩
    rintro n σ' H' ⟨c, rfl, rfl, e⟩
    refine ⟨_, rfl, _, rfl, ite2 (fun h => ?_) (fun h => ?_)⟩
    · have h0 : 0 < n := by
        have : (n : Int) ≠ 0 := by simpa using h
        omega
      obtain ⟨e1, e2⟩ := clear_step e h0
      refine ⟨fun σ' H'' => ∃ c, σ' = [some (nV (n &&& (n - 1))), some (nV c)] ∧ H'' = H' ∧ MK.pc (n &&& (n - 1)) + c = MK.pc m, fun σ' H'' ⟨c', a1, a2, a3⟩ => ⟨_, e2, c', a1, a2, a3⟩, ?_⟩
      refine ⟨_, rfl, _, rfl, n, 1, rfl, rfl, h0, n, n - 1, rfl, rfl, ?_⟩
      exact ⟨_, rfl, _, 1, rfl, rfl, c + 1, rfl, rfl, e1⟩
    · have h0 : n = 0 := by
        have : ¬ (n : Int) ≠ 0 := by simpa using h
        omega
      subst h0
      rw [MK.pc_zero, Nat.zero_add] at e
      rw [← e] at k
      exact ⟨_, rfl, k⟩
/-- a new list comes back, all that stood stands -/
def NewL (H : Hp) (Q : VK) (xs : List V) : Prop := ∀ p H', Same H H' → H p = none → H' p = some (.lst xs) → Q (.ref p) H'
def spBits : Sp := fun vs H Q _ => ∃ m n : Nat, vs = [nV m, nV n] ∧ n ≤ 100000 ∧ NewL H Q (nL (MK.bitsOf m n))
theorem shr_bit (m i : Nat) : (((m >>> i &&& 1 : Nat) : Int) != 0) = m.testBit i := by
  rw [Nat.testBit_eq_decide_div_mod_eq, Nat.and_one_is_mod, Nat.shiftRight_eq_div_pow]
  have : m / 2 ^ i % 2 = 0 ∨ m / 2 ^ i % 2 = 1 := by omega
  rcases this with e | e <;> rw [e] <;> rfl
theorem lt_line {n : Nat} (h : n ≤ 16777216) : n ≤ sizeLine := by rw [sizeLine_eq]; exact h
theorem c_bits_of (D : FnAt K mg "bits_of" s_bits_of) (T : Bl mg) : Cal P w K mg base 1 "bits_of" spBits [] := by
  refine calOf D sc_bits_of (fun _ _ _ _ _ _ us hl => match us, hl with | [_, _], _ => rfl) (fun vs H Q E h => ?_) (fun f cdv A outer s H vs Q E hr h => ?_)
  · obtain ⟨m, n, rfl, _⟩ := h
    rfl
  · obtain ⟨m, n, rfl, hn, k⟩ := h
    have nd := sc_bits_of.nd
    refine ⟨_, (pss_one (ps_ret (pe_lc (own := [("spot", 2)]) (g := gName 2) rfl nd (pi_range1 (by rfl) T.b_range (pa_cons (pv 1) pa_nil)) (blkOk_by (N := ["mask", "many", "spot"]) (sc := defScope s_bits_of) (own := [("spot", 2)]) (by decide +kernel)) (fun _ _ _ _ _ => (pg_name (i := 2) nd rfl (by first | exact Or.inl rfl | exact Or.inr rfl))) (fun _ _ _ _ _ => (pts_one (ptTru K (pe_op op_andN (pe_op op_shrNN (pv 0) (pv 2)) pe_int)))) (fun _ _ _ _ _ => (pv 2))))), ?_⟩
    refine ⟨_, rfl, n, rfl, by omega, by omega, ?_⟩
    rw [Int.toNat_natCast]
    refine fun D hD => lc_rangeT (lo := 0) (sel := fun i => m.testBit i) (P := fun i y _ => y = nV i) ⟨fun _ _ _ _ _ h => h, fun i H' hi _ R r => ?_, fun i H' hi _ _ R r => ?_⟩ hD (lt_line (by omega)) (fun H1 ys sm hd _ pr => ?_)
    · refine ⟨_, rfl, _, rfl, m, i, rfl, by rw [Int.zero_add], _, 1, rfl, rfl, m.testBit i, ?_, r H' (Same.refl H')⟩
      exact (shr_bit m i).symm
    · exact ⟨_, rfl, r _ H' (Same.refl H') (by rw [Int.zero_add])⟩
    · rw [paired_map_eq pr] at hd
      exact k D H1 sm hD hd
end
end L2.KK
namespace L2.KK
open PySem PySem.Spec PyProof.Rows C8
theorem sc_minimal_masks : FnScope ["masks", "ordered", "mask", "found", "size", "known"] ["masks"] (defScope s_minimal_masks) := ⟨rfl, rfl, rfl, by decide +kernel, rfl, by decide +kernel, by decide +kernel⟩
section
variable {P : Program} {w : World} {K : PySem.W.Frag} {mg : Str → Option Value} {base : Heap}
theorem nL_getD {ms : List Nat} {i : Nat} (h : i < (nL ms).length) : (nL ms).getD i .non = nV (ms.getD i 0) := by
  rw [List.length_map] at h
  rw [List.getD_eq_getElem?_getD, List.getD_eq_getElem?_getD, nL_get h, List.getElem?_eq_getElem h]
  rfl
theorem paired_map_of {α β γ : Type} {F : α → β → Prop} {f : α → γ} {g : β → γ} : ∀ {a : List α} {b : List β}, Paired F a b → (∀ x y, F x y → f x = g y) → a.map f = b.map g
  | _, _, .nil, _ => rfl
  | _, _, .cons r t, h => by rw [List.map_cons, List.map_cons, h _ _ r, paired_map_of t h]
theorem nL_snoc (g : List Nat) (m : Nat) : nL (g ++ [m]) = nL g ++ [nV m] := by
  show (g ++ [m]).map nV = _
  rw [List.map_append]
  rfl
/-! ### least masks -/
def pairOf (H : Hp) (x : V) : Int × Int := match x with
  | .ref t => (match H t with
    | some (.tup [.int a, .int b]) => (a, b)
    | _ => (0, 0))
  | _ => (0, 0)
theorem pairOf_eq {H : Hp} {t : Addr} {a b : Int} (h : H t = some (.tup [.int a, .int b])) : pairOf H (.ref t) = (a, b) := by
  show (match H t with
    | some (.tup [.int a, .int b]) => (a, b)
    | _ => (0, 0)) = (a, b)
  rw [h]
def spMin (K : PySem.W.Frag) : Sp := fun vs H Q _ => ∃ (a : Addr) (ms : List Nat), vs = [.ref a] ∧ SqL K H a (nL ms) ∧ ms.length ≤ 10000000 ∧ ∀ G, MK.Least G (· ∈ ms) → NewL H Q (nL G)
/-- is one of the kept ones within m? -/
theorem any_list {g : List Nat} {m : Nat} {bs : List V} (h : bs = (List.range g.length).map fun j => V.bl (decide (((g.getD j 0 &&& m : Nat) : Int) = ((g.getD j 0 : Nat) : Int)))) :
    ∃ cs : List Bool, bs = cs.map V.bl ∧ cs.any id = g.any (fun k => k &&& m == k) := by
  refine ⟨g.map fun k => k &&& m == k, ?_, by rw [List.any_map]; rfl⟩
  rw [h, List.map_map]
  have e : (List.range g.length).map (fun j => g.getD j 0) = g := map_range_get g 0
  have q := congrArg (List.map fun k : Nat => V.bl (k &&& m == k)) e
  rw [List.map_map] at q
  rw [show (V.bl ∘ fun k : Nat => k &&& m == k) = fun k : Nat => V.bl (k &&& m == k) from rfl, ← q]
  refine List.map_congr_left fun j _ => ?_
  show V.bl _ = V.bl _
  congr 1
  rw [Bool.eq_iff_iff, decide_eq_true_iff, beq_iff_eq]
  exact Int.ofNat_inj
theorem c_minimal (D : FnAt K mg "minimal_masks" s_minimal_masks) (T : Bl mg) (c_bit_count : Cal P w K mg base 1 "bit_count" spOnes []) : Cal P w K mg base 2 "minimal_masks" (spMin K) [] := by
  refine calOf D sc_minimal_masks (fun _ _ _ _ _ _ us hl => match us, hl with | [_], _ => rfl) (fun vs H Q E h => ?_) (fun f cdv A outer s H vs Q E hr h => ?_)
  · obtain ⟨a, ms, rfl, _⟩ := h
    rfl
  · obtain ⟨a, ms, rfl, hS, hl, k⟩ := h
    have nd := sc_minimal_masks.nd
    have hu := hr.units
    refine ⟨_, (pss_cons (ps_set (i := 1) nd rfl (by first | exact Or.inl rfl | exact Or.inr rfl) (pe_callB (crSortP K) (by rfl) T.b_sorted (by decide +kernel) (pa_cons (pe_lc (own := [("mask", 2)]) (g := gName 2) (tt := tYes) rfl nd (piList K (pv 0)) (blkOk_by (N := ["masks", "ordered", "mask", "found", "size", "known"]) (sc := defScope s_minimal_masks) (own := [("mask", 2)]) (by decide +kernel)) (fun _ _ _ _ _ => (pg_name (i := 2) nd rfl (by first | exact Or.inl rfl | exact Or.inr rfl))) (fun _ _ _ _ _ => pts_nil) (fun _ _ _ _ _ => (pe_tup (pa_cons (pe_c c_bit_count hr (by decide) (by rfl) (pa_cons (pv 2) pa_nil)) (pa_cons (pv 2) pa_nil))))) pa_nil)))
      (pss_cons (ps_set (i := 3) nd rfl (by first | exact Or.inl rfl | exact Or.inr rfl) (pe_lst pa_nil))
      (pss_cons (ps_for PassesOwn.never rfl (piList K (pv 1)) (pgTup K rfl (pgs_cons (pg_name (i := 4) nd rfl (by first | exact Or.inl rfl | exact Or.inr rfl)) (pgs_cons (pg_name (i := 2) nd rfl (by first | exact Or.inl rfl | exact Or.inr rfl)) pgs_nil)))
        (pss_one (ps_if (pt_not (pt_val (pe_callB (crAny K) (by rfl) T.b_any (by decide +kernel) (pa_cons (pe_lc (own := [("known", 5)]) (g := gName 5) (tt := tYes) rfl nd (piList K (pv 3)) (blkOk_by (N := ["masks", "ordered", "mask", "found", "size", "known"]) (sc := defScope s_minimal_masks) (own := [("known", 5)]) (by decide +kernel)) (fun _ _ _ _ _ => (pg_name (i := 5) nd rfl (by first | exact Or.inl rfl | exact Or.inr rfl))) (fun _ _ _ _ _ => pts_nil) (fun _ _ _ _ _ => (pe_cmpR op_eq (pe_op op_andN (pv 5) (pv 2)) (pv 5) (nomark _)))) pa_nil))))
          (pss_one (ps_expr (pe_bm PySem.F.plainAttrs_list PySem.F.slot_list_append PySem.F.type_list_append mt_append (pv 3) (pa_cons (pv 2) pa_nil))))
          pss_nil)))
      (pss_one (ps_ret (pv 3)))))), ?_⟩
    have hlm : (nL ms).length = ms.length := List.length_map _
    -- the pairs
    refine ⟨_, rfl, a, rfl, ⟨_, hS⟩, fun D hD => lc_listT hS (sel := fun _ => true) (P := fun i y H => ∃ t, y = .ref t ∧ H t = some (.tup [nV (MK.pc (ms.getD i 0)), nV (ms.getD i 0)]))
      ⟨fun i y H H' sm ⟨t, e1, e2⟩ => ⟨t, e1, sm _ _ e2 trivial⟩, fun i H' _ _ R r => r H' (Same.refl H'), fun i H' hi _ _ R r => ?_⟩ hD (lt_line (by omega)) (fun H1 ys sm hd hyl pr => ?_)⟩
    · refine ⟨_, rfl, ms.getD i 0, by rw [nL_getD hi]; rfl, _, rfl, by show 2 ≤ sizeLine; decide, fun p hp => ?_⟩
      refine r _ _ (same_new hp) ⟨p, rfl, ?_⟩
      rw [upd_same, nL_getD hi]
    · rw [filter_yes] at pr
      have lp := pr.length
      rw [List.length_range, hlm] at lp
      have at_ : ∀ x ∈ ys, ∃ (t : Addr) (m : Nat), x = .ref t ∧ H1 t = some (.tup [nV (MK.pc m), nV m]) := fun x hx => by
        obtain ⟨j, t, e1, e2⟩ := paired_left pr x hx
        exact ⟨t, _, e1, e2⟩
      refine ⟨D, ys, pairOf H1, rfl, SqL.of hd, fun x hx => ?_, fun zs o srt stb ho => ?_⟩
      · obtain ⟨t, m, e1, e2⟩ := at_ x hx
        subst e1
        exact ⟨t, rfl, by rw [pairOf_eq e2]; exact e2⟩
      -- the masks in their order
      have h1L : (zs.map fun x => (pairOf H1 x).2.toNat).Perm ms := by
        have q := stb.perm.map fun x => (pairOf H1 x).2.toNat
        refine q.trans (List.Perm.of_eq ?_)
        have e : ys.map (fun x => (pairOf H1 x).2.toNat) = (List.range (nL ms).length).map fun i => ms.getD i 0 := by
          refine paired_map_of pr fun y j ⟨t, e1, e2⟩ => ?_
          rw [e1, pairOf_eq e2]
          exact Int.toNat_natCast _
        rw [e, hlm, map_range_get]
      have atz : ∀ x ∈ zs, ∃ (t : Addr) (m : Nat), x = .ref t ∧ H1 t = some (.tup [nV (MK.pc m), nV m]) := fun x hx => at_ x (stb.perm.mem_iff.mp hx)
      have h2L : (zs.map fun x => (pairOf H1 x).2.toNat).Pairwise (fun x y => MK.pc x ≤ MK.pc y) := by
        rw [List.pairwise_map]
        refine srt.imp_of_mem fun {x y} hx hy h => ?_
        obtain ⟨t, m, e1, e2⟩ := atz x hx
        obtain ⟨t', m', e1', e2'⟩ := atz y hy
        have q := SrtO.lexB_no.mp h
        rw [e1, e1', pairOf_eq e2, pairOf_eq e2'] at *
        show MK.pc (Int.toNat (m : Int)) ≤ MK.pc (Int.toNat (m' : Int))
        rw [Int.toNat_natCast, Int.toNat_natCast]
        simp only [] at q
        omega
      generalize hLd : (zs.map fun x => (pairOf H1 x).2.toNat) = L at h1L h2L
      have lz : zs.length = L.length := by rw [← hLd, List.length_map]
      have lL : L.length ≤ 10000000 := by rw [h1L.length_eq]; exact hl
      have get : ∀ i x, zs[i]? = some x → ∃ t c, x = .ref t ∧ H1 t = some (.tup [nV c, nV (L.getD i 0)]) ∧ L[i]? = some (L.getD i 0) := fun i x hx => by
        obtain ⟨t, m, e1, e2⟩ := atz x (List.mem_of_getElem? hx)
        have e3 : L[i]? = some m := by
          rw [← hLd, List.getElem?_map, hx, e1]
          show some (pairOf H1 (.ref t)).2.toNat = some m
          rw [pairOf_eq e2]
          exact congrArg some (Int.toNat_natCast m)
        have e4 : L.getD i 0 = m := by rw [List.getD_eq_getElem?_getD, e3]; rfl
        exact ⟨t, _, e1, by rw [e4]; exact e2, by rw [e4]; exact e3⟩
      have sm1 := same_fresh (o := .lst zs) (Same.refl H1) ho
      refine ⟨Nat.zero_le _, fun q hq => ?_⟩
      have hq1 : H1 q = none := sm1.free hq
      have noq : o ≠ q := fun z => by rw [← z, upd_same] at hq; cases hq
      refine ⟨_, rfl, o, rfl, ⟨_, SqL.of (by rw [upd_ne noq]; exact upd_same)⟩, ?_⟩
      refine for_list (xs := zs) (fun i σ' H' => ∃ v2 v4, σ' = [some (.ref a), some (.ref o), v2, some (.ref q), v4, none] ∧ Same H1 H' ∧ H' o = some (.lst zs) ∧ H' q = some (.lst (nL (MK.greedy [] (L.take i)))) ∧ (MK.greedy [] (L.take i)).length ≤ i)
        ⟨none, none, rfl, (same_new ho).trans (same_new hq), by rw [upd_ne noq]; exact upd_same, by rw [upd_same]; rfl, Nat.le_refl 0⟩ (fun i σ' H' _ ⟨_, _, _, _, e, _⟩ => SqL.of e) (fun i x σ' H' hx hp => ?_) (fun σ' H' hp => ?_)
      · obtain ⟨v2, v4, rfl, sm2, e1, e2, e3⟩ := hp
        obtain ⟨t, c, rfl, ht, hLi⟩ := get i x hx
        have hi : i < zs.length := (List.getElem?_eq_some_iff.mp hx).1
        generalize L.getD i 0 = m at ht hLi
        have eg : MK.greedy [] (L.take (i + 1)) = if (MK.greedy [] (L.take i)).any (fun k => k &&& m == k) then MK.greedy [] (L.take i) else MK.greedy [] (L.take i) ++ [m] := by
          rw [List.take_add_one, hLi, MK.greedy_append]
          rfl
        rw [eg]
        generalize MK.greedy [] (L.take i) = g at e2 e3 ⊢
        refine ⟨t, _, rfl, SqT.of (sm2 _ _ ht), rfl, nV c, _, rfl, nV m, _, rfl, rfl, ?_⟩
        -- any([known & mask == known for known in found])
        refine ⟨_, rfl, q, rfl, ⟨_, SqL.of e2⟩, fun B hB => lc_listT (SqL.of e2) (sel := fun _ => true) (P := fun j y _ => y = V.bl (decide (((g.getD j 0 &&& m : Nat) : Int) = ((g.getD j 0 : Nat) : Int))))
          ⟨fun _ _ _ _ _ h => h, fun j H3 _ _ R r => r H3 (Same.refl H3), fun j H3 hj _ _ R r => ?_⟩ hB (lt_line (by rw [List.length_map]; omega)) (fun H3 bs sm3 hb _ pb => ?_)⟩
        · have ej := nL_getD hj
          exact ⟨_, rfl, _, rfl, g.getD j 0, m, ej, rfl, _, rfl, by rw [ej]; rfl, r _ H3 (Same.refl H3) (by rw [ej]; exact congrArg V.bl (decide_eq_decide.mpr ⟨fun h => V.int.inj h, fun h => congrArg V.int h⟩))⟩
        · rw [filter_yes, List.length_map] at pb
          obtain ⟨cs, rfl, ec⟩ := any_list (paired_map_eq pb)
          refine ⟨B, cs, rfl, SqL.of hb, _, rfl, ?_⟩
          rw [ec]
          cases hany : g.any (fun k => k &&& m == k) with
          | true =>
            refine iteF ?_
            exact ⟨some (nV m), some (nV c), rfl, sm2.trans sm3, sm3 _ _ e1, sm3 _ _ e2, by rw [if_pos rfl]; omega⟩
          | false =>
            refine iteT ?_
            refine ⟨_, rfl, .inl ⟨rfl, _, SqL.of (sm3 _ _ e2)⟩, _, rfl, q, _, _, rfl, rfl, sm3 _ _ e2, ?_, ?_⟩
            · rw [List.length_map]
              exact Nat.lt_of_le_of_lt (show g.length ≤ 10000000 by omega) (by rw [sizeLine_eq]; decide)
            · refine ⟨some (nV m), some (nV c), rfl, same_fresh (sm2.trans sm3) hq1, by rw [upd_ne noq]; exact sm3 _ _ e1, ?_, ?_⟩
              · rw [upd_same, if_neg Bool.false_ne_true, nL_snoc]
              · rw [if_neg Bool.false_ne_true, List.length_append]
                show g.length + 1 ≤ i + 1
                omega
      · obtain ⟨v2, v4, rfl, sm2, e1, e2, e3⟩ := hp
        rw [lz, List.take_length] at e2
        have hG := MK.greedy_least h2L
        have hG' : MK.Least (MK.greedy [] L) (· ∈ ms) := ⟨hG.nd, fun x => (hG.mem x).trans (MK.MinOf.congr (fun y => h1L.mem_iff) x), hG.up⟩
        exact ⟨_, rfl, k _ hG' q H' (sm.trans sm2) (sm.free hq1) e2⟩
end
end L2.KK
namespace L2.KK
open PySem PySem.Spec PyProof.Rows C8
theorem sc_law_least_masks : FnScope ["masks", "found", "mask", "known"] ["masks"] (defScope s_law_least_masks) := ⟨rfl, rfl, rfl, by decide +kernel, rfl, by decide +kernel, by decide +kernel⟩
/-! ### lists of whole numbers as data -/
theorem dpAll_ints {K : PySem.W.Frag} {H : Hp} : ∀ ns : List Int, DpAll K H (ns.map V.int) (ns.map PyData.int)
  | [] => .nil
  | n :: ns => .cons (.int n) (dpAll_ints ns)
theorem shaped_intsL (ns : List Int) : SeqAt.shaped (.list (ns.map PyData.int)) = true := by
  have h := shaped_ints ns
  unfold SeqAt.shaped at h ⊢
  exact h
theorem eqd_ints {K : PySem.W.Frag} {H : Hp} {a b : Addr} {xs ys : List Int} {Q : VK} (ha : SqL K H a (xs.map V.int)) (hb : SqL K H b (ys.map V.int)) (q : Q (.bl (decide (xs = ys))) H) : rEqD K (.ref a) (.ref b) H Q := by
  refine ⟨_, _, .lst ha (dpAll_ints xs), .lst hb (dpAll_ints ys), shaped_intsL xs, shaped_intsL ys, ?_⟩
  have e : PyData.eqv (.list (xs.map PyData.int)) (.list (ys.map PyData.int)) = decide (xs = ys) := by
    show PyData.eqvAll _ _ = _
    exact PySem.W.ked_eqvAll xs ys
  rw [e]
  exact q
theorem ned_ints {K : PySem.W.Frag} {H : Hp} {a b : Addr} {xs ys : List Int} {Q : VK} (ha : SqL K H a (xs.map V.int)) (hb : SqL K H b (ys.map V.int)) (q : Q (.bl (!decide (xs = ys))) H) : rNeD K (.ref a) (.ref b) H Q := by
  refine ⟨_, _, .lst ha (dpAll_ints xs), .lst hb (dpAll_ints ys), shaped_intsL xs, shaped_intsL ys, ?_⟩
  have e : PyData.eqv (.list (xs.map PyData.int)) (.list (ys.map PyData.int)) = decide (xs = ys) := by
    show PyData.eqvAll _ _ = _
    exact PySem.W.ked_eqvAll xs ys
  rw [e]
  exact q
abbrev iL (xs : List Nat) : List Int := xs.map fun n : Nat => (n : Int)
theorem nL_eq (xs : List Nat) : nL xs = (iL xs).map V.int := by
  show xs.map nV = (xs.map fun n : Nat => (n : Int)).map V.int
  rw [List.map_map]
  rfl
theorem iL_inj {xs ys : List Nat} (h : iL xs = iL ys) : xs = ys := by
  have : (iL xs).map Int.toNat = (iL ys).map Int.toNat := by rw [h]
  rw [List.map_map, List.map_map, show (Int.toNat ∘ fun n : Nat => (n : Int)) = id from funext fun n => Int.toNat_natCast n, List.map_id, List.map_id] at this
  exact this
/-- two orders of the same numbers, both rising, are one -/
theorem rising_one : ∀ {xs ys : List Int}, xs.Perm ys → xs.Pairwise (· ≤ ·) → ys.Pairwise (· ≤ ·) → xs = ys
  | [], ys, p, _, _ => (List.Perm.eq_nil p.symm).symm
  | x :: xs, [], p, _, _ => by have := p.length_eq; simp at this
  | x :: xs, y :: ys, p, h1, h2 => by
    obtain ⟨a1, a2⟩ := List.pairwise_cons.mp h1
    obtain ⟨b1, b2⟩ := List.pairwise_cons.mp h2
    have e : x = y := by
      have m1 : x ∈ y :: ys := p.mem_iff.mp List.mem_cons_self
      have m2 : y ∈ x :: xs := p.mem_iff.mpr List.mem_cons_self
      have l1 : y ≤ x := by
        rcases List.mem_cons.mp m1 with z | z
        · omega
        · exact b1 x z
      have l2 : x ≤ y := by
        rcases List.mem_cons.mp m2 with z | z
        · omega
        · exact a1 y z
      omega
    subst e
    rw [rising_one (List.Perm.cons_inv p) a2 b2]
def unV : V → Nat
  | .int n => n.toNat
  | _ => 0
theorem unV_nV (n : Nat) : unV (nV n) = n := Int.toNat_natCast n
theorem nats_perm {ys : List V} {ms : List Nat} (h : ys.Perm (nL ms)) : ∃ L : List Nat, ys = nL L ∧ L.Perm ms := by
  have e : (nL ms).map unV = ms := by
    show (ms.map nV).map unV = ms
    rw [List.map_map, show (unV ∘ nV) = id from funext unV_nV, List.map_id]
  refine ⟨ys.map unV, ?_, ?_⟩
  · show ys = (ys.map unV).map nV
    rw [List.map_map]
    refine (List.map_id ys).symm.trans (List.map_congr_left fun y hy => ?_)
    obtain ⟨m, _, rfl⟩ := List.mem_map.mp (h.mem_iff.mp hy)
    show nV m = nV (unV (nV m))
    rw [unV_nV]
  · have q := h.map unV
    rw [e] at q
    exact q
section
variable {P : Program} {w : World} {K : PySem.W.Frag} {mg : Str → Option Value} {base : Heap}
def onesOf (v : V) : Int := (MK.pc (unV v) : Int)
theorem c_least (D : FnAt K mg "_law_least_masks" s_law_least_masks) (T : Bl mg) (c_law_ones : Cal P w K mg base 1 "_law_ones" spOnes []) : Cal P w K mg base 10 "_law_least_masks" (spMin K) [] := by
  refine calOf D sc_law_least_masks (fun _ _ _ _ _ _ us hl => match us, hl with | [_], _ => rfl) (fun vs H Q E h => ?_) (fun f cdv A outer s H vs Q E hr h => ?_)
  · obtain ⟨a, ms, rfl, _⟩ := h
    rfl
  · obtain ⟨a, ms, rfl, hS, hl, k⟩ := h
    have nd := sc_law_least_masks.nd
    obtain ⟨f_law_ones, fd1, ps1, F_law_ones, m_law_ones, b_law_ones⟩ := cal_parts c_law_ones
    refine ⟨_, (pss_cons (ps_set (i := 1) nd rfl (by first | exact Or.inl rfl | exact Or.inr rfl) (pe_lst pa_nil))
      (pss_cons (ps_for PassesOwn.never rfl (piList K (pe_callBK (crSortBy K F_law_ones b_law_ones (hr.mono (by decide))) (by rfl) T.b_sorted (by decide +kernel) (pa_cons (pv 0) pa_nil) (pk_cons (pe_glob (v := .ref f_law_ones) (by rfl) m_law_ones (by rfl)) pk_nil))) (pg_name (i := 2) nd rfl (by first | exact Or.inl rfl | exact Or.inr rfl))
        (pss_one (ps_if (pt_not (pt_val (pe_callB (crAny K) (by rfl) T.b_any (by decide +kernel) (pa_cons (pe_lc (own := [("known", 3)]) (g := gName 3) (tt := tYes) rfl nd (piList K (pv 1)) (blkOk_by (N := ["masks", "found", "mask", "known"]) (sc := defScope s_law_least_masks) (own := [("known", 3)]) (by decide +kernel)) (fun _ _ _ _ _ => (pg_name (i := 3) nd rfl (by first | exact Or.inl rfl | exact Or.inr rfl))) (fun _ _ _ _ _ => pts_nil) (fun _ _ _ _ _ => (pe_cmpR op_eq (pe_op op_andN (pv 3) (pv 2)) (pv 3) (nomark _)))) pa_nil))))
          (pss_one (ps_expr (pe_bm PySem.F.plainAttrs_list PySem.F.slot_list_append PySem.F.type_list_append mt_append (pv 1) (pa_cons (pv 2) pa_nil))))
          pss_nil)))
      (pss_one (ps_ret (pv 1))))), ?_⟩
    refine ⟨Nat.zero_le _, fun q hq => ?_⟩
    have sm0 := same_new (o := .lst []) hq
    refine ⟨_, rfl, onesOf, a, nL ms, rfl, rfl, sm0.seq hS, fun x hx H2 _ R r => ?_, fun ys o H1 sm ho pm pw => ?_⟩
    · obtain ⟨m, _, rfl⟩ := List.mem_map.mp hx
      exact ⟨m, rfl, r _ H2 (Same.refl H2) (by show nV (MK.pc m) = .int ((MK.pc (unV (nV m)) : Nat) : Int); rw [unV_nV])⟩
    · obtain ⟨L, rfl, h1L⟩ := nats_perm pm
      have h2L : L.Pairwise (fun x y => MK.pc x ≤ MK.pc y) := by
        have q := List.pairwise_map.mp pw
        refine q.imp fun {x y} h => ?_
        have := of_decide_eq_false h
        unfold onesOf at this
        rw [unV_nV, unV_nV] at this
        omega
      have lL : L.length ≤ 10000000 := by rw [h1L.length_eq]; exact hl
      have q1 := sm _ _ (show (upd H q (.lst [])) q = some (.lst []) from upd_same)
      have nqo : q ≠ o := ne_of_none q1 ho
      refine ⟨o, rfl, ⟨_, SqL.of upd_same⟩, ?_⟩
      refine for_list (xs := nL L) (fun i σ' H' => ∃ v2, σ' = [some (.ref a), some (.ref q), v2, none] ∧ Same H H' ∧ H' o = some (.lst (nL L)) ∧ H' q = some (.lst (nL (MK.greedy [] (L.take i)))) ∧ (MK.greedy [] (L.take i)).length ≤ i)
        ⟨none, rfl, (sm0.trans sm).trans (same_new ho), upd_same, by rw [upd_ne nqo]; exact q1, Nat.le_refl 0⟩ (fun i σ' H' _ ⟨_, _, _, e, _⟩ => SqL.of e) (fun i x σ' H' hx hp => ?_) (fun σ' H' hp => ?_)
      · obtain ⟨v2, rfl, sm2, e1, e2, e3⟩ := hp
        obtain ⟨hi, ex⟩ := List.getElem?_eq_some_iff.mp hx
        rw [List.length_map] at hi
        have hLi : L[i]? = some L[i] := List.getElem?_eq_getElem hi
        rw [nL_get hi] at hx
        cases hx
        generalize L[i] = m at hLi ⊢
        have eg : MK.greedy [] (L.take (i + 1)) = if (MK.greedy [] (L.take i)).any (fun k => k &&& m == k) then MK.greedy [] (L.take i) else MK.greedy [] (L.take i) ++ [m] := by
          rw [List.take_add_one, hLi, MK.greedy_append]
          rfl
        rw [eg]
        generalize MK.greedy [] (L.take i) = g at e2 e3 ⊢
        refine ⟨_, rfl, q, rfl, ⟨_, SqL.of e2⟩, fun B hB => lc_listT (SqL.of e2) (sel := fun _ => true) (P := fun j y _ => y = V.bl (decide (((g.getD j 0 &&& m : Nat) : Int) = ((g.getD j 0 : Nat) : Int))))
          ⟨fun _ _ _ _ _ h => h, fun j H3 _ _ R r => r H3 (Same.refl H3), fun j H3 hj _ _ R r => ?_⟩ hB (lt_line (by rw [List.length_map]; omega)) (fun H3 bs sm3 hb _ pb => ?_)⟩
        · have ej := nL_getD hj
          exact ⟨_, rfl, _, rfl, g.getD j 0, m, ej, rfl, _, rfl, by rw [ej]; rfl, r _ H3 (Same.refl H3) (by rw [ej]; exact congrArg V.bl (decide_eq_decide.mpr ⟨fun h => V.int.inj h, fun h => congrArg V.int h⟩))⟩
        · rw [filter_yes, List.length_map] at pb
          obtain ⟨cs, rfl, ec⟩ := any_list (paired_map_eq pb)
          refine ⟨B, cs, rfl, SqL.of hb, _, rfl, ?_⟩
          rw [ec]
          cases hany : g.any (fun k => k &&& m == k) with
          | true =>
            refine iteF ?_
            exact ⟨some (nV m), rfl, sm2.trans sm3, sm3 _ _ e1, sm3 _ _ e2, by rw [if_pos rfl]; omega⟩
          | false =>
            refine iteT ?_
            refine ⟨_, rfl, .inl ⟨rfl, _, SqL.of (sm3 _ _ e2)⟩, _, rfl, q, _, _, rfl, rfl, sm3 _ _ e2, ?_, ?_⟩
            · rw [List.length_map]
              exact Nat.lt_of_le_of_lt (show g.length ≤ 10000000 by omega) (by rw [sizeLine_eq]; decide)
            · refine ⟨some (nV m), rfl, same_fresh (sm2.trans sm3) hq, by rw [upd_ne nqo.symm]; exact sm3 _ _ e1, ?_, ?_⟩
              · rw [upd_same, if_neg Bool.false_ne_true, nL_snoc]
              · rw [if_neg Bool.false_ne_true, List.length_append]
                show g.length + 1 ≤ i + 1
                omega
      · obtain ⟨v2, rfl, sm2, e1, e2, e3⟩ := hp
        have lz : (nL L).length = L.length := List.length_map _
        rw [lz, List.take_length] at e2
        have hG := MK.greedy_least h2L
        have hG' : MK.Least (MK.greedy [] L) (· ∈ ms) := ⟨hG.nd, fun x => (hG.mem x).trans (MK.MinOf.congr (fun y => h1L.mem_iff) x), hG.up⟩
        exact ⟨_, rfl, k _ hG' q H' sm2 hq e2⟩
def spMeets (K : PySem.W.Frag) : Sp := fun vs H Q _ => ∃ (a : Addr) (m : Nat) (ms : List Nat), vs = [nV m, .ref a] ∧ SqL K H a (nL ms) ∧ ms.length ≤ 10000000 ∧ ∀ H', Same H H' → Q (.bl (ms.all fun o => decide (m &&& o ≠ 0))) H'
def spDue (K : PySem.W.Frag) : Sp := fun vs H Q _ => ∃ (a : Addr) (n : Nat) (ms : List Nat), vs = [.ref a, nV n] ∧ SqL K H a (nL ms) ∧ ms.length ≤ 10000000 ∧ n ≤ 10 ∧ ∀ G, MK.Least G (MK.Tr ms n) → NewL H Q (nL G)
end
end L2.KK
namespace L2.KK
open PySem PySem.Spec PyProof.Rows C8
theorem sc_lot_rank : FnScope ["lot"] ["lot"] (defScope s_lot_rank) := ⟨rfl, rfl, rfl, by decide +kernel, rfl, by decide +kernel, by decide +kernel⟩
theorem sc_law_lot_rank : FnScope ["lot"] ["lot"] (defScope s_law_lot_rank) := ⟨rfl, rfl, rfl, by decide +kernel, rfl, by decide +kernel, by decide +kernel⟩
theorem sc_as_lots : FnScope ["masks", "many", "lots", "mask"] ["masks", "many"] (defScope s_as_lots) := ⟨rfl, rfl, rfl, by decide +kernel, rfl, by decide +kernel, by decide +kernel⟩
theorem sc_law_lots : FnScope ["masks", "many", "lots", "spot", "mask"] ["masks", "many"] (defScope s_law_lots) := ⟨rfl, rfl, rfl, by decide +kernel, rfl, by decide +kernel, by decide +kernel⟩
theorem paired_mapR {α β γ : Type} {F : α → γ → Prop} (g : β → γ) : ∀ {a : List α} {b : List β}, Paired (fun x y => F x (g y)) a b → Paired F a (b.map g)
  | _, _, .nil => .nil
  | _, _, .cons r t => .cons r (paired_mapR g t)
/-! ### lots: tuples of whole numbers -/
theorem bitsOf_len (m n : Nat) : (MK.bitsOf m n).length ≤ n := by
  unfold MK.bitsOf
  have := List.length_filter_le (fun i => m.testBit i) (List.range n)
  rw [List.length_range] at this
  exact this
/-- rs are tuples that hold the lots Ls -/
def LotAt (K : PySem.W.Frag) (H : Hp) (y : V) (l : List Nat) : Prop := ∃ r, y = .ref r ∧ SqT K H r (nL l)
theorem LotAt.grow {K : PySem.W.Frag} {H H' : Hp} {y : V} {l : List Nat} (h : LotAt K H y l) (e : Same H H') : LotAt K H' y l := by
  obtain ⟨r, e1, e2⟩ := h
  exact ⟨r, e1, same_seqT e e2⟩
def LotsAt (K : PySem.W.Frag) (H : Hp) (p : Addr) (Ls : List (List Nat)) : Prop := ∃ ys, SqT K H p ys ∧ Paired (LotAt K H) ys Ls
theorem dp_lot {K : PySem.W.Frag} {H : Hp} {y : V} {l : List Nat} (h : LotAt K H y l) : Dp K H y (.tuple ((iL l).map PyData.int)) := by
  obtain ⟨r, rfl, e⟩ := h
  rw [nL_eq] at e
  exact .tup e (dpAll_ints _)
theorem dp_lots {K : PySem.W.Frag} {H : Hp} : ∀ {ys : List V} {Ls : List (List Nat)}, Paired (LotAt K H) ys Ls → DpAll K H ys (Ls.map fun l => PyData.tuple ((iL l).map PyData.int))
  | _, _, .nil => .nil
  | _, _, .cons r t => .cons (dp_lot r) (dp_lots t)
theorem eqv_lots : ∀ a b : List (List Nat), PyData.eqvAll (a.map fun l => PyData.tuple ((iL l).map PyData.int)) (b.map fun l => PyData.tuple ((iL l).map PyData.int)) = decide (a = b)
  | [], [] => by simp only [List.map_nil, PyData.eqvAll, decide_true]
  | [], _ :: _ => by simp [PyData.eqvAll]
  | _ :: _, [] => by simp [PyData.eqvAll]
  | x :: xs, y :: ys => by
    rw [List.map_cons, List.map_cons, PyData.eqvAll, eqv_lots xs ys]
    have e : PyData.eqv (.tuple ((iL x).map PyData.int)) (.tuple ((iL y).map PyData.int)) = decide (x = y) := by
      show PyData.eqvAll _ _ = _
      rw [PySem.W.ked_eqvAll]
      exact decide_eq_decide.mpr ⟨iL_inj, fun h => by rw [h]⟩
    rw [e, ← Bool.decide_and]
    exact decide_eq_decide.mpr (by rw [List.cons.injEq])
theorem depth_ints (ns : List Int) : (PyData.tuple (ns.map PyData.int)).depth ≤ 1 := by
  unfold PyData.depth
  have d : PyData.depthAll (ns.map PyData.int) ≤ 0 := PySem.W.depthAll_map (α := Int) ns
  omega
theorem shaped_lots (Ls : List (List Nat)) : SeqAt.shaped (.tuple (Ls.map fun l => PyData.tuple ((iL l).map PyData.int))) = true := by
  unfold SeqAt.shaped
  rw [Bool.and_eq_true]
  constructor
  · unfold PyData.canLay0
    induction Ls with
    | nil => rfl
    | cons l Ls ih =>
      rw [List.map_cons]
      unfold PyData.canLayAll0
      rw [ih]
      have h := SeqAt.canLay_of_shaped (shaped_ints (iL l))
      rw [h]
      rfl
  · refine decide_eq_true ?_
    unfold PyData.depth
    have : PyData.depthAll (Ls.map fun l => PyData.tuple ((iL l).map PyData.int)) ≤ 1 := by
      induction Ls with
      | nil =>
        show 0 ≤ 1
        decide
      | cons l Ls ih =>
        rw [List.map_cons]
        unfold PyData.depthAll
        have := depth_ints (iL l)
        omega
    omega
theorem ned_lots {K : PySem.W.Frag} {H : Hp} {a b : Addr} {As Bs : List (List Nat)} {Q : VK} (ha : LotsAt K H a As) (hb : LotsAt K H b Bs) (q : Q (.bl (!decide (As = Bs))) H) : rNeD K (.ref a) (.ref b) H Q := by
  obtain ⟨xs, a1, a2⟩ := ha
  obtain ⟨ys, b1, b2⟩ := hb
  refine ⟨_, _, .tup a1 (dp_lots a2), .tup b1 (dp_lots b2), shaped_lots As, shaped_lots Bs, ?_⟩
  have e : PyData.eqv (.tuple (As.map fun l => PyData.tuple ((iL l).map PyData.int))) (.tuple (Bs.map fun l => PyData.tuple ((iL l).map PyData.int))) = decide (As = Bs) := by
    show PyData.eqvAll _ _ = _
    exact eqv_lots As Bs
  rw [e]
  exact q
/-- the order of lots -/
def LotLe (a b : List Nat) : Prop := ltLot (iL b) (iL a) = false
theorem lots_one : ∀ {xs ys : List (List Nat)}, xs.Perm ys → xs.Pairwise LotLe → ys.Pairwise LotLe → xs = ys := fun {xs ys} p h1 h2 =>
  List.Perm.eq_of_pairwise (le := LotLe) (fun a b _ _ h k => iL_inj (ltLot_anti k h)) h1 h2 p
section
variable {P : Program} {w : World} {K : PySem.W.Frag} {mg : Str → Option Value} {base : Heap}
def spRank (K : PySem.W.Frag) : Sp := fun vs H Q _ => ∃ (t : Addr) (l : List Nat), vs = [.ref t] ∧ SqT K H t (nL l) ∧ ∀ p H', Same H H' → H p = none → H' p = some (.tup [nV l.length, .ref t]) → Q (.ref p) H'
theorem c_rank (D : FnAt K mg "lot_rank" s_lot_rank) (T : Bl mg) : Cal P w K mg base 1 "lot_rank" (spRank K) [] := by
  refine calOf D sc_lot_rank (fun _ _ _ _ _ _ us hl => match us, hl with | [_], _ => rfl) (fun vs H Q E h => ?_) (fun f cdv A outer s H vs Q E hr h => ?_)
  · obtain ⟨t, l, rfl, _⟩ := h
    rfl
  · obtain ⟨t, l, rfl, hT, k⟩ := h
    refine ⟨_, (pss_one (ps_ret (pe_tup (pa_cons (pe_callB (crLen K) (by rfl) T.b_len (by decide +kernel) (pa_cons (pv 0) pa_nil)) (pa_cons (pv 0) pa_nil))))), ?_⟩
    refine ⟨_, rfl, t, _, rfl, .inr hT, _, rfl, by show 2 ≤ sizeLine; decide, fun p hp => ?_⟩
    exact k p _ (same_new hp) hp (by rw [upd_same, List.length_map])
theorem c_lrank (D : FnAt K mg "_law_lot_rank" s_law_lot_rank) (T : Bl mg) : Cal P w K mg base 1 "_law_lot_rank" (spRank K) [] := by
  refine calOf D sc_law_lot_rank (fun _ _ _ _ _ _ us hl => match us, hl with | [_], _ => rfl) (fun vs H Q E h => ?_) (fun f cdv A outer s H vs Q E hr h => ?_)
  · obtain ⟨t, l, rfl, _⟩ := h
    rfl
  · obtain ⟨t, l, rfl, hT, k⟩ := h
    refine ⟨_, (pss_one (ps_ret (pe_tup (pa_cons (pe_callB (crLen K) (by rfl) T.b_len (by decide +kernel) (pa_cons (pv 0) pa_nil)) (pa_cons (pv 0) pa_nil))))), ?_⟩
    refine ⟨_, rfl, t, _, rfl, .inr hT, _, rfl, by show 2 ≤ sizeLine; decide, fun p hp => ?_⟩
    exact k p _ (same_new hp) hp (by rw [upd_same, List.length_map])
def spLots (K : PySem.W.Frag) : Sp := fun vs H Q _ => ∃ (a : Addr) (n : Nat) (ms : List Nat), vs = [.ref a, nV n] ∧ SqL K H a (nL ms) ∧ ms.length ≤ 1000000 ∧ n ≤ 1000 ∧
  ∀ p H' Ls, Same H H' → H p = none → LotsAt K H' p Ls → Ls.Perm (ms.map fun m => MK.bitsOf m n) → Ls.Pairwise LotLe → Q (.ref p) H'
/-- what a lot at an address holds -/
def lotOf (H : Hp) (x : V) : List Nat := match x with
  | .ref t => (match H t with
    | some (.tup ys) => ys.map unV
    | _ => [])
  | _ => []
theorem lotOf_eq {H : Hp} {t : Addr} {l : List Nat} (h : H t = some (.tup (nL l))) : lotOf H (.ref t) = l := by
  show (match H t with
    | some (.tup ys) => ys.map unV
    | _ => []) = l
  rw [h]
  show (l.map nV).map unV = l
  rw [List.map_map, show (unV ∘ nV) = id from funext unV_nV, List.map_id]
/-- the end of both: lots stand in the list at D, they are sorted, a tuple is made of them -/
theorem lots_end {H H1 : Hp} {Q : VK} {D f : Addr} {ys : List V} {Ls : List (List Nat)} {n : Nat} {ms : List Nat} (sm : Same H H1) (hD : H D = none) (hd : H1 D = some (.lst ys)) (pr : Paired (fun y l => ∃ t, y = V.ref t ∧ H1 t = some (.tup (nL l))) ys Ls) (hL : Ls = ms.map fun m => MK.bitsOf m n) (hz : ms.length ≤ 1000000)
    (k : ∀ p H' Ls, Same H H' → H p = none → LotsAt K H' p Ls → Ls.Perm (ms.map fun m => MK.bitsOf m n) → Ls.Pairwise LotLe → Q (.ref p) H') :
    rSortedLot K f (spRank K) [.ref D] [.ref f] H1 fun v H2 => rTupQ K [v] H2 Q := by
  refine ⟨fun x => iL (lotOf H1 x), D, ys, rfl, rfl, SqL.of hd, fun x hx H2 sm2 R r => ?_, fun zs o H2 sm2 ho pm pw => ?_⟩
  · obtain ⟨l, t, rfl, ht⟩ := paired_left pr x hx
    refine ⟨t, l, rfl, SqT.of (sm2 _ _ ht), fun p H3 sm3 hp e => ?_⟩
    refine r _ H3 sm3 ⟨t, p, rfl, rfl, ?_, ?_⟩
    · show SqT K H3 t ((iL (lotOf H1 (.ref t))).map V.int)
      rw [lotOf_eq ht, ← nL_eq]
      exact SqT.of (sm3 _ _ (sm2 _ _ ht))
    · show H3 p = some (.tup [.int ((iL (lotOf H1 (.ref t))).length : Int), .ref t])
      rw [lotOf_eq ht, List.length_map]
      exact e
  · refine ⟨o, zs, rfl, .inl ⟨SqL.of upd_same, fun p hp => ?_⟩⟩
    have sm3 : Same H2 (upd H2 o (.lst zs)) := same_new ho
    have sm4 : Same H1 (upd (upd H2 o (.lst zs)) p (.tup zs)) := (sm2.trans sm3).trans (same_new hp)
    have lz : ∀ x ∈ zs, ∃ t l, x = V.ref t ∧ H1 t = some (.tup (nL l)) := fun x hx => by
      obtain ⟨l, t, e1, e2⟩ := paired_left pr x (pm.mem_iff.mp hx)
      exact ⟨t, l, e1, e2⟩
    refine k p _ (zs.map (lotOf H1)) (sm.trans sm4) (sm.free ((sm2.trans sm3).free hp)) ⟨zs, SqT.of upd_same, ?_⟩ ?_ ?_
    · have all : ∀ l : List V, (∀ x ∈ l, ∃ t l, x = V.ref t ∧ H1 t = some (.tup (nL l))) → Paired (LotAt K (upd (upd H2 o (.lst zs)) p (.tup zs))) l (l.map (lotOf H1)) := by
        intro l
        induction l with
        | nil => intro _; exact .nil
        | cons x l ih =>
          intro h
          rw [List.map_cons]
          refine .cons ?_ (ih fun y hy => h y (List.mem_cons_of_mem _ hy))
          obtain ⟨t, q, rfl, e⟩ := h x List.mem_cons_self
          rw [lotOf_eq e]
          exact ⟨t, rfl, SqT.of (sm4 _ _ e)⟩
      exact all zs lz
    · have q := pm.map (lotOf H1)
      rw [paired_map_of (g := id) pr (fun x y ⟨t, e1, e2⟩ => by rw [e1, lotOf_eq e2]; rfl), List.map_id, hL] at q
      exact q
    · rw [List.pairwise_map]
      exact pw
theorem c_as_lots (D : FnAt K mg "as_lots" s_as_lots) (T : Bl mg) (c_bits_of : Cal P w K mg base 1 "bits_of" spBits []) (c_lot_rank : Cal P w K mg base 1 "lot_rank" (spRank K) []) : Cal P w K mg base 10 "as_lots" (spLots K) [] := by
  refine calOf D sc_as_lots (fun _ _ _ _ _ _ us hl => match us, hl with | [_, _], _ => rfl) (fun vs H Q E h => ?_) (fun f cdv A outer s H vs Q E hr h => ?_)
  · obtain ⟨a, n, ms, rfl, _⟩ := h
    rfl
  · obtain ⟨a, n, ms, rfl, hS, hl, hn, k⟩ := h
    have nd := sc_as_lots.nd
    obtain ⟨f_lot_rank, fd1, ps1, F_lot_rank, m_lot_rank, b_lot_rank⟩ := cal_parts c_lot_rank
    refine ⟨_, (pss_cons (ps_setLc (i := 2) (own := [("mask", 3)]) (g := gName 3) (tt := tYes) rfl nd rfl rfl (sw_true rfl rfl rfl (by decide +kernel)) (piList K (pv 0)) (blkOk_by (N := ["masks", "many", "lots", "mask"]) (sc := defScope s_as_lots) (own := [("mask", 3)]) (by decide +kernel)) (fun _ _ _ _ _ => (pg_name (i := 3) nd rfl (by first | exact Or.inl rfl | exact Or.inr rfl))) (fun _ _ _ _ _ => pts_nil) (fun _ _ _ _ _ => (pe_callTy (crTup K) (by rfl) T.b_tuple (by decide +kernel) (pa_cons (pe_c c_bits_of hr (by decide) (by rfl) (pa_cons (pv 3) (pa_cons (pv 1) pa_nil))) pa_nil))))
      (pss_one (ps_ret (pe_callTy (crTup K) (by rfl) T.b_tuple (by decide +kernel) (pa_cons (pe_callBK (crSortLot K F_lot_rank b_lot_rank (hr.mono (by decide))) (by rfl) T.b_sorted (by decide +kernel) (pa_cons (pv 2) pa_nil) (pk_cons (pe_glob (v := .ref f_lot_rank) (by rfl) m_lot_rank (by rfl)) pk_nil)) pa_nil))))), ?_⟩
    refine ⟨_, rfl, a, rfl, ⟨_, hS⟩, fun D hD => lc_listT hS (sel := fun _ => true) (P := fun i y H => ∃ t, y = .ref t ∧ H t = some (.tup (nL (MK.bitsOf (ms.getD i 0) n))))
      ⟨fun i y H H' sm ⟨t, e1, e2⟩ => ⟨t, e1, sm _ _ e2 trivial⟩, fun i H' _ _ R r => r H' (Same.refl H'), fun i H' hi _ _ R r => ?_⟩ hD (lt_line (by rw [List.length_map]; omega)) (fun H1 ys sm hd hyl pr => ?_)⟩
    · refine ⟨_, rfl, _, rfl, ms.getD i 0, n, by rw [nL_getD hi]; rfl, by omega, fun q H2 sm2 hq e => ?_⟩
      exact ⟨q, _, rfl, .inl ⟨SqL.of e, fun t ht => r _ _ (sm2.trans (same_new ht)) ⟨t, rfl, upd_same⟩⟩⟩
    · rw [filter_yes] at pr
      refine ⟨_, rfl, ?_⟩
      refine lots_end sm hD hd (paired_mapR (fun i => MK.bitsOf (ms.getD i 0) n) (Paired.mapP pr fun y i h => h)) ?_ hl k
      rw [List.length_map]
      have q := congrArg (List.map fun m => MK.bitsOf m n) (map_range_get ms 0)
      rw [List.map_map] at q
      exact q
theorem c_llots (D : FnAt K mg "_law_lots" s_law_lots) (T : Bl mg) (c_law_lot_rank : Cal P w K mg base 1 "_law_lot_rank" (spRank K) []) : Cal P w K mg base 10 "_law_lots" (spLots K) [] := by
  refine calOf D sc_law_lots (fun _ _ _ _ _ _ us hl => match us, hl with | [_, _], _ => rfl) (fun vs H Q E h => ?_) (fun f cdv A outer s H vs Q E hr h => ?_)
  · obtain ⟨a, n, ms, rfl, _⟩ := h
    rfl
  · obtain ⟨a, n, ms, rfl, hS, hl, hn, k⟩ := h
    have nd := sc_law_lots.nd
    obtain ⟨f_law_lot_rank, fd1, ps1, F_law_lot_rank, m_law_lot_rank, b_law_lot_rank⟩ := cal_parts c_law_lot_rank
    refine ⟨_, (pss_cons (ps_setLc (i := 2) (own := [("mask", 4)]) (g := gName 4) (tt := tYes) rfl nd rfl rfl (sw_true rfl rfl rfl (by decide +kernel)) (piList K (pv 0)) (blkOk_by (N := ["masks", "many", "lots", "spot", "mask"]) (sc := defScope s_law_lots) (own := [("mask", 4)]) (by decide +kernel)) (fun _ _ _ _ _ => (pg_name (i := 4) nd rfl (by first | exact Or.inl rfl | exact Or.inr rfl))) (fun _ _ _ _ _ => pts_nil) (fun _ _ _ _ _ => (pe_callTy (crTup K) (by rfl) T.b_tuple (by decide +kernel) (pa_cons (pe_lc (own := [("spot", 3)]) (g := gName 3) rfl nd (pi_range1 (by rfl) T.b_range (pa_cons (pv 1) pa_nil)) (blkOk_by (own := [("spot", 3)]) (by kernel_rfl)) (fun _ _ _ _ _ => (pg_name (i := 3) nd rfl (by first | exact Or.inl rfl | exact Or.inr rfl))) (fun _ _ _ _ _ => (pts_one (pt_cmpR op_eq (pe_op op_andN (pe_op op_shrNN (pv 4) (pv 3)) pe_int) pe_int (nomark _)))) (fun _ _ _ _ _ => (pv 3))) pa_nil))))
      (pss_one (ps_ret (pe_callTy (crTup K) (by rfl) T.b_tuple (by decide +kernel) (pa_cons (pe_callBK (crSortLot K F_law_lot_rank b_law_lot_rank (hr.mono (by decide))) (by rfl) T.b_sorted (by decide +kernel) (pa_cons (pv 2) pa_nil) (pk_cons (pe_glob (v := .ref f_law_lot_rank) (by rfl) m_law_lot_rank (by rfl)) pk_nil)) pa_nil))))), ?_⟩
    refine ⟨_, rfl, a, rfl, ⟨_, hS⟩, fun D hD => lc_listT hS (sel := fun _ => true) (P := fun i y H => ∃ t, y = .ref t ∧ H t = some (.tup (nL (MK.bitsOf (ms.getD i 0) n))))
      ⟨fun i y H H' sm ⟨t, e1, e2⟩ => ⟨t, e1, sm _ _ e2 trivial⟩, fun i H' _ _ R r => r H' (Same.refl H'), fun i H' hi _ sm0 R r => ?_⟩ hD (lt_line (by rw [List.length_map]; omega)) (fun H1 ys sm hd hyl pr => ?_)⟩
    · -- the inner list
      refine ⟨_, rfl, n, rfl, by omega, by omega, ?_⟩
      rw [Int.toNat_natCast]
      refine fun B hB => lc_rangeT (lo := 0) (sel := fun j => (ms.getD i 0).testBit j) (P := fun j y _ => y = nV j) ⟨fun _ _ _ _ _ h => h, fun j H3 hj _ R r => ?_, fun j H3 hj _ _ R r => ?_⟩ hB (lt_line (by omega)) (fun H2 bs sm2 hb _ pb => ?_)
      · refine ⟨_, rfl, _, rfl, ms.getD i 0, j, nL_getD hi, by rw [Int.zero_add], _, 1, rfl, rfl, rfl, _, rfl, ?_⟩
        have e : decide (nV ((ms.getD i 0) >>> j &&& 1) = V.int 1) = (ms.getD i 0).testBit j := by
          rw [← shr_bit, Bool.eq_iff_iff, decide_eq_true_iff]
          have : (ms.getD i 0) >>> j &&& 1 = 0 ∨ (ms.getD i 0) >>> j &&& 1 = 1 := by
            rw [Nat.and_one_is_mod]
            omega
          rcases this with z | z <;> rw [z] <;> simp [nV]
        rw [e]
        exact r H3 (Same.refl H3)
      · exact ⟨_, rfl, r _ H3 (Same.refl H3) (by rw [Int.zero_add])⟩
      · rw [paired_map_eq pb] at hb
        exact ⟨B, _, rfl, .inl ⟨SqL.of hb, fun t ht => r _ _ (sm2.trans (same_new ht)) ⟨t, rfl, upd_same⟩⟩⟩
    · rw [filter_yes] at pr
      refine ⟨_, rfl, ?_⟩
      refine lots_end sm hD hd (paired_mapR (fun i => MK.bitsOf (ms.getD i 0) n) (Paired.mapP pr fun y i h => h)) ?_ hl k
      rw [List.length_map]
      have q := congrArg (List.map fun m => MK.bitsOf m n) (map_range_get ms 0)
      rw [List.map_map] at q
      exact q
def spSorted (K : PySem.W.Frag) : Sp := fun vs H Q _ => ∃ (a : Addr) (ms : List Nat), vs = [.ref a] ∧ SqL K H a (nL ms) ∧ ms.Nodup ∧ ms.Pairwise (fun x y => MK.pc x ≤ MK.pc y) ∧ ms.length ≤ 4000 ∧ ∀ H', Same H H' → Q (.bl true) H'
def spIsInt : Sp := fun vs H Q _ => ∃ n : Int, vs = [.int n] ∧ Q (.bl true) H
end
end L2.KK
namespace L2.KK
open PySem PySem.Spec PyProof.Rows C8
theorem sc_blocker : FnScope ["masks", "many", "found", "mask", "grown", "known", "spot"] ["masks", "many"] (defScope s_blocker) := ⟨rfl, rfl, rfl, by decide +kernel, rfl, by decide +kernel, by decide +kernel⟩
section
variable {P : Program} {w : World} {K : PySem.W.Frag} {mg : Str → Option Value} {base : Heap}
def spBlk (K : PySem.W.Frag) : Sp := fun vs H Q _ => ∃ (a : Addr) (n U : Nat) (ms : List Nat), vs = [.ref a, nV n] ∧ SqL K H a (nL ms) ∧ n ≤ 40 ∧ (∀ m ∈ ms, MK.sub m U) ∧ U < 2 ^ n ∧ MK.pc U ≤ 15 ∧ ∀ G, MK.Least G (MK.Tr ms n) → NewL H Q (nL G)
theorem grow_take {m n : Nat} {g : List Nat} {j : Nat} (hj : j < g.length) : MK.grow m n (g.take (j + 1)) = MK.grow m n (g.take j) ++ MK.grow1 m n g[j] := by
  rw [List.take_add_one, List.getElem?_eq_getElem hj, MK.grow_append]
  show _ ++ (MK.grow1 m n g[j] ++ []) = _
  rw [List.append_nil]
theorem nL_append (a b : List Nat) : nL (a ++ b) = nL a ++ nL b := List.map_append
theorem c_blocker (D : FnAt K mg "blocker" s_blocker) (T : Bl mg) (c_bits_of : Cal P w K mg base 1 "bits_of" spBits []) (c_minimal_masks : Cal P w K mg base 2 "minimal_masks" (spMin K) []) : Cal P w K mg base 3 "blocker" (spBlk K) [] := by
  refine calOf D sc_blocker (fun _ _ _ _ _ _ us hl => match us, hl with | [_, _], _ => rfl) (fun vs H Q E h => ?_) (fun f cdv A outer s H vs Q E hr h => ?_)
  · obtain ⟨a, n, U, ms, rfl, _⟩ := h
    rfl
  · obtain ⟨a, n, U, ms, rfl, hS, hn, hU, hUn, hp, k⟩ := h
    have nd := sc_blocker.nd
    refine ⟨_, (pss_cons (ps_set (i := 2) nd rfl (by first | exact Or.inl rfl | exact Or.inr rfl) (pe_lst (pa_cons pe_int pa_nil)))
      (pss_cons (ps_for PassesOwn.never rfl (piList K (pv 0)) (pg_name (i := 3) nd rfl (by first | exact Or.inl rfl | exact Or.inr rfl))
        (pss_cons (ps_set (i := 4) nd rfl (by first | exact Or.inl rfl | exact Or.inr rfl) (pe_lst pa_nil))
        (pss_cons (ps_for PassesOwn.never rfl (piList K (pv 2)) (pg_name (i := 5) nd rfl (by first | exact Or.inl rfl | exact Or.inr rfl))
          (pss_one (ps_if (ptTru K (pe_op op_andN (pv 5) (pv 3)))
            (pss_one (ps_expr (pe_bm PySem.F.plainAttrs_list PySem.F.slot_list_append PySem.F.type_list_append mt_append (pv 4) (pa_cons (pv 5) pa_nil))))
            (pss_one (ps_expr (pe_bm PySem.F.plainAttrs_list PySem.F.slot_list_extend PySem.F.type_list_extend mt_extend (pv 4) (pa_cons (pe_lc (own := [("spot", 6)]) (g := gName 6) (tt := tYes) rfl nd (piList K (pe_c c_bits_of hr (by decide) (by rfl) (pa_cons (pv 3) (pa_cons (pv 1) pa_nil)))) (blkOk_by (N := ["masks", "many", "found", "mask", "grown", "known", "spot"]) (sc := defScope s_blocker) (own := [("spot", 6)]) (by decide +kernel)) (fun _ _ _ _ _ => (pg_name (i := 6) nd rfl (by first | exact Or.inl rfl | exact Or.inr rfl))) (fun _ _ _ _ _ => pts_nil) (fun _ _ _ _ _ => (pe_op op_orN (pv 5) (pe_op op_shlNN pe_int (pv 6))))) pa_nil)))))))
        (pss_one (ps_set (i := 2) nd rfl (by first | exact Or.inl rfl | exact Or.inr rfl) (pe_c c_minimal_masks hr (by decide) (by rfl) (pa_cons (pv 4) pa_nil)))))))
      (pss_one (ps_ret (pe_c c_minimal_masks hr (by decide) (by rfl) (pa_cons (pv 2) pa_nil)))))), ?_⟩
    have lim : ∀ (i : Nat) (g : List Nat), g.Nodup → (∀ x, x ∈ g ↔ MK.MinOf (MK.Tr (ms.take i) n) x) → g.length ≤ 32768 := fun i g h1 h2 => by
      have q := MK.within_len (U := U) h1 fun x hx => MK.min_within (fun m hm => hU m (List.mem_of_mem_take hm)) hUn ((h2 x).mp hx)
      have q2 : 2 ^ MK.pc U ≤ 2 ^ 15 := Nat.pow_le_pow_right (by decide) hp
      omega
    refine ⟨by show 1 ≤ sizeLine; decide, fun q0 hq0 => ?_⟩
    refine ⟨_, rfl, a, rfl, ⟨_, (same_new hq0).seq hS⟩, ?_⟩
    refine for_list (xs := nL ms) (fun i σ' H' => ∃ (q : Addr) (g : List Nat) (c3 c4 c5 : Option V), σ' = [some (.ref a), some (nV n), some (.ref q), c3, c4, c5, none] ∧ Same H H' ∧ H' q = some (.lst (nL g)) ∧ g.Nodup ∧ ∀ x, x ∈ g ↔ MK.MinOf (MK.Tr (ms.take i) n) x)
      ⟨q0, [0], none, none, none, rfl, same_new hq0, upd_same, List.pairwise_singleton _ _, fun x => MK.tr_nil n x⟩ (fun i σ' H' _ ⟨_, _, _, _, _, _, sm, _⟩ => sm.seq hS) (fun i x σ' H' hx hp' => ?_) (fun σ' H' hp' => ?_)
    · obtain ⟨q, g, c3, c4, c5, rfl, sm, hq, gn, gm⟩ := hp'
      obtain ⟨hi, _⟩ := List.getElem?_eq_some_iff.mp hx
      rw [List.length_map] at hi
      rw [nL_get hi] at hx
      cases hx
      have hlim := lim i g gn gm
      have emi : ms.take (i + 1) = ms.take i ++ [ms[i]] := by rw [List.take_add_one, List.getElem?_eq_getElem hi]; rfl
      rw [emi]
      generalize ms[i] = m
      -- grown = []
      refine ⟨Nat.zero_le _, fun r hr0 => ?_⟩
      have sm1 := same_new (o := .lst []) hr0
      refine ⟨_, rfl, q, rfl, ⟨_, SqL.of (sm1 _ _ hq)⟩, ?_⟩
      refine for_list (xs := nL g) (fun j σ2 H2 => ∃ c5, σ2 = [some (.ref a), some (nV n), some (.ref q), some (nV m), some (.ref r), c5, none] ∧ Same H' H2 ∧ H2 r = some (.lst (nL (MK.grow m n (g.take j)))))
        ⟨c5, rfl, sm1, upd_same⟩ (fun j σ2 H2 _ ⟨_, _, sm2, _⟩ => SqL.of (sm2 _ _ hq)) (fun j x σ2 H2 hx h2 => ?_) (fun σ2 H2 h2 => ?_)
      · obtain ⟨c5, rfl, sm2, e2⟩ := h2
        obtain ⟨hj, _⟩ := List.getElem?_eq_some_iff.mp hx
        rw [List.length_map] at hj
        rw [nL_get hj] at hx
        cases hx
        rw [grow_take hj]
        have bl : (MK.grow m n (g.take j)).length + (MK.grow1 m n g[j]).length ≤ 10000000 := by
          have q1 := MK.grow_len m n (g.take (j + 1))
          rw [grow_take hj, List.length_append] at q1
          have q2 : (g.take (j + 1)).length ≤ 32768 := by rw [List.length_take]; omega
          have q3 : (g.take (j + 1)).length * (n + 1) ≤ 32768 * 41 := Nat.mul_le_mul q2 (by omega)
          omega
        generalize MK.grow m n (g.take j) = gr at e2 bl ⊢
        generalize g[j] = kn at bl ⊢
        refine ⟨_, rfl, _, rfl, kn, m, rfl, rfl, _, rfl, ite2 (fun hk => ?_) (fun hk => ?_)⟩
        · have hk' : kn &&& m ≠ 0 := fun z => by rw [z] at hk; exact absurd hk (by decide)
          refine ⟨_, rfl, .inl ⟨rfl, _, SqL.of e2⟩, _, rfl, r, _, _, rfl, rfl, e2, ?_, ?_⟩
          · rw [List.length_map]
            exact Nat.lt_of_le_of_lt (show gr.length ≤ 10000000 by omega) (by rw [sizeLine_eq]; decide)
          · refine ⟨some (nV kn), rfl, same_fresh sm2 hr0, ?_⟩
            rw [upd_same, nL_append]
            unfold MK.grow1
            rw [if_pos hk']
            rfl
        · have hk' : ¬ kn &&& m ≠ 0 := fun z => hk (bne_iff_ne.mpr fun e => z (Int.ofNat_inj.mp e))
          refine ⟨_, rfl, .inl ⟨rfl, _, SqL.of e2⟩, ?_⟩
          -- the comprehension
          refine ⟨_, rfl, _, rfl, m, n, rfl, by omega, fun b H3 sm3 hb0 hb => ?_⟩
          refine ⟨b, rfl, ⟨_, SqL.of hb⟩, fun B hB => lc_listT (SqL.of hb) (sel := fun _ => true) (P := fun t y _ => y = nV (kn ||| 2 ^ (MK.bitsOf m n).getD t 0)) ⟨fun _ _ _ _ _ h => h, fun t H4 _ _ R r => r H4 (Same.refl H4), fun t H4 ht _ _ R r => ?_⟩ hB (lt_line (by rw [List.length_map]; have := bitsOf_len m n; omega)) (fun H4 bs sm4 hB4 _ pb => ?_)⟩
          · have eb := nL_getD ht
            have hlt : (MK.bitsOf m n).getD t 0 ≤ 1000 := by
              rw [List.length_map] at ht
              rw [List.getD_eq_getElem?_getD, List.getElem?_eq_getElem ht]
              have := (MK.mem_bitsOf.mp (List.getElem_mem ht)).1
              show (MK.bitsOf m n)[t] ≤ 1000
              omega
            refine ⟨_, rfl, _, rfl, 1, (MK.bitsOf m n).getD t 0, rfl, eb, ⟨by omega, by decide⟩, kn, _, rfl, rfl, r _ H4 (Same.refl H4) ?_⟩
            rw [Nat.one_mul]
          · rw [filter_yes, List.length_map] at pb
            have e3 : bs = nL (MK.grow1 m n kn) := by
              unfold MK.grow1
              rw [if_neg hk', paired_map_eq pb]
              have q := congrArg (List.map fun i => nV (kn ||| 2 ^ i)) (map_range_get (MK.bitsOf m n) 0)
              rw [List.map_map] at q
              show _ = ((MK.bitsOf m n).map _).map nV
              rw [List.map_map]
              exact q
            rw [e3] at hB4
            refine ⟨r, B, _, _, rfl, rfl, sm4 _ _ (sm3 _ _ e2), hB4, ?_, ?_⟩
            · rw [List.length_map, List.length_map]
              exact lt_line (by omega)
            · refine ⟨some (nV kn), rfl, same_fresh ((sm2.trans sm3).trans sm4) hr0, ?_⟩
              rw [upd_same, nL_append]
      · obtain ⟨c5, rfl, sm2, e2⟩ := h2
        have lg : (nL g).length = g.length := List.length_map _
        rw [lg, List.take_length] at e2
        refine ⟨_, rfl, r, MK.grow m n g, rfl, SqL.of e2, ?_, fun G hG p H3 sm3 hp0 e3 => ?_⟩
        · have q1 := MK.grow_len m n g
          have q3 : g.length * (n + 1) ≤ 32768 * 41 := Nat.mul_le_mul hlim (by omega)
          omega
        · exact ⟨p, G, some (nV m), some (.ref r), c5, rfl, (sm.trans sm2).trans sm3, e3, hG.nd, fun x => (hG.mem x).trans (MK.grow_min gm x)⟩
    · obtain ⟨q, g, c3, c4, c5, rfl, sm, hq, gn, gm⟩ := hp'
      have hlim := lim _ g gn gm
      have lg : (nL ms).length = ms.length := List.length_map _
      rw [lg, List.take_length] at gm
      refine ⟨_, rfl, q, g, rfl, SqL.of hq, by omega, fun G hG p H3 sm3 hp0 e3 => ?_⟩
      exact k G ⟨hG.nd, fun x => (hG.mem x).trans ((MK.MinOf.congr gm x).trans (MK.min_min x)), hG.up⟩ p H3 (sm.trans sm3) (sm.free hp0) e3
end
end L2.KK
namespace L2.KK
open PySem PySem.Spec PyProof.Rows C8
theorem sc_is_whole : FnScope ["value", "low", "high"] ["value", "low", "high"] (defScope s_is_whole) := ⟨rfl, rfl, rfl, by decide +kernel, rfl, by decide +kernel, by decide +kernel⟩
theorem sc_lower : FnScope ["first", "second"] ["first", "second"] (defScope s_lower) := ⟨rfl, rfl, rfl, by decide +kernel, rfl, by decide +kernel, by decide +kernel⟩
theorem sc_lowest : FnScope ["prices", "best", "price"] ["prices"] (defScope s_lowest) := ⟨rfl, rfl, rfl, by decide +kernel, rfl, by decide +kernel, by decide +kernel⟩
theorem sc_highest : FnScope ["prices", "best", "price"] ["prices"] (defScope s_highest) := ⟨rfl, rfl, rfl, by decide +kernel, rfl, by decide +kernel, by decide +kernel⟩
theorem sc_times_price : FnScope ["price", "times"] ["price", "times"] (defScope s_times_price) := ⟨rfl, rfl, rfl, by decide +kernel, rfl, by decide +kernel, by decide +kernel⟩
theorem sc_law_times : FnScope ["price", "times"] ["price", "times"] (defScope s_law_times) := ⟨rfl, rfl, rfl, by decide +kernel, rfl, by decide +kernel, by decide +kernel⟩
theorem sc_row_of : FnScope ["number", "places", "place"] ["number", "places"] (defScope s_row_of) := ⟨rfl, rfl, rfl, by decide +kernel, rfl, by decide +kernel, by decide +kernel⟩
theorem sc_rows_of : FnScope ["places", "number"] ["places"] (defScope s_rows_of) := ⟨rfl, rfl, rfl, by decide +kernel, rfl, by decide +kernel, by decide +kernel⟩
theorem sc_law_row : FnScope ["number", "places", "place"] ["number", "places"] (defScope s_law_row) := ⟨rfl, rfl, rfl, by decide +kernel, rfl, by decide +kernel, by decide +kernel⟩
theorem sc_law_rows : FnScope ["places", "number"] ["places"] (defScope s_law_rows) := ⟨rfl, rfl, rfl, by decide +kernel, rfl, by decide +kernel, by decide +kernel⟩
theorem sc_chosen_number : FnScope ["picks", "filling", "number", "pick"] ["picks", "filling"] (defScope s_chosen_number) := ⟨rfl, rfl, rfl, by decide +kernel, rfl, by decide +kernel, by decide +kernel⟩
theorem sc_firsts : FnScope ["row", "seen", "part"] ["row"] (defScope s_firsts) := ⟨rfl, rfl, rfl, by decide +kernel, rfl, by decide +kernel, by decide +kernel⟩
theorem isn_none : decide (pV none = V.non) = true := decide_eq_true rfl
theorem isn_some {n : Nat} : ¬ decide (pV (some n) = V.non) = true := fun h => by cases of_decide_eq_true h
theorem notn_none : ¬ (!decide (pV none = V.non)) = true := fun h => by rw [isn_none] at h; cases h
theorem notn_some {n : Nat} : (!decide (pV (some n) = V.non)) = true := by
  cases h : decide (pV (some n) = V.non) with
  | true => exact absurd h isn_some
  | false => rfl
theorem units1 {a b : Nat} (h : a + 64 < b) : a + 1 < b := by omega
theorem units0 {a b : Nat} (h : a + 64 < b) : a < b := by omega
theorem take_snoc {α : Type} {l : List α} {i : Nat} {x : α} (h : l[i]? = some x) : l.take (i + 1) = l.take i ++ [x] := by
  rw [List.take_add_one, h]
  rfl
theorem map_get {α β : Type} {f : α → β} {l : List α} {i : Nat} {x : β} (h : (l.map f)[i]? = some x) : ∃ a, l[i]? = some a ∧ x = f a := by
  rw [List.getElem?_map] at h
  cases e : l[i]? with
  | none => rw [e] at h; cases h
  | some a => rw [e] at h; cases h; exact ⟨a, rfl, rfl⟩
theorem map_getD {α β : Type} {f : α → β} {l : List α} {i : Nat} {d : β} (e : α) (h : i < l.length) : (l.map f).getD i d = f (l.getD i e) := by
  rw [List.getD_eq_getElem?_getD, List.getD_eq_getElem?_getD, List.getElem?_map, List.getElem?_eq_getElem h]
  rfl
section
variable {P : Program} {w : World} {K : PySem.W.Frag} {mg : Str → Option Value} {base : Heap}
def spWhole : Sp := fun vs H Q _ => ∃ v lo hi : Int, vs = [.int v, .int lo, .int hi] ∧ Q (.bl (decide (lo ≤ v ∧ v ≤ hi))) H
theorem c_is_whole (D : FnAt K mg "is_whole" s_is_whole) (T : Bl mg) : Cal P w K mg base 1 "is_whole" spWhole [] := by
  refine calOf D sc_is_whole (fun _ _ _ _ _ _ us hl => match us, hl with | [_, _, _], _ => rfl) (fun vs H Q E h => ?_) (fun f cdv A outer s H vs Q E hr h => ?_)
  · obtain ⟨v, lo, hi, rfl, _⟩ := h
    rfl
  · obtain ⟨v, lo, hi, rfl, k⟩ := h
    refine ⟨_, (pss_one (ps_ret (pe_and (pe_callB (crIsi K) (by rfl) T.b_isinstance (by decide +kernel) (pa_cons (pv 0) (pa_cons (pe_bltn (v := .ty "int") (u := .type "int") (by rfl) T.b_int (by decide +kernel) (by rfl)) pa_nil))) (pe_and (pe_not (pe_callB (crIsi K) (by rfl) T.b_isinstance (by decide +kernel) (pa_cons (pv 0) (pa_cons (pe_bltn (v := .ty "bool") (u := .type "bool") (by rfl) T.b_bool (by decide +kernel) (by rfl)) pa_nil)))) (pe_one (pe_chain op_le op_le (pv 1) (pv 0) (pv 2))))))), ?_⟩
    refine ⟨_, rfl, _, _, .type "int", .type "int", true, rfl, .ty "int", .base (.int v), kit_ty (by decide +kernel), true, rfl, iteT ?_⟩
    refine ⟨_, rfl, _, _, .type "int", .type "bool", false, rfl, .ty "bool", .base (.int v), kit_ty (by decide +kernel), false, rfl, true, rfl, iteT ?_⟩
    refine ⟨_, rfl, _, rfl, lo, v, rfl, rfl, _, rfl, ite2 (fun h => ⟨_, rfl, v, hi, rfl, rfl, ?_⟩) (fun h => ?_)⟩
    · have e : decide (lo ≤ v ∧ v ≤ hi) = decide (v ≤ hi) := by
        have := of_decide_eq_true h
        simp [this]
      rw [e] at k
      exact k
    · have e : decide (lo ≤ v ∧ v ≤ hi) = false := decide_eq_false fun z => h (decide_eq_true z.1)
      rw [e] at k
      exact k
def spLower : Sp := fun vs H Q _ => ∃ a b : Option Nat, vs = [pV a, pV b] ∧ Q (pV (MK.lowO a b)) H
theorem c_lower (D : FnAt K mg "lower" s_lower) (T : Bl mg) : Cal P w K mg base 1 "lower" spLower [] := by
  refine calOf D sc_lower (fun _ _ _ _ _ _ us hl => match us, hl with | [_, _], _ => rfl) (fun vs H Q E h => ?_) (fun f cdv A outer s H vs Q E hr h => ?_)
  · obtain ⟨a, b, rfl, _⟩ := h
    rfl
  · obtain ⟨a, b, rfl, k⟩ := h
    refine ⟨_, (pss_cons (ps_if (pt_cmpR op_isN (pv 0) pe_non (nomark _))
        (pss_one (ps_ret (pv 1)))
        pss_nil)
      (pss_cons (ps_if (pt_cmpR op_isN (pv 1) pe_non (nomark _))
        (pss_one (ps_ret (pv 0)))
        pss_nil)
      (pss_one (ps_ret (pe_ifExp (pt_cmpR op_le (pv 0) (pv 1) (nomark _)) (pv 0) (pv 1)))))), ?_⟩
    refine ⟨_, rfl, rfl, _, rfl, ?_⟩
    cases a with
    | none => exact ite2 (fun _ => ⟨_, rfl, k⟩) (fun h => absurd isn_none h)
    | some x =>
      refine ite2 (fun h => absurd h isn_some) (fun _ => ⟨_, rfl, rfl, _, rfl, ?_⟩)
      cases b with
      | none => exact ite2 (fun _ => ⟨_, rfl, k⟩) (fun h => absurd isn_none h)
      | some y =>
        refine ite2 (fun h => absurd h isn_some) (fun _ => ⟨_, rfl, _, rfl, x, y, rfl, rfl, _, rfl, ?_⟩)
        have e : MK.lowO (some x) (some y) = some (if x ≤ y then x else y) := rfl
        rw [e] at k
        by_cases h : x ≤ y
        · rw [if_pos h] at k
          exact ite2 (fun _ => ⟨_, rfl, k⟩) (fun n => absurd (decide_eq_true (by omega)) n)
        · rw [if_neg h] at k
          exact ite2 (fun n => absurd (of_decide_eq_true n) (by omega)) (fun _ => ⟨_, rfl, k⟩)
def spFold (K : PySem.W.Frag) (f : List (Option Nat) → Option Nat) : Sp := fun vs H Q _ => ∃ (a : Addr) (ps : List (Option Nat)), vs = [.ref a] ∧ SqT K H a (ps.map pV) ∧ Q (pV (f ps)) H
theorem c_lowest (D : FnAt K mg "lowest" s_lowest) (T : Bl mg) (c_lower : Cal P w K mg base 1 "lower" spLower []) : Cal P w K mg base 2 "lowest" (spFold K MK.lowL) [] := by
  refine calOf D sc_lowest (fun _ _ _ _ _ _ us hl => match us, hl with | [_], _ => rfl) (fun vs H Q E h => ?_) (fun f cdv A outer s H vs Q E hr h => ?_)
  · obtain ⟨a, ps, rfl, _⟩ := h
    rfl
  · obtain ⟨a, ps, rfl, hS, k⟩ := h
    have nd := sc_lowest.nd
    refine ⟨_, (pss_cons (ps_set (i := 1) nd rfl (by first | exact Or.inl rfl | exact Or.inr rfl) pe_non)
      (pss_cons (ps_for PassesOwn.never rfl (piTup K (pv 0)) (pg_name (i := 2) nd rfl (by first | exact Or.inl rfl | exact Or.inr rfl))
        (pss_one (ps_set (i := 1) nd rfl (by first | exact Or.inl rfl | exact Or.inr rfl) (pe_c c_lower hr (by decide) (by rfl) (pa_cons (pv 1) (pa_cons (pv 2) pa_nil))))))
      (pss_one (ps_ret (pv 1))))), ?_⟩
    refine ⟨_, rfl, a, rfl, ⟨_, hS⟩, ?_⟩
    refine for_tup (xs := ps.map pV) (fun i σ' H' => ∃ c2 : Option V, σ' = [some (.ref a), some (pV (MK.lowL (ps.take i))), c2] ∧ H' = H) ⟨none, rfl, rfl⟩ (fun i σ' H' _ ⟨_, _, e⟩ => by rw [e]; exact hS) (fun i x σ' H' hx hp => ?_) (fun σ' H' hp => ?_)
    · obtain ⟨c2, rfl, rfl⟩ := hp
      obtain ⟨p, hp, rfl⟩ := map_get hx
      refine ⟨_, rfl, _, rfl, MK.lowL (ps.take i), p, rfl, ?_⟩
      refine ⟨some (pV p), ?_, rfl⟩
      rw [take_snoc hp]
      unfold MK.lowL
      rw [List.foldl_append]
      rfl
    · obtain ⟨c2, rfl, rfl⟩ := hp
      rw [List.length_map, List.take_length]
      exact ⟨_, rfl, k⟩
theorem c_highest (D : FnAt K mg "highest" s_highest) (T : Bl mg) : Cal P w K mg base 1 "highest" (spFold K MK.hiL) [] := by
  refine calOf D sc_highest (fun _ _ _ _ _ _ us hl => match us, hl with | [_], _ => rfl) (fun vs H Q E h => ?_) (fun f cdv A outer s H vs Q E hr h => ?_)
  · obtain ⟨a, ps, rfl, _⟩ := h
    rfl
  · obtain ⟨a, ps, rfl, hS, k⟩ := h
    have nd := sc_highest.nd
    refine ⟨_, (pss_cons (ps_set (i := 1) nd rfl (by first | exact Or.inl rfl | exact Or.inr rfl) pe_non)
      (pss_cons (ps_for PassesOwn.never rfl (piTup K (pv 0)) (pg_name (i := 2) nd rfl (by first | exact Or.inl rfl | exact Or.inr rfl))
        (pss_one (ps_if (PW.pt (pw_and (pt_cmpR op_notN (pv 2) pe_non (nomark _)) (pw_and1 (PW.pt (pw_or (pt_cmpR op_isN (pv 1) pe_non (nomark _)) (pw_or1 (pt_cmpR op_gt (pv 2) (pv 1) (nomark _))))))))
          (pss_one (ps_set (i := 1) nd rfl (by first | exact Or.inl rfl | exact Or.inr rfl) (pv 2)))
          pss_nil)))
      (pss_one (ps_ret (pv 1))))), ?_⟩
    refine ⟨_, rfl, a, rfl, ⟨_, hS⟩, ?_⟩
    refine for_tup (xs := ps.map pV) (fun i σ' H' => ∃ c2 : Option V, σ' = [some (.ref a), some (pV (MK.hiL (ps.take i))), c2] ∧ H' = H) ⟨none, rfl, rfl⟩ (fun i σ' H' _ ⟨_, _, e⟩ => by rw [e]; exact hS) (fun i x σ' H' hx hp => ?_) (fun σ' H' hp => ?_)
    · obtain ⟨c2, rfl, rfl⟩ := hp
      obtain ⟨p, hp, rfl⟩ := map_get hx
      have et : MK.hiL (ps.take (i + 1)) = MK.hiO (MK.hiL (ps.take i)) p := by
        rw [take_snoc hp]
        unfold MK.hiL
        rw [List.foldl_append]
        rfl
      rw [et]
      generalize MK.hiL (ps.take i) = b
      refine ⟨_, rfl, rfl, _, rfl, ?_⟩
      cases p with
      | none =>
        refine ite2 (fun h => absurd h notn_none) (fun _ => ?_)
        refine ⟨some (pV none), ?_, rfl⟩
        cases b <;> rfl
      | some x =>
        refine ite2 (fun _ => ⟨_, rfl, rfl, _, rfl, ?_⟩) (fun h => absurd notn_some h)
        cases b with
        | none => exact ite2 (fun _ => ⟨_, rfl, ⟨_, rfl, rfl⟩⟩) (fun h => absurd isn_none h)
        | some y =>
          refine ite2 (fun h => absurd h isn_some) (fun _ => ⟨_, rfl, _, rfl, x, y, rfl, rfl, _, rfl, ?_⟩)
          have e : MK.hiO (some y) (some x) = if x > y then some x else some y := rfl
          rw [e]
          by_cases h : x > y
          · rw [if_pos h]
            exact ite2 (fun _ => ⟨_, rfl, ⟨_, rfl, rfl⟩⟩) (fun n => absurd (decide_eq_true (by omega)) n)
          · rw [if_neg h]
            exact ite2 (fun n => absurd (of_decide_eq_true n) (by omega)) (fun _ => ⟨_, rfl, rfl⟩)
    · obtain ⟨c2, rfl, rfl⟩ := hp
      rw [List.length_map, List.take_length]
      exact ⟨_, rfl, k⟩
def spTimes : Sp := fun vs H Q _ => ∃ (a : Option Nat) (t : Nat), vs = [pV a, nV t] ∧ (∀ m, a = some m → m < 18446744073709551616) ∧ Q (pV (a.map (· * t))) H
theorem c_times_price (D : FnAt K mg "times_price" s_times_price) (T : Bl mg) : Cal P w K mg base 1 "times_price" spTimes [] := by
  refine calOf D sc_times_price (fun _ _ _ _ _ _ us hl => match us, hl with | [_, _], _ => rfl) (fun vs H Q E h => ?_) (fun f cdv A outer s H vs Q E hr h => ?_)
  · obtain ⟨a, t, rfl, _⟩ := h
    rfl
  · obtain ⟨a, t, rfl, hb, k⟩ := h
    refine ⟨_, (pss_cons (ps_if (pt_cmpR op_isN (pv 0) pe_non (nomark _))
        (pss_one (ps_ret pe_non))
        pss_nil)
      (pss_one (ps_ret (pe_op op_mulNN (pv 0) (pv 1))))), ?_⟩
    refine ⟨_, rfl, rfl, _, rfl, ?_⟩
    cases a with
    | none => exact ite2 (fun _ => k) (fun h => absurd isn_none h)
    | some x => exact ite2 (fun h => absurd h isn_some) (fun _ => ⟨_, rfl, _, rfl, x, t, rfl, rfl, .inl (hb x rfl), k⟩)
theorem c_law_times (D : FnAt K mg "_law_times" s_law_times) (T : Bl mg) : Cal P w K mg base 1 "_law_times" spTimes [] := by
  refine calOf D sc_law_times (fun _ _ _ _ _ _ us hl => match us, hl with | [_, _], _ => rfl) (fun vs H Q E h => ?_) (fun f cdv A outer s H vs Q E hr h => ?_)
  · obtain ⟨a, t, rfl, _⟩ := h
    rfl
  · obtain ⟨a, t, rfl, hb, k⟩ := h
    refine ⟨_, (pss_cons (ps_if (pt_cmpR op_isN (pv 0) pe_non (nomark _))
        (pss_one (ps_ret pe_non))
        pss_nil)
      (pss_one (ps_ret (pe_op op_mulNN (pv 0) (pv 1))))), ?_⟩
    refine ⟨_, rfl, rfl, _, rfl, ?_⟩
    cases a with
    | none => exact ite2 (fun _ => k) (fun h => absurd isn_none h)
    | some x => exact ite2 (fun h => absurd h isn_some) (fun _ => ⟨_, rfl, _, rfl, x, t, rfl, rfl, .inl (hb x rfl), k⟩)
def spRow : Sp := fun vs H Q _ => ∃ n k : Nat, vs = [nV n, nV k] ∧ k ≤ 1000 ∧ NewT H Q (nL (MK.rowL n k))
def RowsAt (H : Hp) (k : Nat) (y : V) (n : Nat) : Prop := ∃ t, y = .ref t ∧ H t = some (.tup (nL (MK.rowL n k)))
def spRows : Sp := fun vs H Q _ => ∃ k : Nat, vs = [nV k] ∧ k ≤ 20 ∧ ∀ p H' ys, Same H H' → H p = none → H' p = some (.lst ys) → Paired (RowsAt H' k) ys (List.range (2 ^ k)) → Q (.ref p) H'
theorem c_row_of (D : FnAt K mg "row_of" s_row_of) (T : Bl mg) : Cal P w K mg base 1 "row_of" spRow [] := by
  refine calOf D sc_row_of (fun _ _ _ _ _ _ us hl => match us, hl with | [_, _], _ => rfl) (fun vs H Q E h => ?_) (fun f cdv A outer s H vs Q E hr h => ?_)
  · obtain ⟨n, m, rfl, _⟩ := h
    rfl
  · obtain ⟨n, m, rfl, hm, k⟩ := h
    have nd := sc_row_of.nd
    refine ⟨_, (pss_one (ps_ret (pe_callTy (crTup K) (by rfl) T.b_tuple (by decide +kernel) (pa_cons (pe_lc (own := [("place", 2)]) (g := gName 2) (tt := tYes) rfl nd (pi_range1 (by rfl) T.b_range (pa_cons (pv 1) pa_nil)) (blkOk_by (N := ["number", "places", "place"]) (sc := defScope s_row_of) (own := [("place", 2)]) (by decide +kernel)) (fun _ _ _ _ _ => (pg_name (i := 2) nd rfl (by first | exact Or.inl rfl | exact Or.inr rfl))) (fun _ _ _ _ _ => pts_nil) (fun _ _ _ _ _ => (pe_op op_andN (pe_op op_shrNN (pv 0) (pe_op op_subNN (pe_op op_subNN (pv 1) pe_int) (pv 2))) pe_int))) pa_nil)))), ?_⟩
    refine ⟨_, rfl, m, rfl, by omega, by omega, ?_⟩
    rw [Int.toNat_natCast]
    refine fun D hD => lc_rangeT (lo := 0) (sel := fun _ => true) (P := fun j y _ => y = nV (n >>> (m - 1 - j) &&& 1)) ⟨fun _ _ _ _ _ h => h, fun j H3 hj _ R r => r H3 (Same.refl H3), fun j H3 hj _ _ R r => ?_⟩ hD (lt_line (by omega)) (fun H2 bs sm2 hb _ pb => ?_)
    · refine ⟨_, rfl, _, rfl, m, 1, rfl, rfl, by omega, _, rfl, m - 1, j, rfl, by rw [Int.zero_add], by omega, n, _, rfl, rfl, _, 1, rfl, rfl, r _ H3 (Same.refl H3) rfl⟩
    · rw [filter_yes] at pb
      rw [paired_map_eq pb] at hb
      refine ⟨D, _, rfl, .inl ⟨SqL.of hb, fun l hl => k l _ (sm2.trans (same_new hl)) (sm2.free hl) ?_⟩⟩
      rw [upd_same]
      unfold MK.rowL
      show _ = some (HO.tup ((List.map _ _).map nV))
      rw [List.map_map]
      rfl
theorem c_rows_of (D : FnAt K mg "rows_of" s_rows_of) (T : Bl mg) (c_row_of : Cal P w K mg base 1 "row_of" spRow []) : Cal P w K mg base 2 "rows_of" spRows [] := by
  refine calOf D sc_rows_of (fun _ _ _ _ _ _ us hl => match us, hl with | [_], _ => rfl) (fun vs H Q E h => ?_) (fun f cdv A outer s H vs Q E hr h => ?_)
  · obtain ⟨m, rfl, _⟩ := h
    rfl
  · obtain ⟨m, rfl, hm, k⟩ := h
    have nd := sc_rows_of.nd
    refine ⟨_, (pss_one (ps_ret (pe_lc (own := [("number", 1)]) (g := gName 1) (tt := tYes) rfl nd (pi_range1 (by rfl) T.b_range (pa_cons (pe_op op_shlNN pe_int (pv 0)) pa_nil)) (blkOk_by (N := ["places", "number"]) (sc := defScope s_rows_of) (own := [("number", 1)]) (by decide +kernel)) (fun _ _ _ _ _ => (pg_name (i := 1) nd rfl (by first | exact Or.inl rfl | exact Or.inr rfl))) (fun _ _ _ _ _ => pts_nil) (fun _ _ _ _ _ => (pe_c c_row_of hr (by decide) (by rfl) (pa_cons (pv 1) (pa_cons (pv 0) pa_nil))))))), ?_⟩
    have hp : 2 ^ m ≤ 2 ^ 20 := Nat.pow_le_pow_right (by decide) hm
    refine ⟨_, rfl, 1, m, rfl, rfl, ⟨by omega, by decide⟩, _, rfl, by omega, by omega, ?_⟩
    rw [Int.toNat_natCast, Nat.one_mul]
    refine fun D hD => lc_rangeT (lo := 0) (sel := fun _ => true) (P := fun j y H => RowsAt H m y j) ⟨fun j y H1 H2 sm ⟨t, e1, e2⟩ => ⟨t, e1, sm _ _ e2 trivial⟩, fun j H3 hj _ R r => r H3 (Same.refl H3), fun j H3 hj _ _ R r => ?_⟩ hD (lt_line (by omega)) (fun H2 bs sm2 hb _ pb => ?_)
    · exact ⟨_, rfl, _, rfl, j, m, by rw [Int.zero_add]; rfl, by omega, fun p H4 sm4 _ e4 => r _ H4 sm4 ⟨p, rfl, e4⟩⟩
    · rw [filter_yes] at pb
      exact k D H2 bs sm2 hD hb pb
theorem c_law_row (D : FnAt K mg "_law_row" s_law_row) (T : Bl mg) : Cal P w K mg base 1 "_law_row" spRow [] := by
  refine calOf D sc_law_row (fun _ _ _ _ _ _ us hl => match us, hl with | [_, _], _ => rfl) (fun vs H Q E h => ?_) (fun f cdv A outer s H vs Q E hr h => ?_)
  · obtain ⟨n, m, rfl, _⟩ := h
    rfl
  · obtain ⟨n, m, rfl, hm, k⟩ := h
    have nd := sc_law_row.nd
    refine ⟨_, (pss_one (ps_ret (pe_callTy (crTup K) (by rfl) T.b_tuple (by decide +kernel) (pa_cons (pe_lc (own := [("place", 2)]) (g := gName 2) (tt := tYes) rfl nd (pi_range1 (by rfl) T.b_range (pa_cons (pv 1) pa_nil)) (blkOk_by (N := ["number", "places", "place"]) (sc := defScope s_law_row) (own := [("place", 2)]) (by decide +kernel)) (fun _ _ _ _ _ => (pg_name (i := 2) nd rfl (by first | exact Or.inl rfl | exact Or.inr rfl))) (fun _ _ _ _ _ => pts_nil) (fun _ _ _ _ _ => (pe_op op_andN (pe_op op_shrNN (pv 0) (pe_op op_subNN (pe_op op_subNN (pv 1) pe_int) (pv 2))) pe_int))) pa_nil)))), ?_⟩
    refine ⟨_, rfl, m, rfl, by omega, by omega, ?_⟩
    rw [Int.toNat_natCast]
    refine fun D hD => lc_rangeT (lo := 0) (sel := fun _ => true) (P := fun j y _ => y = nV (n >>> (m - 1 - j) &&& 1)) ⟨fun _ _ _ _ _ h => h, fun j H3 hj _ R r => r H3 (Same.refl H3), fun j H3 hj _ _ R r => ?_⟩ hD (lt_line (by omega)) (fun H2 bs sm2 hb _ pb => ?_)
    · refine ⟨_, rfl, _, rfl, m, 1, rfl, rfl, by omega, _, rfl, m - 1, j, rfl, by rw [Int.zero_add], by omega, n, _, rfl, rfl, _, 1, rfl, rfl, r _ H3 (Same.refl H3) rfl⟩
    · rw [filter_yes] at pb
      rw [paired_map_eq pb] at hb
      refine ⟨D, _, rfl, .inl ⟨SqL.of hb, fun l hl => k l _ (sm2.trans (same_new hl)) (sm2.free hl) ?_⟩⟩
      rw [upd_same]
      unfold MK.rowL
      show _ = some (HO.tup ((List.map _ _).map nV))
      rw [List.map_map]
      rfl
theorem c_law_rows (D : FnAt K mg "_law_rows" s_law_rows) (T : Bl mg) (c_law_row : Cal P w K mg base 1 "_law_row" spRow []) : Cal P w K mg base 2 "_law_rows" spRows [] := by
  refine calOf D sc_law_rows (fun _ _ _ _ _ _ us hl => match us, hl with | [_], _ => rfl) (fun vs H Q E h => ?_) (fun f cdv A outer s H vs Q E hr h => ?_)
  · obtain ⟨m, rfl, _⟩ := h
    rfl
  · obtain ⟨m, rfl, hm, k⟩ := h
    have nd := sc_law_rows.nd
    refine ⟨_, (pss_one (ps_ret (pe_lc (own := [("number", 1)]) (g := gName 1) (tt := tYes) rfl nd (pi_range1 (by rfl) T.b_range (pa_cons (pe_op op_shlNN pe_int (pv 0)) pa_nil)) (blkOk_by (N := ["places", "number"]) (sc := defScope s_law_rows) (own := [("number", 1)]) (by decide +kernel)) (fun _ _ _ _ _ => (pg_name (i := 1) nd rfl (by first | exact Or.inl rfl | exact Or.inr rfl))) (fun _ _ _ _ _ => pts_nil) (fun _ _ _ _ _ => (pe_c c_law_row hr (by decide) (by rfl) (pa_cons (pv 1) (pa_cons (pv 0) pa_nil))))))), ?_⟩
    have hp : 2 ^ m ≤ 2 ^ 20 := Nat.pow_le_pow_right (by decide) hm
    refine ⟨_, rfl, 1, m, rfl, rfl, ⟨by omega, by decide⟩, _, rfl, by omega, by omega, ?_⟩
    rw [Int.toNat_natCast, Nat.one_mul]
    refine fun D hD => lc_rangeT (lo := 0) (sel := fun _ => true) (P := fun j y H => RowsAt H m y j) ⟨fun j y H1 H2 sm ⟨t, e1, e2⟩ => ⟨t, e1, sm _ _ e2 trivial⟩, fun j H3 hj _ R r => r H3 (Same.refl H3), fun j H3 hj _ _ R r => ?_⟩ hD (lt_line (by omega)) (fun H2 bs sm2 hb _ pb => ?_)
    · exact ⟨_, rfl, _, rfl, j, m, by rw [Int.zero_add]; rfl, by omega, fun p H4 sm4 _ e4 => r _ H4 sm4 ⟨p, rfl, e4⟩⟩
    · rw [filter_yes] at pb
      exact k D H2 bs sm2 hD hb pb
def spChosen (K : PySem.W.Frag) : Sp := fun vs H Q _ => ∃ (a b : Addr) (ps fs : List Nat), vs = [.ref a, .ref b] ∧ SqL K H a (nL ps) ∧ SqT K H b (nL fs) ∧ (∀ x ∈ ps, x < fs.length) ∧ Q (nV (MK.chosen ps fs)) H
theorem c_chosen_number (D : FnAt K mg "chosen_number" s_chosen_number) (T : Bl mg) : Cal P w K mg base 1 "chosen_number" (spChosen K) [] := by
  refine calOf D sc_chosen_number (fun _ _ _ _ _ _ us hl => match us, hl with | [_, _], _ => rfl) (fun vs H Q E h => ?_) (fun f cdv A outer s H vs Q E hr h => ?_)
  · obtain ⟨a, b, ps, fs, rfl, _⟩ := h
    rfl
  · obtain ⟨a, b, ps, fs, rfl, ha, hb, hl, k⟩ := h
    have nd := sc_chosen_number.nd
    refine ⟨_, (pss_cons (ps_set (i := 2) nd rfl (by first | exact Or.inl rfl | exact Or.inr rfl) pe_int)
      (pss_cons (ps_for PassesOwn.never rfl (piList K (pv 0)) (pg_name (i := 3) nd rfl (by first | exact Or.inl rfl | exact Or.inr rfl))
        (pss_one (ps_set (i := 2) nd rfl (by first | exact Or.inl rfl | exact Or.inr rfl) (pe_op op_addNN (pe_op op_mulNN (pv 2) pe_int) (pe_ix (ixT K) (pv 1) (pv 3) (fun _ _ => rfl))))))
      (pss_one (ps_ret (pv 2))))), ?_⟩
    refine ⟨_, rfl, a, rfl, ⟨_, ha⟩, ?_⟩
    refine for_list (xs := nL ps) (fun i σ' H' => ∃ c3 : Option V, σ' = [some (.ref a), some (.ref b), some (nV (MK.chosen (ps.take i) fs)), c3] ∧ H' = H) ⟨none, rfl, rfl⟩ (fun i σ' H' _ ⟨_, _, e⟩ => by rw [e]; exact ha) (fun i x σ' H' hx hp => ?_) (fun σ' H' hp => ?_)
    · obtain ⟨c3, rfl, rfl⟩ := hp
      obtain ⟨p, hp, rfl⟩ := map_get hx
      have hlt := hl p (List.mem_of_getElem? hp)
      have et : MK.chosen (ps.take (i + 1)) fs = MK.chosen (ps.take i) fs * 2 + fs.getD p 0 := by
        rw [take_snoc hp]
        unfold MK.chosen
        rw [List.foldl_append]
        rfl
      rw [et]
      generalize MK.chosen (ps.take i) fs = m
      refine ⟨_, rfl, m, 2, rfl, rfl, .inr (by decide), _, rfl, _, rfl, b, nL fs, p, nV (fs.getD p 0), rfl, rfl, hb, atI_nat ?_, _, _, rfl, rfl, ⟨_, rfl, rfl⟩⟩
      rw [List.getElem?_map, List.getD_eq_getElem?_getD, List.getElem?_eq_getElem hlt]
      rfl
    · obtain ⟨c3, rfl, rfl⟩ := hp
      rw [List.length_map, List.take_length]
      exact ⟨_, rfl, k⟩
/-! firsts: the keys of a dict -/
def seenK (acc : List Nat) : List (Key × V) := acc.map fun x : Nat => ((Sum.inl (x : Int) : Key), V.bl true)
theorem put_seen (acc : List Nat) (x : Nat) : putK (seenK acc) (Sum.inl (x : Int)) (V.bl true) = seenK (MK.first1 acc x) := by
  have any : ((seenK acc).any fun kv => decide (kv.1 = Sum.inl (x : Int))) = decide (x ∈ acc) := by
    rw [Bool.eq_iff_iff, List.any_eq_true, decide_eq_true_iff]
    constructor
    · rintro ⟨kv, hm, e⟩
      obtain ⟨y, hy, rfl⟩ := List.mem_map.mp hm
      have e2 : (Sum.inl (y : Int) : Key) = Sum.inl (x : Int) := of_decide_eq_true e
      have e3 : (y : Int) = (x : Int) := Sum.inl.inj e2
      have e4 : y = x := by omega
      exact e4 ▸ hy
    · exact fun h => ⟨_, List.mem_map.mpr ⟨x, h, rfl⟩, decide_eq_true rfl⟩
  unfold putK MK.first1
  rw [any]
  by_cases h : x ∈ acc
  · rw [if_pos (decide_eq_true h), if_pos h]
    unfold seenK
    rw [List.map_map]
    refine List.map_congr_left fun y _ => ?_
    show (if (Sum.inl (y : Int) : Key) = Sum.inl (x : Int) then ((Sum.inl (y : Int) : Key), V.bl true) else (Sum.inl (y : Int), V.bl true)) = _
    split <;> rfl
  · rw [if_neg (fun z => h (of_decide_eq_true z)), if_neg h]
    unfold seenK
    rw [List.map_append]
    rfl
theorem first1_len (acc : List Nat) (x : Nat) : (MK.first1 acc x).length ≤ acc.length + 1 := by
  unfold MK.first1
  split
  · omega
  · rw [List.length_append]
    exact Nat.le_refl _
def spFirsts (K : PySem.W.Frag) : Sp := fun vs H Q _ => ∃ (a : Addr) (ns : List Nat), vs = [.ref a] ∧ SqT K H a (nL ns) ∧ ns.length ≤ 1000 ∧ ∀ p H', Same H H' → H p = none → BareT H' p (nL (MK.firstsL ns)) → Q (.ref p) H'
theorem c_firsts (D : FnAt K mg "firsts" s_firsts) (T : Bl mg) : Cal P w K mg base 1 "firsts" (spFirsts K) [] := by
  refine calOf D sc_firsts (fun _ _ _ _ _ _ us hl => match us, hl with | [_], _ => rfl) (fun vs H Q E h => ?_) (fun f cdv A outer s H vs Q E hr h => ?_)
  · obtain ⟨a, ns, rfl, _⟩ := h
    rfl
  · obtain ⟨a, ns, rfl, ha, hl, k⟩ := h
    have nd := sc_firsts.nd
    have hu := hr.units
    refine ⟨_, (pss_cons (ps_set (i := 1) nd rfl (by first | exact Or.inl rfl | exact Or.inr rfl) pe_dnewK)
      (pss_cons (ps_for PassesOwn.never rfl (piTup K (pv 0)) (pg_name (i := 2) nd rfl (by first | exact Or.inl rfl | exact Or.inr rfl))
        (pss_one (ps_dput (units1 hu) (pv 1) (pv 2) pe_bl (by rfl))))
      (pss_one (ps_ret (pe_callTy (crTupF K) (by rfl) T.b_tuple (by decide +kernel) (pa_cons (pe_callTy (call_list_dK rfl) (by rfl) T.b_list (by decide +kernel) (pa_cons (pv 1) pa_nil)) pa_nil)))))), ?_⟩
    intro q hq
    refine ⟨_, rfl, a, rfl, ⟨_, same_seqT (same_new hq) ha⟩, ?_⟩
    refine for_tup (xs := nL ns) (fun i σ' H' => ∃ c2 : Option V, σ' = [some (.ref a), some (.ref q), c2] ∧ H' = upd H q (.dK (seenK (MK.firstsL (ns.take i)))) ∧ (MK.firstsL (ns.take i)).length ≤ i) ⟨none, rfl, rfl, Nat.le_refl 0⟩ (fun i σ' H' _ ⟨_, _, e, _⟩ => by rw [e]; exact same_seqT (same_new hq) ha) (fun i x σ' H' hx hp => ?_) (fun σ' H' hp => ?_)
    · obtain ⟨c2, rfl, rfl, hle⟩ := hp
      obtain ⟨p, hp, rfl⟩ := map_get hx
      have hi := (List.getElem?_eq_some_iff.mp hp).1
      have et : MK.firstsL (ns.take (i + 1)) = MK.first1 (MK.firstsL (ns.take i)) p := by
        rw [take_snoc hp]
        unfold MK.firstsL
        rw [List.foldl_append]
        rfl
      rw [et]
      generalize MK.firstsL (ns.take i) = acc at hle
      refine ⟨_, rfl, _, rfl, q, _, rfl, DPut.k (k := Sum.inl (p : Int)) upd_same (Nat.lt_of_le_of_lt (show (seenK acc).length ≤ 1000 by unfold seenK; rw [List.length_map]; omega) (by decide)), _, rfl, ?_, Nat.le_trans (first1_len _ _) (by omega)⟩
      rw [put_seen]
      funext b
      unfold upd
      split <;> rfl
    · obtain ⟨c2, rfl, rfl, hle⟩ := hp
      rw [List.length_map, List.take_length]
      refine ⟨_, rfl, q, _, rfl, upd_same, fun l hl => ?_⟩
      refine ⟨l, _, rfl, SqL.of upd_same, fun t H2 ht sm hb => ?_⟩
      have e : (seenK (MK.firstsL ns)).map (fun kv => kV kv.1) = nL (MK.firstsL ns) := by
        unfold seenK
        rw [List.map_map]
        rfl
      rw [e] at hb
      exact k t _ (((same_new hq).trans (same_new hl)).trans sm) (((same_new hq).trans (same_new hl)).free ht) hb
end
end L2.KK
namespace L2.KK
open PySem PySem.Spec PyProof.Rows C8
structure Ev (K : PySem.W.Frag) (mg : Str → Option Value) where
  Table : Addr
  Lot : Addr
  Puzzle : Addr
  TooMany : Addr
  f_TooMany : Addr
  PricedError : Addr
  k_Table : mg "Table" = some (.ref Table)
  c_Table : InsX K Table
  i_Table : InAt K Table "Table.__init__" s_Table_init
  m_Table_eq : MtAt K Table "__eq__" "Table.__eq__" s_Table_eq
  n_Table_places : NoAttr K Table "places"
  n_Table_prices : NoAttr K Table "prices"
  n_Table_least : NoAttr K Table "least"
  n_Table_most : NoAttr K Table "most"
  k_Lot : mg "Lot" = some (.ref Lot)
  c_Lot : InsX K Lot
  i_Lot : InAt K Lot "Lot.__init__" s_Lot_init
  n_Lot_tables : NoAttr K Lot "tables"
  n_Lot_swaps : NoAttr K Lot "swaps"
  k_Puzzle : mg "Puzzle" = some (.ref Puzzle)
  c_Puzzle : InsX K Puzzle
  i_Puzzle : InAt K Puzzle "Puzzle.__init__" s_Puzzle_init
  n_Puzzle_lot : NoAttr K Puzzle "lot"
  n_Puzzle_many : NoAttr K Puzzle "many"
  n_Puzzle_uses : NoAttr K Puzzle "uses"
  s_Table_Table : PySem.W.kitOne K (.ref Table) (.ref Table) = some true
  s_Lot_Lot : PySem.W.kitOne K (.ref Lot) (.ref Lot) = some true
  k_TooMany : mg "TooMany" = some (.ref TooMany)
  o_TooMany : OwnX K TooMany f_TooMany
  d_TooMany : ∃ fd, FnP K "__init__" "TooMany.__init__" s_TooMany_init f_TooMany fd
  n_TooMany_limit : PySem.W.findIn K (.ref TooMany) "limit" = some none
  k_PricedError : mg "PricedError" = some (.ref PricedError)
  b_PricedError : BaseX K PricedError
  e_TooMany_TooMany : PySem.W.exmOne K (.ref TooMany) (.ref TooMany) = some true
theorem sc_Table_init : FnScope ["self", "places", "prices", "price"] ["self", "places", "prices"] (defScope s_Table_init) := ⟨rfl, rfl, rfl, by decide +kernel, rfl, by decide +kernel, by decide +kernel⟩
theorem sc_Table_eq : FnScope ["self", "other"] ["self", "other"] (defScope s_Table_eq) := ⟨rfl, rfl, rfl, by decide +kernel, rfl, by decide +kernel, by decide +kernel⟩
theorem sc_swapped : FnScope ["table", "price"] ["table"] (defScope s_swapped) := ⟨rfl, rfl, rfl, by decide +kernel, rfl, by decide +kernel, by decide +kernel⟩
theorem sc_is_told : FnScope ["table"] ["table"] (defScope s_is_told) := ⟨rfl, rfl, rfl, by decide +kernel, rfl, by decide +kernel, by decide +kernel⟩
theorem sc_Lot_init : FnScope ["self", "tables", "at", "table"] ["self", "tables"] (defScope s_Lot_init) := ⟨rfl, rfl, rfl, by decide +kernel, rfl, by decide +kernel, by decide +kernel⟩
theorem bl_t {p : Prop} [Decidable p] (h : p) : V.bl (decide p) = V.bl true := congrArg V.bl (decide_eq_true h)
theorem bl_f {p : Prop} [Decidable p] (h : ¬ p) : V.bl (decide p) = V.bl false := congrArg V.bl (decide_eq_false h)
theorem nbl_t {p : Prop} [Decidable p] (h : p) : V.bl (!decide p) = V.bl false := congrArg V.bl (by rw [decide_eq_true h]; rfl)
theorem nbl_f {p : Prop} [Decidable p] (h : ¬ p) : V.bl (!decide p) = V.bl true := congrArg V.bl (by rw [decide_eq_false h]; rfl)
/-! ### tables -/
def tabF (k : Nat) (tp : Addr) (ps : List (Option Nat)) : List (Str × V) := [("places", nV k), ("prices", .ref tp), ("least", pV (MK.lowL ps)), ("most", pV (MK.hiL ps))]
def TabAt (K : PySem.W.Frag) (C : Addr) (H : Hp) (a : Addr) (k : Nat) (ps : List (Option Nat)) : Prop := ∃ dx tp, H a = some (.ins C dx (tabF k tp ps)) ∧ SqT K H tp (ps.map pV)
theorem TabAt.grow {K : PySem.W.Frag} {C : Addr} {H H' : Hp} {a : Addr} {k : Nat} {ps : List (Option Nat)} (h : TabAt K C H a k ps) (e : Same H H') : TabAt K C H' a k ps := by
  obtain ⟨dx, tp, h1, h2⟩ := h
  exact ⟨dx, tp, e _ _ h1, same_seqT e h2⟩
section
variable {P : Program} {w : World} {K : PySem.W.Frag} {mg : Str → Option Value} {base : Heap}
def spTab (K : PySem.W.Frag) (C : Addr) : Sp := fun vs H Q _ => ∃ (x dx tp : Addr) (k : Nat) (ps : List (Option Nat)), vs = [.ref x, nV k, .ref tp] ∧ H x = some (.ins C dx []) ∧ SqT K H tp (ps.map pV) ∧ k ≤ 4 ∧ ps.length = 2 ^ k ∧
  (∀ p ∈ ps, ∀ m, p = some m → m ≤ 10 ^ 50) ∧ Q .non (upd H x (.ins C dx (tabF k tp ps)))
theorem c_Table (Z : Ev K mg) (T : Bl mg) (c_is_whole : Cal P w K mg base 1 "is_whole" spWhole []) (c_lowest : Cal P w K mg base 2 "lowest" (spFold K MK.lowL) []) (c_highest : Cal P w K mg base 1 "highest" (spFold K MK.hiL) []) : Mak P w K mg base 3 "Table" Z.Table (spTab K Z.Table) [] := by
  refine makOf Z.k_Table Z.i_Table sc_Table_init (fun _ _ _ _ _ _ us hl => match us, hl with | [_, _, _], _ => rfl) (fun vs H Q E h => ?_) (fun f cdv A outer s H vs Q E hr h => ?_)
  · obtain ⟨x, dx, tp, k, ps, rfl, _⟩ := h
    rfl
  · obtain ⟨x, dx, tp, k, ps, rfl, hx, hS, hk, hl, hm, q⟩ := h
    have nd := sc_Table_init.nd
    refine ⟨_, (pss_cons (ps_if (pt_not (pt_val (pe_c c_is_whole hr (by decide) (by rfl) (pa_cons (pv 1) (pa_cons pe_int (pa_cons (pe_gc (by rfl) T.g_PLACES) pa_nil))))))
        (pss_one ps_never)
        pss_nil)
      (pss_cons (ps_if (PW.pt (pw_or (pt_not (pt_val (pe_callB (crIsi K) (by rfl) T.b_isinstance (by decide +kernel) (pa_cons (pv 2) (pa_cons (pe_bltn (v := .ty "tuple") (u := .type "tuple") (by rfl) T.b_tuple (by decide +kernel) (by rfl)) pa_nil))))) (pw_or1 (pt_cmpR op_ne (pe_callB (crLen K) (by rfl) T.b_len (by decide +kernel) (pa_cons (pv 2) pa_nil)) (pe_op op_shlNN pe_int (pv 1)) (nomark _)))))
        (pss_one ps_never)
        pss_nil)
      (pss_cons (ps_for PassesOwn.never rfl (piTup K (pv 2)) (pg_name (i := 3) nd rfl (by first | exact Or.inl rfl | exact Or.inr rfl))
        (pss_one (ps_if (PW.pt (pw_and (pt_cmpR op_notN (pv 3) pe_non (nomark _)) (pw_and1 (pt_not (pt_val (pe_c c_is_whole hr (by decide) (by rfl) (pa_cons (pv 3) (pa_cons pe_int (pa_cons (pe_gc (by rfl) T.g_GREATEST) pa_nil)))))))))
          (pss_one ps_never)
          pss_nil)))
      (pss_cons (ps_fld (pv 0) (pv 1) (by rfl))
      (pss_cons (ps_fld (pv 0) (pv 2) (by rfl))
      (pss_cons (ps_fld (pv 0) (pe_c c_lowest hr (by decide) (by rfl) (pa_cons (pv 2) pa_nil)) (by rfl))
      (pss_one (ps_fld (pv 0) (pe_c c_highest hr (by decide) (by rfl) (pa_cons (pv 2) pa_nil)) (by rfl))))))))), ?_⟩
    refine ⟨_, rfl, (k : Int), 0, 4, rfl, true, bl_t ⟨by omega, by omega⟩, iteF ?_⟩
    refine ⟨_, rfl, _, _, .type "tuple", .type "tuple", true, rfl, .ty "tuple", tyx_seqT hS, kit_ty (by decide +kernel), true, rfl, iteF ?_⟩
    refine ⟨_, rfl, tp, _, rfl, .inr hS, _, rfl, 1, k, rfl, rfl, ⟨by omega, by decide⟩, rfl, false, nbl_t (by rw [List.length_map, hl]; show nV (2 ^ k) = nV (1 * 2 ^ k); rw [Nat.one_mul]), iteF ?_⟩
    refine ⟨_, rfl, tp, rfl, ⟨_, hS⟩, ?_⟩
    refine for_tup (xs := ps.map pV) (fun i σ' H' => ∃ c3 : Option V, σ' = [some (.ref x), some (nV k), some (.ref tp), c3] ∧ H' = H) ⟨none, rfl, rfl⟩ (fun i σ' H' _ ⟨_, _, e⟩ => by rw [e]; exact hS) (fun i y σ' H' hy hp => ?_) (fun σ' H' hp => ?_)
    · obtain ⟨c3, rfl, rfl⟩ := hp
      obtain ⟨p, hp, rfl⟩ := map_get hy
      have hb := hm p (List.mem_of_getElem? hp)
      refine ⟨_, rfl, rfl, _, rfl, ?_⟩
      cases p with
      | none => exact ite2 (fun h => absurd h notn_none) (fun _ => ⟨_, rfl, rfl⟩)
      | some m =>
        have := hb m rfl
        exact ite2 (fun _ => ⟨_, rfl, (m : Int), 0, 10 ^ 50, rfl, true, bl_t ⟨by omega, by omega⟩, iteF ⟨_, rfl, rfl⟩⟩) (fun h => absurd notn_some h)
    · obtain ⟨c3, rfl, rfl⟩ := hp
      refine ⟨_, rfl, _, rfl, x, Z.Table, dx, _, rfl, hx, Z.c_Table.c, Z.n_Table_places, by decide, ?_⟩
      refine ⟨_, rfl, _, rfl, x, Z.Table, dx, _, rfl, upd_same, Z.c_Table.c, Z.n_Table_prices, by show 1 < 1000; decide, ?_⟩
      rw [upd_upd]
      refine ⟨_, rfl, tp, ps, rfl, kp_seqT kp_upd hx hS, _, rfl, x, Z.Table, dx, _, rfl, upd_same, Z.c_Table.c, Z.n_Table_least, by show 2 < 1000; decide, ?_⟩
      rw [upd_upd]
      refine ⟨_, rfl, tp, ps, rfl, kp_seqT kp_upd hx hS, _, rfl, x, Z.Table, dx, _, rfl, upd_same, Z.c_Table.c, Z.n_Table_most, by show 3 < 1000; decide, ?_⟩
      rw [upd_upd]
      exact q
def spTabEq (K : PySem.W.Frag) (C : Addr) : Sp := fun vs H Q _ => ∃ (a b : Addr) (k k' : Nat) (ps ps' : List (Option Nat)), vs = [.ref a, .ref b] ∧ TabAt K C H a k ps ∧ TabAt K C H b k' ps' ∧ ∀ r : Bool, (r = true ↔ k = k' ∧ ps = ps') → Q (.bl r) H
theorem c_Table_eq (Z : Ev K mg) (T : Bl mg) : Met P w K mg base 1 Z.Table "__eq__" (spTabEq K Z.Table) [] := by
  refine metOf Z.c_Table.c Z.m_Table_eq sc_Table_eq (fun _ _ _ _ _ _ us hl => match us, hl with | [_, _], _ => rfl) (fun vs H Q E h => ?_) (fun f cdv A outer s H vs Q E hr h => ?_)
  · obtain ⟨a, b, k, k', ps, ps', rfl, _⟩ := h
    rfl
  · obtain ⟨a, b, k, k', ps, ps', rfl, ⟨dx, tp, ha, hS⟩, ⟨dx', tp', hb, hS'⟩, q⟩ := h
    have hu := hr.units
    refine ⟨_, (pss_one (ps_ret (pe_and (pe_callB (crIsi K) (by rfl) T.b_isinstance (by decide +kernel) (pa_cons (pv 1) (pa_cons (pe_glob (v := .ref Z.Table) (by rfl) Z.k_Table (by rfl)) pa_nil))) (pe_and (pe_cmpR op_eq (peFld K (pv 0)) (peFld K (pv 1)) (nomark _)) (pe_one (pe_cmpR (eqD K hu) (peFld K (pv 0)) (peFld K (pv 1)) (nomark _))))))), ?_⟩
    refine ⟨_, rfl, _, _, _, _, true, rfl, .own Z.Table, Z.c_Table.ty hb, Z.s_Table_Table, true, rfl, iteT ?_⟩
    refine ⟨_, rfl, a, Z.Table, dx, _, _, rfl, ha, Z.c_Table.c, Z.n_Table_places, rfl, _, rfl, b, Z.Table, dx', _, _, rfl, hb, Z.c_Table.c, Z.n_Table_places, rfl, rfl, _, rfl, ite2 (fun h => ?_) (fun h => ?_)⟩
    · have ek : k = k' := by
        have := of_decide_eq_true h
        injection this with e
        omega
      refine ⟨_, rfl, a, Z.Table, dx, _, _, rfl, ha, Z.c_Table.c, Z.n_Table_prices, rfl, _, rfl, b, Z.Table, dx', _, _, rfl, hb, Z.c_Table.c, Z.n_Table_prices, rfl, ?_⟩
      refine eqd_pln (.tup hS (dp_prices ps)) (.tup hS' (dp_prices ps')) (pln_tup fun y hy => ?_) (pln_tup fun y hy => ?_) (Nat.le_trans (depth_tup (n := 0) fun y hy => ?_) (by decide)) (Nat.le_trans (depth_tup (n := 0) fun y hy => ?_) (by decide)) fun r hr => ?_
      · obtain ⟨p, _, rfl⟩ := List.mem_map.mp hy; exact pD_pln p
      · obtain ⟨p, _, rfl⟩ := List.mem_map.mp hy; exact pD_pln p
      · obtain ⟨p, _, rfl⟩ := List.mem_map.mp hy; exact pD_depth p
      · obtain ⟨p, _, rfl⟩ := List.mem_map.mp hy; exact pD_depth p
      · exact q r ⟨fun h => ⟨ek, pDs_inj (PyData.tuple.inj (hr.mp h))⟩, fun h => hr.mpr (by rw [h.2])⟩
    · refine q false ⟨fun h => (by cases h), fun h2 => ?_⟩
      exact absurd (decide_eq_true (by rw [h2.1])) h
def spSwapped (K : PySem.W.Frag) (C : Addr) : Sp := fun vs H Q _ => ∃ (a : Addr) (k : Nat) (ps : List (Option Nat)), vs = [.ref a] ∧ TabAt K C H a k ps ∧ k ≤ 4 ∧ ps.length = 2 ^ k ∧ (∀ p ∈ ps, ∀ m, p = some m → m ≤ 10 ^ 50) ∧ ∀ p H', Same H H' → H p = none → TabAt K C H' p k ps.reverse → Q (.ref p) H'
theorem c_swapped (D : FnAt K mg "swapped" s_swapped) (Z : Ev K mg) (T : Bl mg) (c_Table : Mak P w K mg base 3 "Table" Z.Table (spTab K Z.Table) []) : Cal P w K mg base 5 "swapped" (spSwapped K Z.Table) [] := by
  refine calOf D sc_swapped (fun _ _ _ _ _ _ us hl => match us, hl with | [_], _ => rfl) (fun vs H Q E h => ?_) (fun f cdv A outer s H vs Q E hr h => ?_)
  · obtain ⟨a, k, ps, rfl, _⟩ := h
    rfl
  · obtain ⟨a, k, ps, rfl, ⟨dx, tp, ha, hS⟩, hk, hl, hm, q⟩ := h
    have nd := sc_swapped.nd
    refine ⟨_, (pss_one (ps_ret (pe_mk c_Table hr (by decide) (by rfl) (pa_cons (peFld K (pv 0)) (pa_cons (pe_callTy (crTup K) (by rfl) T.b_tuple (by decide +kernel) (pa_cons (pe_lc (own := [("price", 1)]) (g := gName 1) (tt := tYes) rfl nd (RT.pi_revA (by rfl) T.b_reversed (peFld K (pv 0))) (blkOk_by (N := ["table", "price"]) (sc := defScope s_swapped) (own := [("price", 1)]) (by decide +kernel)) (fun _ _ _ _ _ => (pg_name (i := 1) nd rfl (by first | exact Or.inl rfl | exact Or.inr rfl))) (fun _ _ _ _ _ => pts_nil) (fun _ _ _ _ _ => (pv 1))) pa_nil)) pa_nil))))), ?_⟩
    have h16 : 2 ^ k ≤ 2 ^ 4 := Nat.pow_le_pow_right (by decide) hk
    refine ⟨_, rfl, a, Z.Table, dx, _, _, rfl, ha, Z.c_Table.c, Z.n_Table_places, rfl, ?_⟩
    refine ⟨_, rfl, a, Z.Table, dx, _, _, rfl, ha, Z.c_Table.c, Z.n_Table_prices, rfl, tp, _, rfl, .inr ⟨hS, fun D hD => lc_revT hS (sel := fun _ => true) (P := fun i y _ => y = pV (ps.getD (ps.length - 1 - i) none)) ⟨fun _ _ _ _ _ h => h, fun i H' _ _ R r => r H' (Same.refl H'), fun i H' hi _ _ R r => ?_⟩ hD (lt_line (by rw [List.length_map]; omega)) (fun H1 ys sm hd _ pr => ?_)⟩⟩
    · rw [List.length_map] at hi
      refine ⟨_, rfl, r _ H' (Same.refl H') ?_⟩
      rw [List.length_map, map_getD none (by omega)]
    · rw [filter_yes, List.length_map] at pr
      have ey : ys = ps.reverse.map pV := by
        rw [paired_map_eq pr]
        apply List.ext_getElem
        · rw [List.length_map, List.length_range, List.length_map, List.length_reverse]
        · intro i h1 h2
          rw [List.getElem_map, List.getElem_range, List.getElem_map, List.getElem_reverse, List.getD_eq_getElem?_getD, List.getElem?_eq_getElem]
          rfl
      rw [ey] at hd
      refine ⟨D, _, rfl, .inl ⟨SqL.of hd, fun l hl2 => ?_⟩⟩
      have sm1 := sm.trans (same_new (o := .tup (ps.reverse.map pV)) hl2)
      intro x dx2 hx hdx ne
      have sm2 := sm1.trans (same_new (o := .own x) hdx)
      have hx2 : (upd (upd H1 l (.tup (ps.reverse.map pV))) dx2 (.own x)) x = none := by rw [upd_ne ne.symm]; exact hx
      have sT : SqT K (upd (upd H1 l (.tup (ps.reverse.map pV))) dx2 (.own x)) l (ps.reverse.map pV) := .inl (.inl (same_new hdx _ _ upd_same))
      refine ⟨x, dx2, l, k, ps.reverse, rfl, upd_same, same_seqT (same_new hx2) sT, hk, by rw [List.length_reverse, hl], fun p hp => hm p (List.mem_reverse.mp hp), rfl, ?_⟩
      rw [upd_upd]
      exact q x _ (sm2.trans (same_new hx2)) (sm2.free hx2) ⟨dx2, l, upd_same, same_seqT (same_new hx2) sT⟩
def spTold (K : PySem.W.Frag) (C : Addr) : Sp := fun vs H Q _ => ∃ (a : Addr) (k : Nat) (ps : List (Option Nat)), vs = [.ref a] ∧ TabAt K C H a k ps ∧ 1 ≤ k ∧ (∃ p ∈ ps, p.isSome = true) ∧ (∀ p ∈ ps, ∀ m, p = some m → m ≤ 1000) ∧ Q (.bl true) H
theorem c_is_told (D : FnAt K mg "is_told" s_is_told) (Z : Ev K mg) (T : Bl mg) : Cal P w K mg base 1 "is_told" (spTold K Z.Table) [] := by
  refine calOf D sc_is_told (fun _ _ _ _ _ _ us hl => match us, hl with | [_], _ => rfl) (fun vs H Q E h => ?_) (fun f cdv A outer s H vs Q E hr h => ?_)
  · obtain ⟨a, k, ps, rfl, _⟩ := h
    rfl
  · obtain ⟨a, k, ps, rfl, ⟨dx, tp, ha, hS⟩, hk, he, hm, q⟩ := h
    refine ⟨_, (pss_cons (ps_if (PW.pt (pw_or (pt_not (pt_val (pe_callB (crIsi K) (by rfl) T.b_isinstance (by decide +kernel) (pa_cons (pv 0) (pa_cons (pe_glob (v := .ref Z.Table) (by rfl) Z.k_Table (by rfl)) pa_nil))))) (pw_or (pt_cmpR op_eq (peFld K (pv 0)) pe_int (nomark _)) (pw_or1 (pt_cmpR op_isN (peFld K (pv 0)) pe_non (nomark _))))))
        (pss_one (ps_ret pe_bl))
        pss_nil)
      (pss_one (ps_ret (pe_cmpR op_le (peFld K (pv 0)) (pe_gc (by rfl) T.g_DEAREST) (nomark _))))), ?_⟩
    obtain ⟨lo, elo⟩ := Option.isSome_iff_exists.mp (MK.lowL_some he)
    obtain ⟨hi, ehi⟩ := Option.isSome_iff_exists.mp (MK.hiL_some he)
    have hle := MK.hiL_le hm hi ehi
    refine ⟨_, rfl, _, _, _, _, true, rfl, .own Z.Table, Z.c_Table.ty ha, Z.s_Table_Table, true, rfl, iteF ?_⟩
    refine ⟨_, rfl, a, Z.Table, dx, _, _, rfl, ha, Z.c_Table.c, Z.n_Table_places, rfl, rfl, false, bl_f (fun z => ?_), iteF ?_⟩
    · injection z with e
      omega
    refine ⟨_, rfl, a, Z.Table, dx, _, _, rfl, ha, Z.c_Table.c, Z.n_Table_least, rfl, rfl, _, rfl, ?_⟩
    rw [elo]
    refine ite2 (fun h => absurd h isn_some) (fun _ => ?_)
    refine ⟨_, rfl, a, Z.Table, dx, _, _, rfl, ha, Z.c_Table.c, Z.n_Table_most, rfl, ?_⟩
    rw [ehi]
    refine ⟨hi, 1000, rfl, rfl, ?_⟩
    have e : decide ((hi : Int) ≤ 1000) = true := decide_eq_true (by omega)
    show Q (.bl (decide ((hi : Int) ≤ 1000))) H
    rw [e]
    exact q
theorem met_parts {k : Nat} {C : Addr} {m : Str} {sp : Sp} (c : Met P w K mg base k C m sp []) : ∃ (f : Addr) (fd : FuncData) (ps : List Str), Meth K C m f ∧ FnOk P w K mg base CX0 k f fd ps sp ∧ Binds K fd ps [] := by
  obtain ⟨f, fd, ps, ds, _, me, F, b, d⟩ := c.ex
  cases d
  exact ⟨f, fd, ps, me, F, b⟩
end
/-! ### lots -/
abbrev Tb := Nat × List (Option Nat)
def TbOk (t : Tb) : Prop := 1 ≤ t.1 ∧ t.1 ≤ 4 ∧ t.2.length = 2 ^ t.1 ∧ (∃ p ∈ t.2, p.isSome = true) ∧ ∀ p ∈ t.2, ∀ m, p = some m → m ≤ 1000
def TabR (K : PySem.W.Frag) (C : Addr) (H : Hp) (y : V) (t : Tb) : Prop := ∃ a, y = .ref a ∧ TabAt K C H a t.1 t.2
theorem TabR.grow {K : PySem.W.Frag} {C : Addr} {H H' : Hp} {y : V} {t : Tb} (h : TabR K C H y t) (e : Same H H') : TabR K C H' y t := by
  obtain ⟨a, h1, h2⟩ := h
  exact ⟨a, h1, h2.grow e⟩
theorem paired_at {α β : Type} {F : α → β → Prop} : ∀ {xs : List α} {ys : List β}, Paired F xs ys → xs.length = ys.length ∧ ∀ (i : Nat) x, xs[i]? = some x → ∃ y, ys[i]? = some y ∧ F x y
  | _, _, .nil => ⟨rfl, fun i x h => by cases h⟩
  | _, _, .cons r t => by
    obtain ⟨l, g⟩ := paired_at t
    refine ⟨by rw [List.length_cons, List.length_cons, l], fun i x h => ?_⟩
    cases i with
    | zero => cases h; exact ⟨_, rfl, r⟩
    | succ i => exact g i x h
theorem paired_bl : ∀ {ys : List V} {l : List Nat}, Paired (fun y (_ : Nat) => ∃ b : Bool, y = .bl b) ys l → ∃ bs : List Bool, ys = bs.map V.bl
  | _, _, .nil => ⟨[], rfl⟩
  | _, _, .cons ⟨b, e⟩ t => by
    obtain ⟨bs, h⟩ := paired_bl t
    exact ⟨b :: bs, by rw [List.map_cons, e, h]⟩
def lotF (tt : Addr) (b : Bool) : List (Str × V) := [("tables", .ref tt), ("swaps", .bl b)]
def LtAt (K : PySem.W.Frag) (CT CL : Addr) (H : Hp) (a : Addr) (tbs : List Tb) : Prop := ∃ dx tt b ys, H a = some (.ins CL dx (lotF tt b)) ∧ SqT K H tt ys ∧ Paired (TabR K CT H) ys tbs
theorem LtAt.grow {K : PySem.W.Frag} {CT CL : Addr} {H H' : Hp} {a : Addr} {tbs : List Tb} (h : LtAt K CT CL H a tbs) (e : Same H H') : LtAt K CT CL H' a tbs := by
  obtain ⟨dx, tt, b, ys, h1, h2, h3⟩ := h
  exact ⟨dx, tt, b, ys, e _ _ h1, same_seqT e h2, Paired.mapP h3 fun _ _ q => q.grow e⟩
section
variable {P : Program} {w : World} {K : PySem.W.Frag} {mg : Str → Option Value} {base : Heap}
def spLot (K : PySem.W.Frag) (CT CL : Addr) : Sp := fun vs H Q _ => ∃ (x dx tt : Addr) (ys : List V) (tbs : List Tb), vs = [.ref x, .ref tt] ∧ H x = some (.ins CL dx []) ∧ SqT K H tt ys ∧ Paired (TabR K CT H) ys tbs ∧ 1 ≤ tbs.length ∧ tbs.length ≤ 16 ∧ (∀ t ∈ tbs, TbOk t) ∧
  ∀ (b : Bool) H', Kp x H H' → H' x = some (.ins CL dx (lotF tt b)) → Q .non H'
theorem kp_tab {CT CL x dx : Addr} {fs : List (Str × V)} {H H' : Hp} {a : Addr} {k : Nat} {ps : List (Option Nat)} (k0 : Kp x H H') (hx : H x = some (.ins CL dx fs)) (ne : a ≠ x) (h : TabAt K CT H a k ps) : TabAt K CT H' a k ps := by
  obtain ⟨d, tp, h1, h2⟩ := h
  exact ⟨d, tp, k0 _ _ h1 ne, kp_seqT k0 hx h2⟩
theorem c_Lot (Z : Ev K mg) (T : Bl mg) (c_is_told : Cal P w K mg base 1 "is_told" (spTold K Z.Table) []) (c_swapped : Cal P w K mg base 5 "swapped" (spSwapped K Z.Table) []) (c_Table_eq : Met P w K mg base 1 Z.Table "__eq__" (spTabEq K Z.Table) []) :
    Mak P w K mg base 6 "Lot" Z.Lot (spLot K Z.Table Z.Lot) [] := by
  obtain ⟨f_Table_eq, fd_eq, ps_eq, me_Table_eq, F_Table_eq, b_Table_eq⟩ := met_parts c_Table_eq
  refine makOf Z.k_Lot Z.i_Lot sc_Lot_init (fun _ _ _ _ _ _ us hl => match us, hl with | [_, _], _ => rfl) (fun vs H Q E h => ?_) (fun f cdv A outer s H vs Q E hr h => ?_)
  · obtain ⟨x, dx, tt, ys, tbs, rfl, _⟩ := h
    rfl
  · obtain ⟨x, dx, tt, ys, tbs, rfl, hx, hS, pr, h1, h16, ok, q⟩ := h
    have nd := sc_Lot_init.nd
    have hu := hr.units
    obtain ⟨yl, ya⟩ := paired_at pr
    refine ⟨_, (pss_cons (ps_if (PW.pt (pw_or (pt_not (pt_val (pe_callB (crIsi K) (by rfl) T.b_isinstance (by decide +kernel) (pa_cons (pv 1) (pa_cons (pe_bltn (v := .ty "tuple") (u := .type "tuple") (by rfl) T.b_tuple (by decide +kernel) (by rfl)) pa_nil))))) (pw_or1 (pt_not (pt_chain op_le op_le pe_int (pe_callB (crLen K) (by rfl) T.b_len (by decide +kernel) (pa_cons (pv 1) pa_nil)) (pe_gc (by rfl) T.g_TABLES))))))
        (pss_one ps_never)
        pss_nil)
      (pss_cons (ps_for PassesOwn.never rfl (pi_range1 (by rfl) T.b_range (pa_cons (pe_callB (crLen K) (by rfl) T.b_len (by decide +kernel) (pa_cons (pv 1) pa_nil)) pa_nil)) (pg_name (i := 2) nd rfl (by first | exact Or.inl rfl | exact Or.inr rfl))
        (pss_one (ps_if (pt_not (pt_val (pe_c c_is_told hr (by decide) (by rfl) (pa_cons (pe_ix (ixT K) (pv 1) (pv 2) (fun _ _ => rfl)) pa_nil))))
          (pss_one ps_never)
          pss_nil)))
      (pss_cons (ps_fld (pv 0) (pv 1) (by rfl))
      (pss_one (ps_fld (pv 0) (pe_callB (crAll K) (by rfl) T.b_all (by decide +kernel) (pa_cons (pe_lc (own := [("table", 3)]) (g := gName 3) (tt := tYes) rfl nd (piTup K (pv 1)) (blkOk_by (N := ["self", "tables", "at", "table"]) (sc := defScope s_Lot_init) (own := [("table", 3)]) (by decide +kernel)) (fun _ _ _ _ _ => (pg_name (i := 3) nd rfl (by first | exact Or.inl rfl | exact Or.inr rfl))) (fun _ _ _ _ _ => pts_nil) (fun _ _ _ _ _ => (pe_cmpR (op_eqOwn F_Table_eq me_Table_eq b_Table_eq (hr.mono (by decide)) (units0 hu)) (pe_c c_swapped hr (by decide) (by rfl) (pa_cons (pv 3) pa_nil)) (pv 3) (nomark _)))) pa_nil)) (by rfl)))))), ?_⟩
    refine ⟨_, rfl, _, _, .type "tuple", .type "tuple", true, rfl, .ty "tuple", tyx_seqT hS, kit_ty (by decide +kernel), true, rfl, iteF ?_⟩
    refine ⟨_, rfl, tt, _, rfl, .inr hS, 1, _, rfl, rfl, true, bl_t (by omega), iteT ⟨_, _, rfl, rfl, true, bl_t (by omega), iteF ?_⟩⟩
    refine ⟨_, rfl, tt, _, rfl, .inr hS, _, rfl, by omega, by omega, ?_⟩
    rw [Int.toNat_natCast]
    have tabne : ∀ {a : Addr} {k : Nat} {ps : List (Option Nat)}, TabAt K Z.Table H a k ps → a ≠ x := fun {a k ps} ⟨_, _, h, _⟩ z => by
      rw [z, hx] at h
      injection h with e
      injection e with _ _ e2
      cases e2
    refine for_range (lo := 0) (n := ys.length) (fun i σ' H' => ∃ c2 : Option V, σ' = [some (.ref x), some (.ref tt), c2, none] ∧ H' = H) ⟨none, rfl, rfl⟩ ?_ ?_
    · rintro i σ' H' hi ⟨c2, rfl, rfl⟩
      have hy : ys[i]? = some ys[i] := List.getElem?_eq_getElem hi
      obtain ⟨t, ht, a, ea, hT⟩ := ya i _ hy
      have o := ok t (List.mem_of_getElem? ht)
      refine ⟨_, rfl, _, rfl, tt, ys, (i : Int), ys[i], rfl, by rw [Int.zero_add], hS, atI_nat hy, a, t.1, t.2, by rw [ea]; rfl, hT, o.1, o.2.2.2.1, o.2.2.2.2, true, rfl, iteF ⟨_, rfl, rfl⟩⟩
    · rintro σ' H' ⟨c2, rfl, rfl⟩
      refine ⟨_, rfl, _, rfl, x, Z.Lot, dx, _, rfl, hx, Z.c_Lot.c, Z.n_Lot_tables, by decide, ?_⟩
      have kp1 : Kp x H' (upd H' x (.ins Z.Lot dx (putF "tables" (.ref tt) []))) := kp_upd
      have hS1 := kp_seqT kp1 hx hS
      refine ⟨_, rfl, tt, rfl, ⟨_, hS1⟩, fun D hD => lc_tupT hS1 (sel := fun _ => true) (P := fun i y _ => ∃ b : Bool, y = .bl b) ⟨fun _ _ _ _ _ h => h, fun i H2 _ _ R r => r H2 (Same.refl H2), fun i H2 hi _ sm R r => ?_⟩ hD (lt_line (by omega)) (fun H2 bs sm hd _ pb => ?_)⟩
      · have hy : ys[i]? = some ys[i] := List.getElem?_eq_getElem hi
        obtain ⟨t, ht, a, ea, hT⟩ := ya i _ hy
        have o := ok t (List.mem_of_getElem? ht)
        have eg : ys.getD i .non = .ref a := by rw [List.getD_eq_getElem?_getD, hy]; exact ea
        have hT2 := (kp_tab kp1 hx (tabne hT) hT).grow sm
        refine ⟨_, rfl, a, t.1, t.2, by rw [eg]; rfl, hT2, o.2.1, o.2.2.1, fun p hp m hm => Nat.le_trans (o.2.2.2.2 p hp m hm) (by decide), fun p H3 sm3 _ hT3 => ?_⟩
        have hT4 := hT2.grow sm3
        obtain ⟨d3, t3, e3, s3⟩ := id hT3
        obtain ⟨d4, t4, e4, s4⟩ := id hT4
        exact ⟨_, rfl, p, a, d3, d4, _, _, rfl, eg, e3, e4, p, a, _, _, _, _, rfl, hT3, hT4, fun b _ => ⟨b, rfl, r _ _ sm3 ⟨b, rfl⟩⟩⟩
      · rw [filter_yes] at pb
        obtain ⟨bl, rfl⟩ := paired_bl pb
        refine ⟨D, bl, rfl, SqL.of hd, _, rfl, x, Z.Lot, dx, _, rfl, sm _ _ upd_same, Z.c_Lot.c, Z.n_Lot_swaps, by show 1 < 1000; decide, ?_⟩
        exact q _ _ ((kp1.trans (Kp.of sm)).trans kp_upd) upd_same
end
end L2.KK
namespace L2.KK
open PySem PySem.Spec PyProof.Rows C8
theorem sc_is_use : FnScope ["lot", "many", "use", "at", "names", "times", "name"] ["lot", "many", "use"] (defScope s_is_use) := ⟨rfl, rfl, rfl, by decide +kernel, rfl, by decide +kernel, by decide +kernel⟩
theorem sc_Puzzle_init : FnScope ["self", "lot", "many", "uses", "spot"] ["self", "lot", "many", "uses"] (defScope s_Puzzle_init) := ⟨rfl, rfl, rfl, by decide +kernel, rfl, by decide +kernel, by decide +kernel⟩
theorem sc_TooMany_init : FnScope ["self", "limit"] ["self", "limit"] (defScope s_TooMany_init) := ⟨rfl, rfl, rfl, by decide +kernel, rfl, by decide +kernel, by decide +kernel⟩
/-! ### uses, puzzles -/
structure Us where
  at_ : Nat
  names : List Nat
  times : Nat
def UseR (K : PySem.W.Frag) (H : Hp) (y : V) (u : Us) : Prop := ∃ r nr, y = .ref r ∧ SqT K H r [nV u.at_, .ref nr, nV u.times] ∧ SqT K H nr (nL u.names)
theorem UseR.grow {K : PySem.W.Frag} {H H' : Hp} {y : V} {u : Us} (h : UseR K H y u) (e : Same H H') : UseR K H' y u := by
  obtain ⟨r, nr, h1, h2, h3⟩ := h
  exact ⟨r, nr, h1, same_seqT e h2, same_seqT e h3⟩
theorem UseR.kp {K : PySem.W.Frag} {H H' : Hp} {x C dx : Addr} {fs : List (Str × V)} {y : V} {u : Us} (h : UseR K H y u) (k : Kp x H H') (hx : H x = some (.ins C dx fs)) : UseR K H' y u := by
  obtain ⟨r, nr, h1, h2, h3⟩ := h
  exact ⟨r, nr, h1, kp_seqT k hx h2, kp_seqT k hx h3⟩
def UseOk (tbs : List Tb) (many : Nat) (u : Us) : Prop := ∃ t, tbs[u.at_]? = some t ∧ 1 ≤ u.times ∧ u.times ≤ 1000 ∧ u.names.length = t.1 ∧ ∀ n ∈ u.names, n < many
def pzF (l : Addr) (many : Nat) (tu : Addr) : List (Str × V) := [("lot", .ref l), ("many", nV many), ("uses", .ref tu)]
def PzAt (K : PySem.W.Frag) (CT CL CP : Addr) (H : Hp) (a : Addr) (tbs : List Tb) (many : Nat) (us : List Us) : Prop := ∃ dx l tu ys, H a = some (.ins CP dx (pzF l many tu)) ∧ LtAt K CT CL H l tbs ∧ SqT K H tu ys ∧ Paired (UseR K H) ys us
theorem PzAt.grow {K : PySem.W.Frag} {CT CL CP : Addr} {H H' : Hp} {a : Addr} {tbs : List Tb} {many : Nat} {us : List Us} (h : PzAt K CT CL CP H a tbs many us) (e : Same H H') : PzAt K CT CL CP H' a tbs many us := by
  obtain ⟨dx, l, tu, ys, h1, h2, h3, h4⟩ := h
  exact ⟨dx, l, tu, ys, e _ _ h1, h2.grow e, same_seqT e h3, Paired.mapP h4 fun _ _ q => q.grow e⟩
section
variable {P : Program} {w : World} {K : PySem.W.Frag} {mg : Str → Option Value} {base : Heap}
def spUse (K : PySem.W.Frag) (CT CL : Addr) : Sp := fun vs H Q _ => ∃ (l r : Addr) (many : Nat) (tbs : List Tb) (u : Us), vs = [.ref l, nV many, .ref r] ∧ LtAt K CT CL H l tbs ∧ UseR K H (.ref r) u ∧ UseOk tbs many u ∧ u.names.length ≤ 4 ∧ ∀ H', Same H H' → Q (.bl true) H'
theorem c_is_use (D : FnAt K mg "is_use" s_is_use) (Z : Ev K mg) (T : Bl mg) (c_is_whole : Cal P w K mg base 1 "is_whole" spWhole []) : Cal P w K mg base 2 "is_use" (spUse K Z.Table Z.Lot) [] := by
  refine calOf D sc_is_use (fun _ _ _ _ _ _ us hl => match us, hl with | [_, _, _], _ => rfl) (fun vs H Q E h => ?_) (fun f cdv A outer s H vs Q E hr h => ?_)
  · obtain ⟨l, r, many, tbs, u, rfl, _⟩ := h
    rfl
  · obtain ⟨l, r, many, tbs, u, rfl, ⟨dx, tt, sb, ys, hl, hS, pr⟩, ⟨r', nr, er, hr1, hn⟩, ⟨t, ht, t1, t2, nl, nm⟩, n4, q⟩ := h
    have nd := sc_is_use.nd
    cases er
    obtain ⟨yl, ya⟩ := paired_at pr
    have hlt := (List.getElem?_eq_some_iff.mp ht).1
    have hy : ys[u.at_]? = some (ys[u.at_]'(by omega)) := List.getElem?_eq_getElem (by omega)
    obtain ⟨t', ht', a, ea, dt, tp, hta, htp⟩ := ya _ _ hy
    rw [ht] at ht'
    cases ht'
    refine ⟨_, (pss_cons (ps_if (PW.pt (pw_or (pt_not (pt_val (pe_callB (crIsi K) (by rfl) T.b_isinstance (by decide +kernel) (pa_cons (pv 2) (pa_cons (pe_bltn (v := .ty "tuple") (u := .type "tuple") (by rfl) T.b_tuple (by decide +kernel) (by rfl)) pa_nil))))) (pw_or1 (pt_cmpR op_ne (pe_callB (crLen K) (by rfl) T.b_len (by decide +kernel) (pa_cons (pv 2) pa_nil)) pe_int (nomark _)))))
        (pss_one (ps_ret pe_bl))
        pss_nil)
      (pss_cons (ps_asg (pv 2) (pgTup K rfl (pgs_cons (pg_name (i := 3) nd rfl (by first | exact Or.inl rfl | exact Or.inr rfl)) (pgs_cons (pg_name (i := 4) nd rfl (by first | exact Or.inl rfl | exact Or.inr rfl)) (pgs_cons (pg_name (i := 5) nd rfl (by first | exact Or.inl rfl | exact Or.inr rfl)) pgs_nil)))))
      (pss_cons (ps_if (PW.pt (pw_or (pt_not (pt_val (pe_c c_is_whole hr (by decide) (by rfl) (pa_cons (pv 3) (pa_cons pe_int (pa_cons (pe_op op_subNN (pe_callB (crLen K) (by rfl) T.b_len (by decide +kernel) (pa_cons (peFld K (pv 0)) pa_nil)) pe_int) pa_nil)))))) (pw_or1 (pt_not (pt_val (pe_c c_is_whole hr (by decide) (by rfl) (pa_cons (pv 5) (pa_cons pe_int (pa_cons (pe_gc (by rfl) T.g_TIMES) pa_nil)))))))))
        (pss_one (ps_ret pe_bl))
        pss_nil)
      (pss_cons (ps_if (PW.pt (pw_or (pt_not (pt_val (pe_callB (crIsi K) (by rfl) T.b_isinstance (by decide +kernel) (pa_cons (pv 4) (pa_cons (pe_bltn (v := .ty "tuple") (u := .type "tuple") (by rfl) T.b_tuple (by decide +kernel) (by rfl)) pa_nil))))) (pw_or1 (pt_cmpR op_ne (pe_callB (crLen K) (by rfl) T.b_len (by decide +kernel) (pa_cons (pv 4) pa_nil)) (peFld K (pe_ix (ixT K) (peFld K (pv 0)) (pv 3) (fun _ _ => rfl))) (nomark _)))))
        (pss_one (ps_ret pe_bl))
        pss_nil)
      (pss_one (ps_ret (pe_callB (crAll K) (by rfl) T.b_all (by decide +kernel) (pa_cons (pe_lc (own := [("name", 6)]) (g := gName 6) (tt := tYes) rfl nd (piTup K (pv 4)) (blkOk_by (N := ["lot", "many", "use", "at", "names", "times", "name"]) (sc := defScope s_is_use) (own := [("name", 6)]) (by decide +kernel)) (fun _ _ _ _ _ => (pg_name (i := 6) nd rfl (by first | exact Or.inl rfl | exact Or.inr rfl))) (fun _ _ _ _ _ => pts_nil) (fun _ _ _ _ _ => (pe_c c_is_whole hr (by decide) (by rfl) (pa_cons (pv 6) (pa_cons pe_int (pa_cons (pe_op op_subNN (pv 1) pe_int) pa_nil)))))) pa_nil)))))))), ?_⟩
    refine ⟨_, rfl, _, _, .type "tuple", .type "tuple", true, rfl, .ty "tuple", tyx_seqT hr1, kit_ty (by decide +kernel), true, rfl, iteF ?_⟩
    refine ⟨_, rfl, r, _, rfl, .inr hr1, rfl, false, nbl_t rfl, iteF ?_⟩
    refine ⟨_, rfl, r, _, rfl, hr1, rfl, ?_⟩
    refine ⟨_, _, rfl, _, _, rfl, _, _, rfl, rfl, ?_⟩
    refine ⟨_, rfl, _, rfl, l, Z.Lot, dx, _, _, rfl, hl, Z.c_Lot.c, Z.n_Lot_tables, rfl, tt, ys, rfl, .inr hS, ys.length, 1, rfl, rfl, by omega, (u.at_ : Int), 0, _, rfl, true, bl_t ⟨by omega, by omega⟩, iteF ?_⟩
    refine ⟨_, rfl, (u.times : Int), 1, 10 ^ 40, rfl, true, bl_t ⟨by omega, by omega⟩, iteF ?_⟩
    refine ⟨_, rfl, _, _, .type "tuple", .type "tuple", true, rfl, .ty "tuple", tyx_seqT hn, kit_ty (by decide +kernel), true, rfl, iteF ?_⟩
    refine ⟨_, rfl, nr, _, rfl, .inr hn, _, rfl, l, Z.Lot, dx, _, _, rfl, hl, Z.c_Lot.c, Z.n_Lot_tables, rfl, _, rfl, tt, ys, u.at_, _, rfl, rfl, hS, atI_nat hy, a, Z.Table, dt, _, _, ea, hta, Z.c_Table.c, Z.n_Table_places, rfl, rfl, false, nbl_t (by rw [List.length_map, nl]), iteF ?_⟩
    refine ⟨_, rfl, nr, rfl, ⟨_, hn⟩, fun D hD => lc_tupT hn (sel := fun _ => true) (P := fun i y _ => y = .bl true) ⟨fun _ _ _ _ _ h => h, fun i H2 _ _ R r => r H2 (Same.refl H2), fun i H2 hi _ sm R r => ?_⟩ hD (lt_line (by rw [List.length_map]; omega)) (fun H2 bs sm hd _ pb => ?_)⟩
    · have eg := nL_getD hi
      rw [List.length_map] at hi
      have hlt2 : u.names.getD i 0 < many := by
        rw [List.getD_eq_getElem?_getD, List.getElem?_eq_getElem hi]
        exact nm _ (List.getElem_mem hi)
      refine ⟨_, rfl, _, rfl, many, 1, rfl, rfl, by omega, (u.names.getD i 0 : Int), 0, ((many - 1 : Nat) : Int), by rw [eg]; rfl, r _ H2 (Same.refl H2) (bl_t ⟨by omega, by omega⟩)⟩
    · rw [filter_yes, List.length_map] at pb
      have ey : bs = ((List.range u.names.length).map fun _ => true).map V.bl := by rw [paired_map_eq pb, List.map_map]; rfl
      rw [ey] at hd
      refine ⟨D, _, rfl, SqL.of hd, ?_⟩
      have e : ((List.range u.names.length).map fun _ => true).all id = true := by
        rw [List.all_eq_true]
        intro x hx
        obtain ⟨_, _, rfl⟩ := List.mem_map.mp hx
        rfl
      rw [e]
      exact q H2 sm
def spPz (K : PySem.W.Frag) (CT CL CP : Addr) : Sp := fun vs H Q _ => ∃ (x dx l tu : Addr) (many : Nat) (tbs : List Tb) (ys : List V) (us : List Us), vs = [.ref x, .ref l, nV many, .ref tu] ∧ H x = some (.ins CP dx []) ∧ LtAt K CT CL H l tbs ∧ SqT K H tu ys ∧ Paired (UseR K H) ys us ∧
  many ≤ 400 ∧ us.length ≤ 1000 ∧ (∀ u ∈ us, UseOk tbs many u ∧ u.names.length ≤ 4) ∧ ∀ H', Kp x H H' → H' x = some (.ins CP dx (pzF l many tu)) → Q .non H'
theorem c_Puzzle (Z : Ev K mg) (T : Bl mg) (c_is_whole : Cal P w K mg base 1 "is_whole" spWhole []) (c_is_use : Cal P w K mg base 2 "is_use" (spUse K Z.Table Z.Lot) []) : Mak P w K mg base 3 "Puzzle" Z.Puzzle (spPz K Z.Table Z.Lot Z.Puzzle) [] := by
  refine makOf Z.k_Puzzle Z.i_Puzzle sc_Puzzle_init (fun _ _ _ _ _ _ us hl => match us, hl with | [_, _, _, _], _ => rfl) (fun vs H Q E h => ?_) (fun f cdv A outer s H vs Q E hr h => ?_)
  · obtain ⟨x, dx, l, tu, many, tbs, ys, us, rfl, _⟩ := h
    rfl
  · obtain ⟨x, dx, l, tu, many, tbs, ys, us, rfl, hx, hL, hS, pr, hm, hu, ok, q⟩ := h
    have nd := sc_Puzzle_init.nd
    obtain ⟨yl, ya⟩ := paired_at pr
    refine ⟨_, (pss_cons (ps_if (pt_not (pt_val (pe_callB (crIsi K) (by rfl) T.b_isinstance (by decide +kernel) (pa_cons (pv 1) (pa_cons (pe_glob (v := .ref Z.Lot) (by rfl) Z.k_Lot (by rfl)) pa_nil)))))
        (pss_one ps_never)
        pss_nil)
      (pss_cons (ps_if (pt_not (pt_val (pe_c c_is_whole hr (by decide) (by rfl) (pa_cons (pv 2) (pa_cons pe_int (pa_cons (pe_gc (by rfl) T.g_NAMES) pa_nil))))))
        (pss_one ps_never)
        pss_nil)
      (pss_cons (ps_if (PW.pt (pw_or (pt_not (pt_val (pe_callB (crIsi K) (by rfl) T.b_isinstance (by decide +kernel) (pa_cons (pv 3) (pa_cons (pe_bltn (v := .ty "tuple") (u := .type "tuple") (by rfl) T.b_tuple (by decide +kernel) (by rfl)) pa_nil))))) (pw_or1 (pt_cmpR op_gt (pe_callB (crLen K) (by rfl) T.b_len (by decide +kernel) (pa_cons (pv 3) pa_nil)) (pe_gc (by rfl) T.g_USES) (nomark _)))))
        (pss_one ps_never)
        pss_nil)
      (pss_cons (ps_for PassesOwn.never rfl (pi_range1 (by rfl) T.b_range (pa_cons (pe_callB (crLen K) (by rfl) T.b_len (by decide +kernel) (pa_cons (pv 3) pa_nil)) pa_nil)) (pg_name (i := 4) nd rfl (by first | exact Or.inl rfl | exact Or.inr rfl))
        (pss_one (ps_if (pt_not (pt_val (pe_c c_is_use hr (by decide) (by rfl) (pa_cons (pv 1) (pa_cons (pv 2) (pa_cons (pe_ix (ixT K) (pv 3) (pv 4) (fun _ _ => rfl)) pa_nil))))))
          (pss_one ps_never)
          pss_nil)))
      (pss_cons (ps_fld (pv 0) (pv 1) (by rfl))
      (pss_cons (ps_fld (pv 0) (pv 2) (by rfl))
      (pss_one (ps_fld (pv 0) (pv 3) (by rfl))))))))), ?_⟩
    have hL0 := hL
    obtain ⟨dl, tt, sb, zs, hl, _, _⟩ := hL0
    refine ⟨_, rfl, _, _, _, _, true, rfl, .own Z.Lot, Z.c_Lot.ty hl, Z.s_Lot_Lot, true, rfl, iteF ?_⟩
    refine ⟨_, rfl, (many : Int), 0, 400, rfl, true, bl_t ⟨by omega, by omega⟩, iteF ?_⟩
    refine ⟨_, rfl, _, _, .type "tuple", .type "tuple", true, rfl, .ty "tuple", tyx_seqT hS, kit_ty (by decide +kernel), true, rfl, iteF ?_⟩
    refine ⟨_, rfl, tu, ys, rfl, .inr hS, _, _, rfl, rfl, false, bl_f (by omega), iteF ?_⟩
    refine ⟨_, rfl, tu, ys, rfl, .inr hS, _, rfl, by omega, by omega, ?_⟩
    rw [Int.toNat_natCast]
    refine for_range (lo := 0) (n := ys.length) (fun i σ' H' => ∃ c4 : Option V, σ' = [some (.ref x), some (.ref l), some (nV many), some (.ref tu), c4] ∧ Same H H') ⟨none, rfl, Same.refl H⟩ ?_ ?_
    · rintro i σ' H' hi ⟨c2, rfl, sm⟩
      have hy : ys[i]? = some ys[i] := List.getElem?_eq_getElem hi
      obtain ⟨u, hu2, hR⟩ := ya i _ hy
      have o := ok u (List.mem_of_getElem? hu2)
      have hR0 := hR.grow sm
      obtain ⟨r, nr, er, _, _⟩ := id hR
      refine ⟨_, rfl, _, rfl, _, rfl, _, rfl, tu, ys, (i : Int), ys[i], rfl, by rw [Int.zero_add], same_seqT sm hS, atI_nat hy, l, r, many, tbs, u, by rw [er]; rfl, hL.grow sm, by rw [← er]; exact hR0, o.1, o.2, fun H2 sm2 => ⟨true, rfl, iteF ⟨_, rfl, sm.trans sm2⟩⟩⟩
    · rintro σ' H' ⟨c2, rfl, sm⟩
      have hx' := sm _ _ hx
      refine ⟨_, rfl, _, rfl, x, Z.Puzzle, dx, _, rfl, hx', Z.c_Puzzle.c, Z.n_Puzzle_lot, by decide, ?_⟩
      refine ⟨_, rfl, _, rfl, x, Z.Puzzle, dx, _, rfl, upd_same, Z.c_Puzzle.c, Z.n_Puzzle_many, by show 1 < 1000; decide, ?_⟩
      rw [upd_upd]
      refine ⟨_, rfl, _, rfl, x, Z.Puzzle, dx, _, rfl, upd_same, Z.c_Puzzle.c, Z.n_Puzzle_uses, by show 2 < 1000; decide, ?_⟩
      rw [upd_upd]
      exact q _ ((Kp.of sm).trans kp_upd) upd_same
theorem x_TooMany (Z : Ev K mg) (T : Bl mg) : MakX P w K mg base 1 "TooMany" Z.TooMany (spX1 K Z.TooMany "limit") := by
  refine makXOf Z.k_TooMany Z.o_TooMany Z.d_TooMany sc_TooMany_init (fun _ _ _ _ _ _ us hl => match us, hl with | [_, _], _ => rfl) (fun vs H Q E h => ?_) (fun f cdv A outer s H vs Q E hr h => ?_)
  · obtain ⟨a, v, rfl, _⟩ := h
    rfl
  · obtain ⟨a, v, rfl, ha, q⟩ := h
    refine ⟨_, (pss_cons (ps_expr (pe_pinit Z.b_PricedError Z.k_PricedError (by rfl) (pa_cons (pv 0) (pa_cons pe_str pa_nil))))
      (pss_one (ps_ost (pv 0) (pv 1)))), ?_⟩
    exact ⟨_, rfl, a, Z.TooMany, _, rfl, by decide, Z.o_TooMany.oex, ha, _, rfl, _, rfl, a, Z.TooMany, rfl, Z.o_TooMany.oex, Z.n_TooMany_limit, .inl ⟨ha, fun dx hd ne => q dx hd ne⟩⟩
end
end L2.KK
namespace L2.KK
open PySem PySem.Spec PyProof.Rows C8
theorem sc_merged : FnScope ["puzzle", "spot", "at", "names", "times", "table", "ones", "where", "name", "prices", "row"] ["puzzle", "spot"] (defScope s_merged) := ⟨rfl, rfl, rfl, by decide +kernel, rfl, by decide +kernel, by decide +kernel⟩
/-! ### merged uses, open masks -/
def usTab (tbs : List Tb) (u : Us) : Tb := tbs.getD u.at_ (0, [])
def mgPr (tbs : List Tb) (u : Us) : List (Option Nat) := (List.range (2 ^ (MK.firstsL u.names).length)).map fun m => (((usTab tbs u).2.getD (MK.chosen (MK.whereL (MK.firstsL u.names) u.names) (MK.rowL m (MK.firstsL u.names).length)) none)).map (· * u.times)
/-- the use's price at the n-th filling -/
def usPr (tbs : List Tb) (many : Nat) (u : Us) (n : Nat) : Option Nat := ((usTab tbs u).2.getD (MK.chosen u.names (MK.rowL n many)) none).map (· * u.times)
def openM (tbs : List Tb) (many : Nat) (u : Us) : Nat := MK.maskF (usPr tbs many u) (2 ^ many)
theorem mg_spread {tbs : List Tb} {many : Nat} {u : Us} (h : ∀ x ∈ u.names, x < many) (n : Nat) : (mgPr tbs u).getD (MK.spr (MK.firstsL u.names) many n) none = usPr tbs many u n := by
  have lt := MK.spr_lt (MK.firstsL u.names) many n
  unfold mgPr usPr
  rw [List.getD_eq_getElem?_getD, List.getElem?_map, List.getElem?_range lt]
  show Option.map _ _ = _
  rw [MK.merged_number h]
/-- a merged use stands at y -/
def MgR (tbs : List Tb) (H : Hp) (y : V) (u : Us) : Prop := ∃ p o q, y = .ref p ∧ H p = some (.tup [.ref o, .ref q]) ∧ BareT H o (nL (MK.firstsL u.names)) ∧ H q = some (.tup ((mgPr tbs u).map pV))
section
variable {P : Program} {w : World} {K : PySem.W.Frag} {mg : Str → Option Value} {base : Heap}
theorem flat_nL (xs : List Nat) : (nL xs).all flatV = true := by
  rw [List.all_map]
  exact List.all_eq_true.mpr fun _ _ => rfl
theorem eqV_nL {a b : Nat} : eqV (nV a) (nV b) = decide (a = b) := by
  have e : eqV (nV a) (nV b) = ((a : Int) == (b : Int)) := rfl
  rw [e, Bool.eq_iff_iff, beq_iff_eq, decide_eq_true_iff]
  omega
def UsesOk (tbs : List Tb) (many : Nat) (us : List Us) : Prop := (∀ t ∈ tbs, TbOk t) ∧ ∀ u ∈ us, UseOk tbs many u
def spMerged (K : PySem.W.Frag) (CT CL CP : Addr) : Sp := fun vs H Q _ => ∃ (a : Addr) (i : Nat) (tbs : List Tb) (many : Nat) (us : List Us) (u : Us), vs = [.ref a, nV i] ∧ PzAt K CT CL CP H a tbs many us ∧ us[i]? = some u ∧ UsesOk tbs many us ∧
  ∀ y H', Same H H' → MgR tbs H' y u → Q y H'
theorem c_merged (D : FnAt K mg "merged" s_merged) (Z : Ev K mg) (T : Bl mg) (c_firsts : Cal P w K mg base 1 "firsts" (spFirsts K) []) (c_rows_of : Cal P w K mg base 2 "rows_of" spRows []) (c_times_price : Cal P w K mg base 1 "times_price" spTimes []) (c_chosen_number : Cal P w K mg base 1 "chosen_number" (spChosen K) []) :
    Cal P w K mg base 3 "merged" (spMerged K Z.Table Z.Lot Z.Puzzle) [] := by
  refine calOf D sc_merged (fun _ _ _ _ _ _ us hl => match us, hl with | [_, _], _ => rfl) (fun vs H Q E h => ?_) (fun f cdv A outer s H vs Q E hr h => ?_)
  · obtain ⟨a, i, tbs, many, us, u, rfl, _⟩ := h
    rfl
  · obtain ⟨a, i, tbs, many, us, u, rfl, ⟨dx, l, tu, ys, ha, ⟨dl, tt, sb, zs, hl, hT, pT⟩, hU, pU⟩, hu0, ⟨okT, okU⟩, q⟩ := h
    have nd := sc_merged.nd
    obtain ⟨yl, ya⟩ := paired_at pU
    obtain ⟨zl, za⟩ := paired_at pT
    have hi := (List.getElem?_eq_some_iff.mp hu0).1
    have hy : ys[i]? = some (ys[i]'(by omega)) := List.getElem?_eq_getElem (by omega)
    obtain ⟨u', hu', r, nr, er, hr1, hn⟩ := ya i _ hy
    rw [hu0] at hu'
    cases hu'
    obtain ⟨t, ht, t1, t2, nl, nm⟩ := okU u (List.mem_of_getElem? hu0)
    have ot := okT t (List.mem_of_getElem? ht)
    have hlt := (List.getElem?_eq_some_iff.mp ht).1
    have hz : zs[u.at_]? = some (zs[u.at_]'(by omega)) := List.getElem?_eq_getElem (by omega)
    obtain ⟨t', ht', b, eb, dt, tp, hb, htp⟩ := za _ _ hz
    rw [ht] at ht'
    cases ht'
    have eT : usTab tbs u = t := by
      unfold usTab
      rw [List.getD_eq_getElem?_getD, ht]
      rfl
    have n4 : u.names.length ≤ 4 := by rw [nl]; exact ot.2.1
    have o4 := MK.firstsL_len u.names
    refine ⟨_, (pss_cons (ps_asg (pe_ix (ixT K) (peFld K (pv 0)) (pv 1) (fun _ _ => rfl)) (pgTup K rfl (pgs_cons (pg_name (i := 2) nd rfl (by first | exact Or.inl rfl | exact Or.inr rfl)) (pgs_cons (pg_name (i := 3) nd rfl (by first | exact Or.inl rfl | exact Or.inr rfl)) (pgs_cons (pg_name (i := 4) nd rfl (by first | exact Or.inl rfl | exact Or.inr rfl)) pgs_nil)))))
      (pss_cons (ps_set (i := 5) nd rfl (by first | exact Or.inl rfl | exact Or.inr rfl) (pe_ix (ixT K) (peFld K (peFld K (pv 0))) (pv 2) (fun _ _ => rfl)))
      (pss_cons (ps_set (i := 6) nd rfl (by first | exact Or.inl rfl | exact Or.inr rfl) (pe_c c_firsts hr (by decide) (by rfl) (pa_cons (pv 3) pa_nil)))
      (pss_cons (ps_set (i := 7) nd rfl (by first | exact Or.inl rfl | exact Or.inr rfl) (pe_lc (own := [("name", 8)]) (g := gName 8) (tt := tYes) rfl nd (piTup K (pv 3)) (blkOk_by (N := ["puzzle", "spot", "at", "names", "times", "table", "ones", "where", "name", "prices", "row"]) (sc := defScope s_merged) (own := [("name", 8)]) (by decide +kernel)) (fun _ _ _ _ _ => (pg_name (i := 8) nd rfl (by first | exact Or.inl rfl | exact Or.inr rfl))) (fun _ _ _ _ _ => pts_nil) (fun _ _ _ _ _ => (pe_tidx (mtTupIdx K) (pv 6) (pa_cons (pv 8) pa_nil)))))
      (pss_cons (ps_setLc (i := 9) (own := [("row", 10)]) (g := gName 10) (tt := tYes) rfl nd rfl rfl (sw_true rfl rfl rfl (by decide +kernel)) (piList K (pe_c c_rows_of hr (by decide) (by rfl) (pa_cons (pe_callB (crLen K) (by rfl) T.b_len (by decide +kernel) (pa_cons (pv 6) pa_nil)) pa_nil))) (blkOk_by (N := ["puzzle", "spot", "at", "names", "times", "table", "ones", "where", "name", "prices", "row"]) (sc := defScope s_merged) (own := [("row", 10)]) (by decide +kernel)) (fun _ _ _ _ _ => (pg_name (i := 10) nd rfl (by first | exact Or.inl rfl | exact Or.inr rfl))) (fun _ _ _ _ _ => pts_nil) (fun _ _ _ _ _ => (pe_c c_times_price hr (by decide) (by rfl) (pa_cons (pe_ix (ixT K) (peFld K (pv 5)) (pe_c c_chosen_number hr (by decide) (by rfl) (pa_cons (pv 7) (pa_cons (pv 10) pa_nil))) (fun _ _ => rfl)) (pa_cons (pv 4) pa_nil)))))
      (pss_one (ps_ret (pe_tup (pa_cons (pv 6) (pa_cons (pe_callTy (crTup K) (by rfl) T.b_tuple (by decide +kernel) (pa_cons (pv 9) pa_nil)) pa_nil)))))))))), ?_⟩
    -- at, names, times
    refine ⟨_, rfl, a, Z.Puzzle, dx, _, _, rfl, ha, Z.c_Puzzle.c, Z.n_Puzzle_uses, rfl, _, rfl, tu, ys, (i : Int), _, rfl, rfl, hU, atI_nat hy, r, _, er, hr1, rfl, _, _, rfl, _, _, rfl, _, _, rfl, rfl, ?_⟩
    -- table
    refine ⟨_, rfl, a, Z.Puzzle, dx, _, _, rfl, ha, Z.c_Puzzle.c, Z.n_Puzzle_lot, rfl, l, Z.Lot, dl, _, _, rfl, hl, Z.c_Lot.c, Z.n_Lot_tables, rfl, _, rfl, tt, zs, (u.at_ : Int), _, rfl, rfl, hT, atI_nat hz, ?_⟩
    -- ones
    refine ⟨_, rfl, nr, u.names, rfl, hn, by omega, fun o H1 sm1 ho0 ho => ?_⟩
    have hn1 := same_seqT sm1 hn
    -- where
    refine ⟨_, rfl, nr, rfl, ⟨_, hn1⟩, fun W hW => lc_tupT hn1 (sel := fun _ => true) (P := fun j y _ => y = nV ((MK.firstsL u.names).idxOf (u.names.getD j 0))) ⟨fun _ _ _ _ _ h => h, fun j H2 _ _ R r => r H2 (Same.refl H2), fun j H2 hj _ sm R r => ?_⟩ hW (lt_line (by rw [List.length_map]; omega)) (fun H2 ws sm2 hw _ pw => ?_)⟩
    · have eg := nL_getD hj
      rw [List.length_map] at hj
      have hm : u.names.getD j 0 ∈ MK.firstsL u.names := by
        rw [MK.mem_firstsL, List.getD_eq_getElem?_getD, List.getElem?_eq_getElem hj]
        exact List.getElem_mem hj
      obtain ⟨g1, g2, g3⟩ := MK.idx_of hm
      have ho2 := ho.grow sm
      refine ⟨_, rfl, ⟨o, _, rfl, ho2⟩, _, rfl, o, nL (MK.firstsL u.names), nV (u.names.getD j 0), (MK.firstsL u.names).idxOf (u.names.getD j 0), nV (u.names.getD j 0), rfl, congrArg (fun x : V => [x]) eg, ho2.seq, rfl, flat_nL _, ?_, ?_, fun m z' hm' hz' => ?_, r _ H2 (Same.refl H2) rfl⟩
      · rw [List.getElem?_map, g2]
        rfl
      · rw [eqV_nL]
        exact decide_eq_true rfl
      · obtain ⟨x, hx, rfl⟩ := map_get hz'
        rw [eqV_nL]
        exact decide_eq_false fun e => g3 m hm' (by rw [hx, e])
    · rw [filter_yes, List.length_map] at pw
      have ew : ws = nL (MK.whereL (MK.firstsL u.names) u.names) := by
        rw [paired_map_eq pw]
        have q := congrArg (List.map fun x => nV ((MK.firstsL u.names).idxOf x)) (map_range_get u.names 0)
        rw [List.map_map] at q
        unfold MK.whereL
        show _ = (u.names.map _).map nV
        rw [List.map_map]
        exact q
      rw [ew] at hw
      have sm12 := sm1.trans sm2
      have ho2 := ho.grow sm2
      have wlt : ∀ x ∈ MK.whereL (MK.firstsL u.names) u.names, x < (MK.firstsL u.names).length := fun x hx => by
        obtain ⟨n, hn, rfl⟩ := List.mem_map.mp hx
        exact (MK.idx_of (MK.mem_firstsL.mpr hn)).1
      have p16 : 2 ^ (MK.firstsL u.names).length ≤ 2 ^ 4 := Nat.pow_le_pow_right (by decide) (by omega)
      -- prices
      refine ⟨_, rfl, o, _, rfl, .inr ho2.seq, (MK.firstsL u.names).length, by rw [List.length_map]; rfl, by omega, fun rw0 H3 rs sm3 hrw0 hrw prw => ?_⟩
      obtain ⟨rl, ra⟩ := paired_at prw
      rw [List.length_range] at rl
      have sm13 := sm12.trans sm3
      refine ⟨rw0, rfl, ⟨_, SqL.of hrw⟩, fun Pq hPq => lc_listT (SqL.of hrw) (sel := fun _ => true) (P := fun m y _ => y = pV ((mgPr tbs u).getD m none)) ⟨fun _ _ _ _ _ h => h, fun j H4 _ _ R r => r H4 (Same.refl H4), fun m H4 hm _ sm R r => ?_⟩ hPq (lt_line (by omega)) (fun H4 ps sm4 hp _ pp => ?_)⟩
      · have hrm : rs[m]? = some rs[m] := List.getElem?_eq_getElem hm
        obtain ⟨m', hm', tr, etr, htr⟩ := ra m _ hrm
        rw [List.getElem?_range (by omega)] at hm'
        cases hm'
        have eg : rs.getD m .non = .ref tr := by rw [List.getD_eq_getElem?_getD, hrm]; exact etr
        have cl := MK.chosen_lt (names := MK.whereL (MK.firstsL u.names) u.names) (MK.rowL_le m (MK.firstsL u.names).length)
        have wl : (MK.whereL (MK.firstsL u.names) u.names).length = t.1 := by unfold MK.whereL; rw [List.length_map]; exact nl
        rw [wl, ← ot.2.2.1] at cl
        have hb4 := (sm13.trans sm) _ _ hb
        have htp4 := same_seqT (sm13.trans sm) htp
        refine ⟨_, rfl, b, Z.Table, dt, _, _, eb, hb4, Z.c_Table.c, Z.n_Table_prices, rfl, _, rfl, _, rfl, W, tr, _, _, by rw [eg]; rfl, SqL.of ((sm3.trans sm) _ _ hw), .inl (.inl (sm _ _ htr)), fun x hx => by rw [MK.rowL_len]; exact wlt x hx, tp, _, _, pV (t.2.getD (MK.chosen (MK.whereL (MK.firstsL u.names) u.names) (MK.rowL m (MK.firstsL u.names).length)) none), rfl, rfl, htp4, atI_nat ?_, _, rfl, _, u.times, rfl, fun v hv => ?_, r _ H4 (Same.refl H4) ?_⟩
        · rw [List.getElem?_map, List.getD_eq_getElem?_getD, List.getElem?_eq_getElem cl]
          rfl
        · rw [List.getD_eq_getElem?_getD, List.getElem?_eq_getElem cl] at hv
          have := ot.2.2.2.2 _ (List.getElem_mem cl) v hv
          omega
        · have em : (mgPr tbs u).getD m none = ((usTab tbs u).2.getD (MK.chosen (MK.whereL (MK.firstsL u.names) u.names) (MK.rowL m (MK.firstsL u.names).length)) none).map (· * u.times) := by
            unfold mgPr
            rw [List.getD_eq_getElem?_getD, List.getElem?_map, List.getElem?_range (by omega)]
            rfl
          rw [em, eT]
      · rw [filter_yes, rl] at pp
        have ep : ps = (mgPr tbs u).map pV := by
          have ml : (mgPr tbs u).length = 2 ^ (MK.firstsL u.names).length := by unfold mgPr; rw [List.length_map, List.length_range]
          rw [paired_map_eq pp, ← ml]
          have q := congrArg (List.map pV) (map_range_get (mgPr tbs u) none)
          rw [List.map_map] at q
          exact q
        rw [ep] at hp
        refine ⟨_, rfl, _, rfl, Pq, _, rfl, .inl ⟨SqL.of hp, fun q0 hq0 => ?_⟩⟩
        have sm5 := same_new (o := .tup ((mgPr tbs u).map pV)) hq0
        refine ⟨by show 2 ≤ sizeLine; decide, fun y hy0 => ?_⟩
        have sm6 := same_new (o := .tup [.ref o, .ref q0]) hy0
        refine q _ _ (((sm13.trans sm4).trans sm5).trans sm6) ⟨y, o, q0, rfl, upd_same, ?_, ?_⟩
        · exact (((ho2.grow sm3).grow sm4).grow sm5).grow sm6
        · exact sm6 _ _ upd_same
end
end L2.KK
namespace L2.KK
open PySem PySem.Spec PyProof.Rows C8
theorem sc_all_merged : FnScope ["puzzle", "spot"] ["puzzle"] (defScope s_all_merged) := ⟨rfl, rfl, rfl, by decide +kernel, rfl, by decide +kernel, by decide +kernel⟩
theorem sc_spread : FnScope ["names", "prices", "many", "shifts", "name", "found", "number", "row", "shift"] ["names", "prices", "many"] (defScope s_spread) := ⟨rfl, rfl, rfl, by decide +kernel, rfl, by decide +kernel, by decide +kernel⟩
theorem iL_sum : ∀ l : List Nat, (iL l).sum = (l.sum : Int)
  | [] => rfl
  | a :: l => by
    show (((a : Nat) : Int) :: iL l).sum = _
    rw [List.sum_cons, iL_sum l, List.sum_cons, Int.natCast_add]
theorem MgR.step {tbs : List Tb} {H H' : Hp} {y : V} {u : Us} (h : MgR tbs H y u) (e : SameT H H') : MgR tbs H' y u := by
  obtain ⟨p, o, q, h1, h2, ⟨ob, h3, h3'⟩, h4⟩ := h
  exact ⟨p, o, q, h1, e _ _ h2 trivial, ⟨ob, e _ _ h3 trivial, h3'⟩, e _ _ h4 trivial⟩
section
variable {P : Program} {w : World} {K : PySem.W.Frag} {mg : Str → Option Value} {base : Heap}
def spAllM (K : PySem.W.Frag) (CT CL CP : Addr) : Sp := fun vs H Q _ => ∃ (a : Addr) (tbs : List Tb) (many : Nat) (us : List Us), vs = [.ref a] ∧ PzAt K CT CL CP H a tbs many us ∧ UsesOk tbs many us ∧ us.length ≤ 1000 ∧
  ∀ p H' ys, Same H H' → H p = none → H' p = some (.lst ys) → Paired (MgR tbs H') ys us → Q (.ref p) H'
theorem paired_of_range {α : Type} {F : V → α → Prop} : ∀ {us : List α} {ys : List V} (k : Nat), Paired (fun y i => ∃ u, (us)[i - k]? = some u ∧ F y u) ys (List.range' k us.length) → Paired F ys us
  | [], ys, k, h => by cases h; exact .nil
  | u :: us, ys, k, h => by
    rw [List.length_cons, List.range'_succ] at h
    cases h with
    | cons r t =>
      obtain ⟨v, hv, hF⟩ := r
      rw [Nat.sub_self] at hv
      cases hv
      refine .cons hF (paired_of_range (k + 1) ?_)
      have : ∀ {ys : List V} {l : List Nat}, (∀ i ∈ l, k + 1 ≤ i) → Paired (fun y i => ∃ w, (u :: us)[i - k]? = some w ∧ F y w) ys l → Paired (fun y i => ∃ w, us[i - (k + 1)]? = some w ∧ F y w) ys l := by
        intro ys l hl p
        induction p with
        | nil => exact .nil
        | @cons x i xs is r t ih =>
          obtain ⟨w, hw, hF⟩ := r
          have hi := hl i List.mem_cons_self
          rw [show i - k = (i - (k + 1)) + 1 by omega, List.getElem?_cons_succ] at hw
          exact .cons ⟨w, hw, hF⟩ (ih fun j hj => hl j (List.mem_cons_of_mem _ hj))
      exact this (fun i hi => (List.mem_range'_1.mp hi).1) t
theorem c_all_merged (D : FnAt K mg "all_merged" s_all_merged) (Z : Ev K mg) (T : Bl mg) (c_merged : Cal P w K mg base 3 "merged" (spMerged K Z.Table Z.Lot Z.Puzzle) []) : Cal P w K mg base 4 "all_merged" (spAllM K Z.Table Z.Lot Z.Puzzle) [] := by
  refine calOf D sc_all_merged (fun _ _ _ _ _ _ us hl => match us, hl with | [_], _ => rfl) (fun vs H Q E h => ?_) (fun f cdv A outer s H vs Q E hr h => ?_)
  · obtain ⟨a, tbs, many, us, rfl, _⟩ := h
    rfl
  · obtain ⟨a, tbs, many, us, rfl, hP, ok, hl, q⟩ := h
    have nd := sc_all_merged.nd
    have hP0 := hP
    obtain ⟨dx, l, tu, ys, ha, _, hU, pU⟩ := hP0
    obtain ⟨yl, _⟩ := paired_at pU
    refine ⟨_, (pss_one (ps_ret (pe_lc (own := [("spot", 1)]) (g := gName 1) (tt := tYes) rfl nd (pi_range1 (by rfl) T.b_range (pa_cons (pe_callB (crLen K) (by rfl) T.b_len (by decide +kernel) (pa_cons (peFld K (pv 0)) pa_nil)) pa_nil)) (blkOk_by (N := ["puzzle", "spot"]) (sc := defScope s_all_merged) (own := [("spot", 1)]) (by decide +kernel)) (fun _ _ _ _ _ => (pg_name (i := 1) nd rfl (by first | exact Or.inl rfl | exact Or.inr rfl))) (fun _ _ _ _ _ => pts_nil) (fun _ _ _ _ _ => (pe_c c_merged hr (by decide) (by rfl) (pa_cons (pv 0) (pa_cons (pv 1) pa_nil))))))), ?_⟩
    refine ⟨_, rfl, a, Z.Puzzle, dx, _, _, rfl, ha, Z.c_Puzzle.c, Z.n_Puzzle_uses, rfl, tu, ys, rfl, .inr hU, _, rfl, by omega, by omega, ?_⟩
    rw [Int.toNat_natCast]
    refine fun D hD => lc_rangeT (lo := 0) (sel := fun _ => true) (P := fun i y H => ∃ u, us[i]? = some u ∧ MgR tbs H y u) ⟨fun i y H1 H2 sm ⟨u, e1, e2⟩ => ⟨u, e1, e2.step sm⟩, fun j H3 hj _ R r => r H3 (Same.refl H3), fun i H3 hi _ sm R r => ?_⟩ hD (lt_line (by omega)) (fun H2 bs sm2 hb _ pb => ?_)
    · have hu : us[i]? = some (us[i]'(by omega)) := List.getElem?_eq_getElem (by omega)
      exact ⟨_, rfl, _, rfl, a, i, tbs, many, us, _, by rw [Int.zero_add]; rfl, hP.grow sm, hu, ok, fun y H4 sm4 hy => r y H4 sm4 ⟨_, hu, hy⟩⟩
    · rw [filter_yes, yl] at pb
      refine q D H2 bs sm2 hD hb (paired_of_range 0 ?_)
      rw [← List.range_eq_range']
      exact pb
def sprL (ones : List Nat) (ps : List (Option Nat)) (many : Nat) : List (Option Nat) := (List.range (2 ^ many)).map fun n => ps.getD (MK.spr ones many n) none
def spSpread (K : PySem.W.Frag) : Sp := fun vs H Q _ => ∃ (o q : Addr) (many : Nat) (ones : List Nat) (ps : List (Option Nat)), vs = [.ref o, .ref q, nV many] ∧ SqT K H o (nL ones) ∧ SqT K H q (ps.map pV) ∧ (∀ x ∈ ones, x < many) ∧ ps.length = 2 ^ ones.length ∧ ones.length ≤ 10 ∧ many ≤ 12 ∧
  NewL H Q ((sprL ones ps many).map pV)
theorem c_spread (D : FnAt K mg "spread" s_spread) (T : Bl mg) : Cal P w K mg base 1 "spread" (spSpread K) [] := by
  refine calOf D sc_spread (fun _ _ _ _ _ _ us hl => match us, hl with | [_, _, _], _ => rfl) (fun vs H Q E h => ?_) (fun f cdv A outer s H vs Q E hr h => ?_)
  · obtain ⟨o, q, many, ones, ps, rfl, _⟩ := h
    rfl
  · obtain ⟨o, q, many, ones, ps, rfl, ho, hq, hx, hl, h10, hm, k⟩ := h
    have nd := sc_spread.nd
    have p12 : 2 ^ many ≤ 2 ^ 12 := Nat.pow_le_pow_right (by decide) hm
    refine ⟨_, (pss_cons (ps_setLc (i := 3) (own := [("name", 4)]) (g := gName 4) (tt := tYes) rfl nd rfl rfl (sw_true rfl rfl rfl (by decide +kernel)) (piTup K (pv 0)) (blkOk_by (N := ["names", "prices", "many", "shifts", "name", "found", "number", "row", "shift"]) (sc := defScope s_spread) (own := [("name", 4)]) (by decide +kernel)) (fun _ _ _ _ _ => (pg_name (i := 4) nd rfl (by first | exact Or.inl rfl | exact Or.inr rfl))) (fun _ _ _ _ _ => pts_nil) (fun _ _ _ _ _ => (pe_op op_subNN (pe_op op_subNN (pv 2) pe_int) (pv 4))))
      (pss_cons (ps_set (i := 5) nd rfl (by first | exact Or.inl rfl | exact Or.inr rfl) (pe_lst pa_nil))
      (pss_cons (ps_for PassesOwn.never rfl (pi_range1 (by rfl) T.b_range (pa_cons (pe_op op_shlNN pe_int (pv 2)) pa_nil)) (pg_name (i := 6) nd rfl (by first | exact Or.inl rfl | exact Or.inr rfl))
        (pss_cons (ps_set (i := 7) nd rfl (by first | exact Or.inl rfl | exact Or.inr rfl) pe_int)
        (pss_cons (ps_for PassesOwn.never rfl (piList K (pv 3)) (pg_name (i := 8) nd rfl (by first | exact Or.inl rfl | exact Or.inr rfl))
          (pss_one (ps_set (i := 7) nd rfl (by first | exact Or.inl rfl | exact Or.inr rfl) (pe_op op_addNN (pe_op op_mulNN (pv 7) pe_int) (pe_op op_andN (pe_op op_shrNN (pv 6) (pv 8)) pe_int)))))
        (pss_one (ps_expr (pe_bm PySem.F.plainAttrs_list PySem.F.slot_list_append PySem.F.type_list_append mt_append (pv 5) (pa_cons (pe_ix (ixT K) (pv 1) (pv 7) (fun _ _ => rfl)) pa_nil)))))))
      (pss_one (ps_ret (pv 5)))))), ?_⟩
    refine ⟨_, rfl, o, rfl, ⟨_, ho⟩, fun S hS => lc_tupT ho (sel := fun _ => true) (P := fun j y _ => y = nV (many - 1 - ones.getD j 0)) ⟨fun _ _ _ _ _ h => h, fun j H2 _ _ R r => r H2 (Same.refl H2), fun j H2 hj _ sm R r => ?_⟩ hS (lt_line (by rw [List.length_map]; omega)) (fun H2 ss sm2 hs _ pw => ?_)⟩
    · have eg := nL_getD hj
      rw [List.length_map] at hj
      have hlt : ones.getD j 0 < many := by
        rw [List.getD_eq_getElem?_getD, List.getElem?_eq_getElem hj]
        exact hx _ (List.getElem_mem hj)
      exact ⟨_, rfl, many, 1, rfl, rfl, by omega, _, rfl, many - 1, ones.getD j 0, rfl, eg, by omega, r _ H2 (Same.refl H2) rfl⟩
    · rw [filter_yes, List.length_map] at pw
      have es : ss = nL (ones.map fun x => many - 1 - x) := by
        rw [paired_map_eq pw]
        have q := congrArg (List.map fun x => nV (many - 1 - x)) (map_range_get ones 0)
        rw [List.map_map] at q
        show _ = (ones.map _).map nV
        rw [List.map_map]
        exact q
      rw [es] at hs
      refine ⟨Nat.zero_le _, fun fl hfl => ?_⟩
      have sm3 := same_new (o := .lst []) hfl
      refine ⟨_, rfl, 1, many, rfl, rfl, ⟨by omega, by decide⟩, _, rfl, by omega, by omega, ?_⟩
      rw [Int.toNat_natCast, Nat.one_mul]
      refine for_range (lo := 0) (n := 2 ^ many) (fun n σ' H' => ∃ c6 c7 c8 : Option V, σ' = [some (.ref o), some (.ref q), some (nV many), some (.ref S), none, some (.ref fl), c6, c7, c8] ∧ Same H2 H' ∧ H' fl = some (.lst (((List.range n).map fun n => ps.getD (MK.spr ones many n) none).map pV)))
        ⟨none, none, none, rfl, sm3, upd_same⟩ ?_ ?_
      · rintro n σ' H' hn ⟨c6, c7, c8, rfl, sm, e⟩
        have hs' := sm _ _ hs
        refine ⟨_, rfl, S, rfl, ⟨_, SqL.of hs'⟩, ?_⟩
        refine for_list (xs := nL (ones.map fun x => many - 1 - x)) (fun j σ2 H3 => ∃ c8 : Option V, σ2 = [some (.ref o), some (.ref q), some (nV many), some (.ref S), none, some (.ref fl), some (.int (0 + (n : Int))), some (nV (MK.spr (ones.take j) many n)), c8] ∧ H3 = H')
          ⟨c8, rfl, rfl⟩ (fun j σ2 H3 _ ⟨_, _, e3⟩ => by rw [e3]; exact SqL.of hs') (fun j x σ2 H3 hx2 hp => ?_) (fun σ2 H3 hp => ?_)
        · obtain ⟨c8, rfl, rfl⟩ := hp
          obtain ⟨s0, hs0, rfl⟩ := map_get hx2
          obtain ⟨x0, hx0, rfl⟩ := map_get hs0
          have et : MK.spr (ones.take (j + 1)) many n = MK.spr (ones.take j) many n * 2 + MK.bitAt n many x0 := by
            rw [take_snoc hx0]
            unfold MK.spr
            rw [List.foldl_append]
            rfl
          rw [et]
          generalize MK.spr (ones.take j) many n = m
          exact ⟨_, rfl, m, 2, rfl, rfl, .inr (by decide), _, rfl, _, rfl, n, many - 1 - x0, by rw [Int.zero_add], rfl, _, 1, rfl, rfl, m * 2, _, rfl, rfl, ⟨_, rfl, rfl⟩⟩
        · obtain ⟨c8, rfl, rfl⟩ := hp
          have lt := MK.spr_lt ones many n
          rw [List.length_map, List.length_map, List.take_length]
          refine ⟨_, rfl, .inl ⟨rfl, _, SqL.of e⟩, _, rfl, _, rfl, q, _, ((MK.spr ones many n : Nat) : Int), pV (ps.getD (MK.spr ones many n) none), rfl, rfl, same_seqT (sm2.trans sm) hq, atI_nat ?_, fl, _, _, rfl, rfl, e, ?_, ?_⟩
          · rw [List.getElem?_map, List.getD_eq_getElem?_getD, List.getElem?_eq_getElem (by omega)]
            rfl
          · rw [List.length_map, List.length_map, List.length_range]
            exact Nat.lt_of_lt_of_le hn (lt_line (by omega))
          · refine ⟨_, _, _, rfl, same_fresh sm hfl, ?_⟩
            rw [upd_same, List.range_succ, List.map_append, List.map_append]
            rfl
      · rintro σ' H' ⟨c6, c7, c8, rfl, sm, e⟩
        exact ⟨_, rfl, k fl H' (sm2.trans sm) (sm2.free hfl) e⟩
end
end L2.KK
namespace L2.KK
open PySem PySem.Spec PyProof.Rows C8
theorem sc_open_masks : FnScope ["puzzle", "found", "names", "prices", "mask", "number", "price"] ["puzzle"] (defScope s_open_masks) := ⟨rfl, rfl, rfl, by decide +kernel, rfl, by decide +kernel, by decide +kernel⟩
theorem sc_left_mask : FnScope ["masks", "lot", "many", "left", "spot"] ["masks", "lot", "many"] (defScope s_left_mask) := ⟨rfl, rfl, rfl, by decide +kernel, rfl, by decide +kernel, by decide +kernel⟩
section
variable {P : Program} {w : World} {K : PySem.W.Frag} {mg : Str → Option Value} {base : Heap}
/-- what leaves when the limit n is passed -/
def Over (C : Addr) (H : Hp) (E : XK) (n : Nat) : Prop := ∀ (d : Addr) (H' : Hp), Same H H' → H d = none → H' d = some (.xd [(("limit" : Str), nV n)]) → E (.ref C) (some d) H'
def spOpen (K : PySem.W.Frag) (CT CL CP CX : Addr) : Sp := fun vs H Q E => ∃ (a : Addr) (tbs : List Tb) (many : Nat) (us : List Us), vs = [.ref a] ∧ PzAt K CT CL CP H a tbs many us ∧ UsesOk tbs many us ∧ us.length ≤ 1000 ∧
  (12 < many → Over CX H E 12) ∧ (many ≤ 12 → NewL H Q (nL (us.map (openM tbs many))))
theorem sprL_get {tbs : List Tb} {many : Nat} {u : Us} (h : ∀ x ∈ u.names, x < many) : sprL (MK.firstsL u.names) (mgPr tbs u) many = (List.range (2 ^ many)).map (usPr tbs many u) := by
  unfold sprL
  exact List.map_congr_left fun n _ => mg_spread h n
theorem c_open_masks (D : FnAt K mg "open_masks" s_open_masks) (Z : Ev K mg) (T : Bl mg) (x_TooMany : MakX P w K mg base 1 "TooMany" Z.TooMany (spX1 K Z.TooMany "limit")) (c_all_merged : Cal P w K mg base 4 "all_merged" (spAllM K Z.Table Z.Lot Z.Puzzle) []) (c_spread : Cal P w K mg base 1 "spread" (spSpread K) []) :
    CalX P w K mg base 5 "open_masks" (spOpen K Z.Table Z.Lot Z.Puzzle Z.TooMany) := by
  refine calOfX D sc_open_masks (fun _ _ _ _ _ _ us hl => match us, hl with | [_], _ => rfl) (fun vs H Q E h => ?_) (fun f cdv A outer s H vs Q E hr h => ?_)
  · obtain ⟨a, tbs, many, us, rfl, _⟩ := h
    rfl
  · obtain ⟨a, tbs, many, us, rfl, hP, ok, hl, kE, kQ⟩ := h
    have nd := sc_open_masks.nd
    have hP0 := hP
    obtain ⟨dx, l, tu, ys, ha, _, hU, pU⟩ := hP0
    refine ⟨_, (pss_cons (ps_if (pt_cmpR op_gt (peFld K (pv 0)) (pe_gc (by rfl) T.g_SEARCHED) (nomark _))
        (pss_one (ps_rx x_TooMany hr (by decide) (by rfl) rfl (takes_of rfl rfl rfl rfl) (pa_cons (pe_gc (by rfl) T.g_SEARCHED) pa_nil)))
        pss_nil)
      (pss_cons (ps_set (i := 1) nd rfl (by first | exact Or.inl rfl | exact Or.inr rfl) (pe_lst pa_nil))
      (pss_cons (ps_for (passes_of rfl) rfl (piList K (pe_c c_all_merged hr (by decide) (by rfl) (pa_cons (pv 0) pa_nil))) (pgTup K rfl (pgs_cons (pg_name (i := 2) nd rfl (by first | exact Or.inl rfl | exact Or.inr rfl)) (pgs_cons (pg_name (i := 3) nd rfl (by first | exact Or.inl rfl | exact Or.inr rfl)) pgs_nil)))
        (pss_cons (ps_set (i := 4) nd rfl (by first | exact Or.inl rfl | exact Or.inr rfl) pe_int)
        (pss_cons (ps_for (passes_of rfl) rfl (pi_enum (by rfl) T.b_enumerate (pa_cons (pe_c c_spread hr (by decide) (by rfl) (pa_cons (pv 2) (pa_cons (pv 3) (pa_cons (peFld K (pv 0)) pa_nil)))) pa_nil)) (pgTup K rfl (pgs_cons (pg_name (i := 5) nd rfl (by first | exact Or.inl rfl | exact Or.inr rfl)) (pgs_cons (pg_name (i := 6) nd rfl (by first | exact Or.inl rfl | exact Or.inr rfl)) pgs_nil)))
          (pss_one (ps_if (pt_cmpR op_notN (pv 6) pe_non (nomark _))
            (pss_one (ps_set (i := 4) nd rfl (by first | exact Or.inl rfl | exact Or.inr rfl) (pe_op op_orN (pv 4) (pe_op op_shlNN pe_int (pv 5)))))
            pss_nil)))
        (pss_one (ps_expr (pe_bm PySem.F.plainAttrs_list PySem.F.slot_list_append PySem.F.type_list_append mt_append (pv 1) (pa_cons (pv 4) pa_nil)))))))
      (pss_one (ps_ret (pv 1)))))), ?_⟩
    refine ⟨_, rfl, a, Z.Puzzle, dx, _, _, rfl, ha, Z.c_Puzzle.c, Z.n_Puzzle_many, rfl, _, _, rfl, rfl, _, rfl, ite2 (fun h => ?_) (fun h => ?_)⟩
    · have h' := of_decide_eq_true h
      exact ⟨by decide, mkO_1 fun d H' sm hd e => kE (by omega) d H' sm hd e⟩
    · have hm : many ≤ 12 := by
        refine Classical.byContradiction fun n => h (decide_eq_true ?_)
        omega
      have p12 : 2 ^ many ≤ 2 ^ 12 := Nat.pow_le_pow_right (by decide) hm
      refine ⟨Nat.zero_le _, fun fd hfd => ?_⟩
      have sm0 := same_new (o := .lst []) hfd
      refine ⟨_, rfl, a, tbs, many, us, rfl, hP.grow sm0, ok, hl, fun mg0 H1 ms sm1 hmg0 hmg pm => ?_⟩
      obtain ⟨ml, ma⟩ := paired_at pm
      have f1 := sm1 _ _ (show (upd H fd (.lst [])) fd = some (.lst []) from upd_same)
      refine ⟨mg0, rfl, ⟨_, SqL.of hmg⟩, ?_⟩
      have fd1 : fd ≠ mg0 := ne_of_none (show (upd H fd (.lst [])) fd = some (.lst []) from upd_same) hmg0
      refine for_list (xs := ms) (fun i σ' H' => ∃ c2 c3 c4 c5 c6 : Option V, σ' = [some (.ref a), some (.ref fd), c2, c3, c4, c5, c6] ∧ Kp fd H1 H' ∧ H' fd = some (.lst (nL ((us.map (openM tbs many)).take i))))
        ⟨none, none, none, none, none, rfl, Kp.refl _ _, f1⟩ (fun i σ' H' _ ⟨_, _, _, _, _, _, kp, _⟩ => SqL.of (kp _ _ hmg fd1.symm)) (fun i x σ' H' hx hp => ?_) (fun σ' H' hp => ?_)
      · obtain ⟨c2, c3, c4, c5, c6, rfl, kp, e⟩ := hp
        obtain ⟨u, hu, p0, o, q, rfl, hp0, ⟨ob, ho, hob⟩, hq⟩ := ma i x hx
        obtain ⟨t, ht, t1, t2, nl, nm⟩ := ok.2 u (List.mem_of_getElem? hu)
        have ot := ok.1 t (List.mem_of_getElem? ht)
        have nef : ∀ {b : Addr} {v : HO}, H1 b = some v → (∀ zs, v ≠ .lst zs) → b ≠ fd := fun {b v} h n z => by
          rw [z, f1] at h
          cases h
          exact n _ rfl
        have hp1 := kp _ _ hp0 (nef hp0 fun _ z => by cases z)
        have ho1 := kp _ _ ho (nef ho fun _ z => by cases z)
        have hq1 := kp _ _ hq (nef hq fun _ z => by cases z)
        have o4 := MK.firstsL_len u.names
        have n4 : u.names.length ≤ 4 := by rw [nl]; exact ot.2.1
        refine ⟨p0, _, rfl, .inl (.inl hp1), rfl, _, _, rfl, _, _, rfl, rfl, ?_⟩
        have ha1 : H' a = some (.ins Z.Puzzle dx (pzF l many tu)) := kp _ _ (sm1 _ _ (sm0 _ _ ha)) (ne_of_none ha hfd)
        refine ⟨_, rfl, _, rfl, _, rfl, a, Z.Puzzle, dx, _, _, rfl, ha1, Z.c_Puzzle.c, Z.n_Puzzle_many, rfl, o, q, many, MK.firstsL u.names, mgPr tbs u, rfl, .inl (.inr ⟨ob, ho1⟩), .inl (.inl hq1), fun x hx => nm x (MK.mem_firstsL.mp hx), by unfold mgPr; rw [List.length_map, List.length_range], by omega, hm, fun sl H2 sm2 hsl hs => ?_⟩
        rw [sprL_get nm, List.map_map] at hs
        refine ⟨sl, _, rfl, SqL.of hs, ?_⟩
        have lx : ((List.range (2 ^ many)).map (pV ∘ usPr tbs many u)).length = 2 ^ many := by rw [List.length_map, List.length_range]
        refine for_it walk_enum (fun n σ2 H3 => ∃ c5 c6 : Option V, σ2 = [some (.ref a), some (.ref fd), some (.ref o), some (.ref q), some (nV (MK.maskF (usPr tbs many u) n)), c5, c6] ∧ Same H2 H3)
          ⟨c5, c6, rfl, Same.refl _⟩ (fun n σ2 H3 _ ⟨_, _, _, sm⟩ => SqL.of (sm _ _ hs)) (fun n x σ2 H3 H4 hn hp y => ?_) (fun σ2 H3 hp => ?_)
        · obtain ⟨c5, c6, rfl, sm⟩ := hp
          obtain ⟨Tt, x1, x2, rfl, hT, rfl, e1, e2⟩ := y
          cases e1
          rw [lx] at hn
          have e3 : ((List.range (2 ^ many)).map (pV ∘ usPr tbs many u))[n]? = some x2 := e2
          rw [List.getElem?_map, List.getElem?_range hn] at e3
          cases e3
          have sm4 : Same H2 (upd H3 Tt (.tup [.int (n : Int), (pV ∘ usPr tbs many u) n])) := sm.trans (same_new hT)
          refine ⟨Tt, _, rfl, .inl (.inl upd_same), rfl, _, _, rfl, _, _, rfl, rfl, ?_⟩
          rw [MK.maskF_succ]
          show ∃ _, _
          refine ⟨_, rfl, rfl, _, rfl, ?_⟩
          show if (!decide (pV (usPr tbs many u n) = V.non)) = true then _ else _
          cases hv : usPr tbs many u n with
          | none => exact ite2 (fun h => absurd h notn_none) (fun _ => ⟨_, _, rfl, sm4⟩)
          | some v =>
            refine ite2 (fun _ => ?_) (fun h => absurd notn_some h)
            refine ⟨_, rfl, _, rfl, 1, n, rfl, rfl, ⟨by omega, by decide⟩, _, _, rfl, rfl, ⟨some (.int (n : Int)), some (pV (usPr tbs many u n)), ?_, sm4⟩⟩
            show [some (V.ref a), some (V.ref fd), some (V.ref o), some (V.ref q), some (nV (MK.maskF (usPr tbs many u) n ||| 1 * 2 ^ n)), _, _] = _
            rw [Nat.one_mul]
            rfl
        · obtain ⟨c5, c6, rfl, sm⟩ := hp
          rw [lx]
          have e2 := sm _ _ (sm2 _ _ e)
          refine ⟨_, rfl, .inl ⟨rfl, _, SqL.of e2⟩, _, rfl, fd, _, _, rfl, rfl, e2, ?_, ?_⟩
          · rw [List.length_map, List.length_take]
            exact Nat.lt_of_le_of_lt (show _ ≤ 1000 by have : (us.map (openM tbs many)).length = us.length := List.length_map _; omega) (by decide)
          · refine ⟨_, _, _, _, _, rfl, ((kp.trans (Kp.of sm2)).trans (Kp.of sm)).trans kp_upd, ?_⟩
            rw [upd_same, take_snoc (x := openM tbs many u) (by rw [List.getElem?_map, hu]; rfl), nL_append]
            rfl
      · obtain ⟨c2, c3, c4, c5, c6, rfl, kp, e⟩ := hp
        have el : (us.map (openM tbs many)).length = ms.length := by rw [List.length_map, ml]
        rw [← el, List.take_length] at e
        refine ⟨_, rfl, kQ hm fd H' (fun b v hb => ?_) hfd e⟩
        exact kp _ _ (sm1 _ _ (sm0 _ _ hb)) (ne_of_none hb hfd)
def spLeft (K : PySem.W.Frag) : Sp := fun vs H Q _ => ∃ (a : Addr) (ms : List Nat) (lot many : Nat), vs = [.ref a, nV lot, nV many] ∧ SqL K H a (nL ms) ∧ ms.length ≤ 1000 ∧ many ≤ 12 ∧ ∀ H', Same H H' → Q (nV (MK.leftM ms lot many)) H'
theorem c_left_mask (D : FnAt K mg "left_mask" s_left_mask) (T : Bl mg) (c_bits_of : Cal P w K mg base 1 "bits_of" spBits []) : Cal P w K mg base 2 "left_mask" (spLeft K) [] := by
  refine calOf D sc_left_mask (fun _ _ _ _ _ _ us hl => match us, hl with | [_, _, _], _ => rfl) (fun vs H Q E h => ?_) (fun f cdv A outer s H vs Q E hr h => ?_)
  · obtain ⟨a, ms, lot, many, rfl, _⟩ := h
    rfl
  · obtain ⟨a, ms, lot, many, rfl, ha, hl, hm, k⟩ := h
    have nd := sc_left_mask.nd
    have p12 : 2 ^ many ≤ 2 ^ 12 := Nat.pow_le_pow_right (by decide) hm
    have p1 := Nat.two_pow_pos (2 ^ many)
    refine ⟨_, (pss_cons (ps_set (i := 3) nd rfl (by first | exact Or.inl rfl | exact Or.inr rfl) (pe_op op_subNN (pe_op op_shlNN pe_int (pe_op op_shlNN pe_int (pv 2))) pe_int))
      (pss_cons (ps_for PassesOwn.never rfl (piList K (pe_c c_bits_of hr (by decide) (by rfl) (pa_cons (pv 1) (pa_cons (pe_callB (crLen K) (by rfl) T.b_len (by decide +kernel) (pa_cons (pv 0) pa_nil)) pa_nil)))) (pg_name (i := 4) nd rfl (by first | exact Or.inl rfl | exact Or.inr rfl))
        (pss_one (ps_set (i := 3) nd rfl (by first | exact Or.inl rfl | exact Or.inr rfl) (pe_op op_andN (pv 3) (pe_ix (ixL K) (pv 0) (pv 4) (fun _ _ => rfl))))))
      (pss_one (ps_ret (pv 3))))), ?_⟩
    refine ⟨_, rfl, 1, many, rfl, rfl, ⟨by omega, by decide⟩, 1, _, rfl, rfl, ⟨by omega, by decide⟩, _, 1, rfl, rfl, by rw [Nat.one_mul, Nat.one_mul]; omega, ?_⟩
    refine ⟨_, rfl, _, rfl, a, _, rfl, .inl ha, lot, ms.length, by rw [List.length_map]; rfl, by omega, fun b H1 sm1 hb0 hb => ?_⟩
    refine ⟨b, rfl, ⟨_, SqL.of hb⟩, ?_⟩
    have ha1 := sm1.seq ha
    refine for_list (xs := nL (MK.bitsOf lot ms.length)) (fun i σ' H' => ∃ c4 : Option V, σ' = [some (.ref a), some (nV lot), some (nV many), some (nV (((MK.bitsOf lot ms.length).take i).foldl (fun l s => l &&& ms.getD s 0) (2 ^ 2 ^ many - 1))), c4] ∧ H' = H1)
      ⟨none, by rw [List.take_zero, Nat.one_mul, Nat.one_mul]; rfl, rfl⟩ (fun i σ' H' _ ⟨_, _, e⟩ => by rw [e]; exact SqL.of hb) (fun i x σ' H' hx hp => ?_) (fun σ' H' hp => ?_)
    · obtain ⟨c4, rfl, rfl⟩ := hp
      obtain ⟨sp, hsp, rfl⟩ := map_get hx
      have hlt := (MK.mem_bitsOf.mp (List.mem_of_getElem? hsp)).1
      rw [take_snoc hsp, List.foldl_append]
      generalize ((MK.bitsOf lot ms.length).take i).foldl (fun l s => l &&& ms.getD s 0) (2 ^ 2 ^ many - 1) = m
      refine ⟨_, rfl, _, rfl, _, rfl, a, nL ms, (sp : Int), nV (ms.getD sp 0), rfl, rfl, ha1, atI_nat ?_, m, _, rfl, rfl, ⟨_, rfl, rfl⟩⟩
      rw [nL_get hlt, List.getD_eq_getElem?_getD, List.getElem?_eq_getElem hlt]
      rfl
    · obtain ⟨c4, rfl, rfl⟩ := hp
      rw [List.length_map, List.take_length]
      exact ⟨_, rfl, k _ sm1⟩
end
end L2.KK
namespace L2.KK
open PySem PySem.Spec PyProof.Rows C8
theorem sc_clashes : FnScope ["puzzle", "masks", "lots", "lot"] ["puzzle"] (defScope s_clashes) := ⟨rfl, rfl, rfl, by decide +kernel, rfl, by decide +kernel, by decide +kernel⟩
theorem sc_menders : FnScope ["puzzle", "masks", "whole", "lots", "lot"] ["puzzle"] (defScope s_menders) := ⟨rfl, rfl, rfl, by decide +kernel, rfl, by decide +kernel, by decide +kernel⟩
theorem dec_nV {a b : Nat} : decide (nV a = nV b) = decide (a = b) := by
  rw [Bool.eq_iff_iff, decide_eq_true_iff, decide_eq_true_iff]
  constructor
  · intro h
    injection h with e
    omega
  · exact fun h => by rw [h]
/-- a list of uses' masks, as the clashes' reckoning goes -/
abbrev omL (tbs : List Tb) (many : Nat) (us : List Us) : List Nat := us.map (openM tbs many)
/-- what as_lots tells of the least ones of S -/
def Told (K : PySem.W.Frag) (H : Hp) (Q : VK) (S : List Nat) (n : Nat) : Prop := ∀ G, MK.Least G (· ∈ S) → ∀ p H' Ls, Same H H' → H p = none → LotsAt K H' p Ls → Ls.Perm (G.map fun m => MK.bitsOf m n) → Ls.Pairwise LotLe → Q (.ref p) H'
section
variable {P : Program} {w : World} {K : PySem.W.Frag} {mg : Str → Option Value} {base : Heap}
def spClash (K : PySem.W.Frag) (CT CL CP CX : Addr) (S : List Nat → Nat → List Nat) : Sp := fun vs H Q E => ∃ (a : Addr) (tbs : List Tb) (many : Nat) (us : List Us), vs = [.ref a] ∧ PzAt K CT CL CP H a tbs many us ∧ UsesOk tbs many us ∧ us.length ≤ 1000 ∧
  (10 < us.length → Over CX H E 10) ∧ (us.length ≤ 10 → 12 < many → Over CX H E 12) ∧ (us.length ≤ 10 → many ≤ 12 → Told K H Q (S (omL tbs many us) many) us.length)
theorem Over.pass {C : Addr} {H H' : Hp} {E : XK} {n : Nat} (h : Over C H E n) (sm : Same H H') : Over C H' E n := fun d H2 s2 hd e => h d H2 (sm.trans s2) (sm.free hd) e
theorem c_clashes (D : FnAt K mg "clashes" s_clashes) (Z : Ev K mg) (T : Bl mg) (x_TooMany : MakX P w K mg base 1 "TooMany" Z.TooMany (spX1 K Z.TooMany "limit")) (c_open_masks : CalX P w K mg base 5 "open_masks" (spOpen K Z.Table Z.Lot Z.Puzzle Z.TooMany)) (c_left_mask : Cal P w K mg base 2 "left_mask" (spLeft K) [])
    (c_minimal_masks : Cal P w K mg base 2 "minimal_masks" (spMin K) []) (c_as_lots : Cal P w K mg base 10 "as_lots" (spLots K) []) : CalX P w K mg base 11 "clashes" (spClash K Z.Table Z.Lot Z.Puzzle Z.TooMany MK.badL) := by
  refine calOfX D sc_clashes (fun _ _ _ _ _ _ us hl => match us, hl with | [_], _ => rfl) (fun vs H Q E h => ?_) (fun f cdv A outer s H vs Q E hr h => ?_)
  · obtain ⟨a, tbs, many, us, rfl, _⟩ := h
    rfl
  · obtain ⟨a, tbs, many, us, rfl, hP, ok, hl, k10, k12, kQ⟩ := h
    have nd := sc_clashes.nd
    have hP0 := hP
    obtain ⟨dx, l, tu, ys, ha, _, hU, pU⟩ := hP0
    obtain ⟨yl, _⟩ := paired_at pU
    refine ⟨_, (pss_cons (ps_if (pt_cmpR op_gt (pe_callB (crLen K) (by rfl) T.b_len (by decide +kernel) (pa_cons (peFld K (pv 0)) pa_nil)) (pe_gc (by rfl) T.g_CLASHED) (nomark _))
        (pss_one (ps_rx x_TooMany hr (by decide) (by rfl) rfl (takes_of rfl rfl rfl rfl) (pa_cons (pe_gc (by rfl) T.g_CLASHED) pa_nil)))
        pss_nil)
      (pss_cons (ps_set (i := 1) nd rfl (by first | exact Or.inl rfl | exact Or.inr rfl) (pe_cx c_open_masks hr (by decide) (by rfl) (takes_of rfl rfl rfl rfl) (pa_cons (pv 0) pa_nil)))
      (pss_cons (ps_setLc (i := 2) (own := [("lot", 3)]) (g := gName 3) rfl nd rfl rfl (sw_true rfl rfl rfl (by decide +kernel)) (pi_range1 (by rfl) T.b_range (pa_cons (pe_op op_shlNN pe_int (pe_callB (crLen K) (by rfl) T.b_len (by decide +kernel) (pa_cons (pv 1) pa_nil))) pa_nil)) (blkOk_by (N := ["puzzle", "masks", "lots", "lot"]) (sc := defScope s_clashes) (own := [("lot", 3)]) (by decide +kernel)) (fun _ _ _ _ _ => (pg_name (i := 3) nd rfl (by first | exact Or.inl rfl | exact Or.inr rfl))) (fun _ _ _ _ _ => (pts_one (pt_cmpR op_eq (pe_c c_left_mask hr (by decide) (by rfl) (pa_cons (pv 1) (pa_cons (pv 3) (pa_cons (peFld K (pv 0)) pa_nil)))) pe_int (nomark _)))) (fun _ _ _ _ _ => (pv 3)))
      (pss_one (ps_ret (pe_c c_as_lots hr (by decide) (by rfl) (pa_cons (pe_c c_minimal_masks hr (by decide) (by rfl) (pa_cons (pv 2) pa_nil)) (pa_cons (pe_callB (crLen K) (by rfl) T.b_len (by decide +kernel) (pa_cons (pv 1) pa_nil)) pa_nil)))))))), ?_⟩
    refine ⟨_, rfl, a, Z.Puzzle, dx, _, _, rfl, ha, Z.c_Puzzle.c, Z.n_Puzzle_uses, rfl, tu, ys, rfl, .inr hU, _, _, rfl, rfl, _, rfl, ite2 (fun h => ?_) (fun h => ?_)⟩
    · have h' := of_decide_eq_true h
      exact ⟨by decide, mkO_1 fun d H' sm hd e => k10 (by omega) d H' sm hd e⟩
    · have h10 : us.length ≤ 10 := by
        refine Classical.byContradiction fun n => h (decide_eq_true ?_)
        omega
      have p10 : 2 ^ us.length ≤ 2 ^ 10 := Nat.pow_le_pow_right (by decide) h10
      have ml : (omL tbs many us).length = us.length := List.length_map _
      have nl : (nL (omL tbs many us)).length = us.length := by rw [List.length_map, ml]
      refine ⟨_, rfl, a, tbs, many, us, rfl, hP, ok, hl, fun h => k12 h10 h, fun hm mk H1 sm1 hmk0 hmk => ?_⟩
      refine ⟨_, rfl, mk, _, rfl, .inl (SqL.of hmk), 1, us.length, rfl, by rw [nl], ⟨by omega, by decide⟩, _, rfl, by omega, by omega, ?_⟩
      rw [Int.toNat_natCast, Nat.one_mul]
      refine fun D hD => lc_rangeT (lo := 0) (sel := fun lot => decide (MK.leftM (omL tbs many us) lot many = 0)) (P := fun i y _ => y = nV i) ⟨fun _ _ _ _ _ h => h, fun i H2 hi sm R r => ?_, fun i H2 hi _ _ R r => ?_⟩ hD (lt_line (by omega)) (fun H2 bs sm2 hb _ pb => ?_)
      · have ha2 := sm _ _ (sm1 _ _ ha)
        exact ⟨_, rfl, _, rfl, _, rfl, a, Z.Puzzle, dx, _, _, rfl, ha2, Z.c_Puzzle.c, Z.n_Puzzle_many, rfl, mk, omL tbs many us, i, many, by rw [Int.zero_add]; rfl, SqL.of (sm _ _ hmk), by omega, hm, fun H3 sm3 => ⟨rfl, _, congrArg V.bl (dec_nV (b := 0)), r H3 sm3⟩⟩
      · exact ⟨_, rfl, r _ H2 (Same.refl H2) (by rw [Int.zero_add])⟩
      · rw [paired_map_eq pb] at hb
        have lb : (MK.badL (omL tbs many us) many).length ≤ 2 ^ us.length := by
          have := List.length_filter_le (fun lot => decide (MK.leftM (omL tbs many us) lot many = 0)) (List.range (2 ^ (omL tbs many us).length))
          rw [List.length_range, ml] at this
          unfold MK.badL
          rw [ml]
          exact this
        have hb2 : H2 D = some (.lst (nL (MK.badL (omL tbs many us) many))) := by
          unfold MK.badL
          rw [ml]
          exact hb
        have mk2 := sm2 _ _ hmk
        refine ⟨_, rfl, D, MK.badL (omL tbs many us) many, rfl, SqL.of hb2, by omega, fun G hG p H3 sm3 hp0 hp => ?_⟩
        have gl : G.length ≤ 2 ^ us.length := by
          have := hG.nd.length_le_of_subset fun x hx => ((hG.mem x).mp hx).1
          omega
        refine ⟨_, rfl, mk, _, rfl, .inl (SqL.of (sm3 _ _ mk2)), p, us.length, G, by rw [nl]; rfl, SqL.of hp, by omega, by omega, fun q H4 Ls sm4 hq0 hq pm up => ?_⟩
        exact kQ h10 hm G hG q H4 Ls (((sm1.trans sm2).trans sm3).trans sm4) ((sm1.trans (sm2.trans sm3)).free hq0) hq pm up
theorem c_menders (D : FnAt K mg "menders" s_menders) (Z : Ev K mg) (T : Bl mg) (x_TooMany : MakX P w K mg base 1 "TooMany" Z.TooMany (spX1 K Z.TooMany "limit")) (c_open_masks : CalX P w K mg base 5 "open_masks" (spOpen K Z.Table Z.Lot Z.Puzzle Z.TooMany)) (c_left_mask : Cal P w K mg base 2 "left_mask" (spLeft K) [])
    (c_minimal_masks : Cal P w K mg base 2 "minimal_masks" (spMin K) []) (c_as_lots : Cal P w K mg base 10 "as_lots" (spLots K) []) : CalX P w K mg base 11 "menders" (spClash K Z.Table Z.Lot Z.Puzzle Z.TooMany MK.goodL) := by
  refine calOfX D sc_menders (fun _ _ _ _ _ _ us hl => match us, hl with | [_], _ => rfl) (fun vs H Q E h => ?_) (fun f cdv A outer s H vs Q E hr h => ?_)
  · obtain ⟨a, tbs, many, us, rfl, _⟩ := h
    rfl
  · obtain ⟨a, tbs, many, us, rfl, hP, ok, hl, k10, k12, kQ⟩ := h
    have nd := sc_menders.nd
    have hP0 := hP
    obtain ⟨dx, l, tu, ys, ha, _, hU, pU⟩ := hP0
    obtain ⟨yl, _⟩ := paired_at pU
    refine ⟨_, (pss_cons (ps_if (pt_cmpR op_gt (pe_callB (crLen K) (by rfl) T.b_len (by decide +kernel) (pa_cons (peFld K (pv 0)) pa_nil)) (pe_gc (by rfl) T.g_CLASHED) (nomark _))
        (pss_one (ps_rx x_TooMany hr (by decide) (by rfl) rfl (takes_of rfl rfl rfl rfl) (pa_cons (pe_gc (by rfl) T.g_CLASHED) pa_nil)))
        pss_nil)
      (pss_cons (ps_set (i := 1) nd rfl (by first | exact Or.inl rfl | exact Or.inr rfl) (pe_cx c_open_masks hr (by decide) (by rfl) (takes_of rfl rfl rfl rfl) (pa_cons (pv 0) pa_nil)))
      (pss_cons (ps_set (i := 2) nd rfl (by first | exact Or.inl rfl | exact Or.inr rfl) (pe_op op_subNN (pe_op op_shlNN pe_int (pe_callB (crLen K) (by rfl) T.b_len (by decide +kernel) (pa_cons (pv 1) pa_nil))) pe_int))
      (pss_cons (ps_setLc (i := 3) (own := [("lot", 4)]) (g := gName 4) rfl nd rfl rfl (sw_true rfl rfl rfl (by decide +kernel)) (pi_range1 (by rfl) T.b_range (pa_cons (pe_op op_shlNN pe_int (pe_callB (crLen K) (by rfl) T.b_len (by decide +kernel) (pa_cons (pv 1) pa_nil))) pa_nil)) (blkOk_by (N := ["puzzle", "masks", "whole", "lots", "lot"]) (sc := defScope s_menders) (own := [("lot", 4)]) (by decide +kernel)) (fun _ _ _ _ _ => (pg_name (i := 4) nd rfl (by first | exact Or.inl rfl | exact Or.inr rfl))) (fun _ _ _ _ _ => (pts_one (pt_cmpR op_ne (pe_c c_left_mask hr (by decide) (by rfl) (pa_cons (pv 1) (pa_cons (pe_op op_xorN (pv 2) (pv 4)) (pa_cons (peFld K (pv 0)) pa_nil)))) pe_int (nomark _)))) (fun _ _ _ _ _ => (pv 4)))
      (pss_one (ps_ret (pe_c c_as_lots hr (by decide) (by rfl) (pa_cons (pe_c c_minimal_masks hr (by decide) (by rfl) (pa_cons (pv 3) pa_nil)) (pa_cons (pe_callB (crLen K) (by rfl) T.b_len (by decide +kernel) (pa_cons (pv 1) pa_nil)) pa_nil))))))))), ?_⟩
    refine ⟨_, rfl, a, Z.Puzzle, dx, _, _, rfl, ha, Z.c_Puzzle.c, Z.n_Puzzle_uses, rfl, tu, ys, rfl, .inr hU, _, _, rfl, rfl, _, rfl, ite2 (fun h => ?_) (fun h => ?_)⟩
    · have h' := of_decide_eq_true h
      exact ⟨by decide, mkO_1 fun d H' sm hd e => k10 (by omega) d H' sm hd e⟩
    · have h10 : us.length ≤ 10 := by
        refine Classical.byContradiction fun n => h (decide_eq_true ?_)
        omega
      have p10 : 2 ^ us.length ≤ 2 ^ 10 := Nat.pow_le_pow_right (by decide) h10
      have ml : (omL tbs many us).length = us.length := List.length_map _
      have nl : (nL (omL tbs many us)).length = us.length := by rw [List.length_map, ml]
      refine ⟨_, rfl, a, tbs, many, us, rfl, hP, ok, hl, fun h => k12 h10 h, fun hm mk H1 sm1 hmk0 hmk => ?_⟩
      refine ⟨_, rfl, mk, _, rfl, .inl (SqL.of hmk), 1, us.length, rfl, by rw [nl], ⟨by omega, by decide⟩, 1 * 2 ^ us.length, 1, rfl, rfl, by rw [Nat.one_mul]; exact Nat.two_pow_pos _, ?_⟩
      rw [Nat.one_mul]
      refine ⟨_, rfl, mk, _, rfl, .inl (SqL.of hmk), 1, us.length, rfl, by rw [nl], ⟨by omega, by decide⟩, _, rfl, by omega, by omega, ?_⟩
      rw [Int.toNat_natCast, Nat.one_mul]
      refine fun D hD => lc_rangeT (lo := 0) (sel := fun lot => !decide (MK.leftM (omL tbs many us) ((2 ^ us.length - 1) ^^^ lot) many = 0)) (P := fun i y _ => y = nV i) ⟨fun _ _ _ _ _ h => h, fun i H2 hi sm R r => ?_, fun i H2 hi _ _ R r => ?_⟩ hD (lt_line (by omega)) (fun H2 bs sm2 hb _ pb => ?_)
      · have ha2 := sm _ _ (sm1 _ _ ha)
        exact ⟨_, rfl, _, rfl, _, rfl, 2 ^ us.length - 1, i, rfl, by rw [Int.zero_add], _, rfl, a, Z.Puzzle, dx, _, _, rfl, ha2, Z.c_Puzzle.c, Z.n_Puzzle_many, rfl, mk, omL tbs many us, (2 ^ us.length - 1) ^^^ i, many, rfl, SqL.of (sm _ _ hmk), by omega, hm, fun H3 sm3 => ⟨rfl, _, congrArg (fun b => V.bl (!b)) (dec_nV (b := 0)), r H3 sm3⟩⟩
      · exact ⟨_, rfl, r _ H2 (Same.refl H2) (by rw [Int.zero_add])⟩
      · rw [paired_map_eq pb] at hb
        have lb : (MK.goodL (omL tbs many us) many).length ≤ 2 ^ us.length := by
          have := List.length_filter_le (fun lot => !decide (MK.leftM (omL tbs many us) ((2 ^ us.length - 1) ^^^ lot) many = 0)) (List.range (2 ^ (omL tbs many us).length))
          rw [List.length_range, ml] at this
          unfold MK.goodL
          rw [ml]
          exact this
        have hb2 : H2 D = some (.lst (nL (MK.goodL (omL tbs many us) many))) := by
          unfold MK.goodL
          rw [ml]
          exact hb
        have mk2 := sm2 _ _ hmk
        refine ⟨_, rfl, D, MK.goodL (omL tbs many us) many, rfl, SqL.of hb2, by omega, fun G hG p H3 sm3 hp0 hp => ?_⟩
        have gl : G.length ≤ 2 ^ us.length := by
          have := hG.nd.length_le_of_subset fun x hx => ((hG.mem x).mp hx).1
          omega
        refine ⟨_, rfl, mk, _, rfl, .inl (SqL.of (sm3 _ _ mk2)), p, us.length, G, by rw [nl]; rfl, SqL.of hp, by omega, by omega, fun q H4 Ls sm4 hq0 hq pm up => ?_⟩
        exact kQ h10 hm G hG q H4 Ls (((sm1.trans sm2).trans sm3).trans sm4) ((sm1.trans (sm2.trans sm3)).free hq0) hq pm up
end
end L2.KK
namespace L2.KK
open PySem PySem.Spec PyProof.Rows C8
theorem sc_menders_of : FnScope ["lots", "many", "masks", "spot", "lot"] ["lots", "many"] (defScope s_menders_of) := ⟨rfl, rfl, rfl, by decide +kernel, rfl, by decide +kernel, by decide +kernel⟩
theorem sc_law_low : FnScope ["prices", "best", "price"] ["prices"] (defScope s_law_low) := ⟨rfl, rfl, rfl, by decide +kernel, rfl, by decide +kernel, by decide +kernel⟩
theorem sc_law_cost : FnScope ["d"] ["d"] (defScope s_law_cost) := ⟨rfl, rfl, rfl, by decide +kernel, rfl, by decide +kernel, by decide +kernel⟩
theorem sc_law_opened : FnScope ["d", "prices"] ["d", "prices"] (defScope s_law_opened) := ⟨rfl, rfl, rfl, by decide +kernel, rfl, by decide +kernel, by decide +kernel⟩
theorem within_top {n m : Nat} (h : m < 2 ^ n) : MK.sub m (MK.maskOf (List.range n)) := MK.sub_iff.mpr fun i hi => by
  rw [MK.maskOf_bit, decide_eq_true_eq, List.mem_range]
  exact MK.bit_of_lt h hi
theorem top_lt (n : Nat) : MK.maskOf (List.range n) < 2 ^ n := MK.maskOf_lt fun i hi => List.mem_range.mp hi
theorem top_pc (n : Nat) : MK.pc (MK.maskOf (List.range n)) ≤ n := by
  have := MK.maskOf_pc (List.range n)
  rw [List.length_range] at this
  exact this
theorem mask_bits {m n : Nat} (h : m < 2 ^ n) : MK.maskOf (MK.bitsOf m n) = m := by
  apply Nat.eq_of_testBit_eq
  intro i
  rw [MK.maskOf_bit, Bool.eq_iff_iff, decide_eq_true_iff, MK.mem_bitsOf]
  exact ⟨fun h => h.2, fun hi => ⟨MK.bit_of_lt h hi, hi⟩⟩
theorem bits_nodup (m n : Nat) : (MK.bitsOf m n).Nodup := List.Nodup.sublist List.filter_sublist List.nodup_range
theorem ixN_lt {n j : Nat} (h : j < n) : ixN n (j : Int) = some j := by
  have e := atI_nat (xs := List.range n) (j := j) (v := j) (List.getElem?_range h)
  unfold atI at e
  rw [List.length_range] at e
  cases q : ixN n (j : Int) with
  | none => rw [q] at e; cases e
  | some m =>
    rw [q] at e
    have e2 : (List.range n)[m]? = some j := e
    obtain ⟨h1, h2⟩ := List.getElem?_eq_some_iff.mp e2
    rw [List.getElem_range] at h2
    rw [h2]
theorem paired_getD {F : V → List Nat → Prop} {ys : List V} {Ls : List (List Nat)} (p : Paired F ys Ls) {i : Nat} (h : i < ys.length) : F (ys.getD i .non) (Ls.getD i []) := by
  obtain ⟨_, a⟩ := paired_at p
  obtain ⟨l, hl, hF⟩ := a i _ (List.getElem?_eq_getElem h)
  rw [List.getD_eq_getElem?_getD, List.getD_eq_getElem?_getD, hl, List.getElem?_eq_getElem h]
  exact hF
section
variable {P : Program} {w : World} {K : PySem.W.Frag} {mg : Str → Option Value} {base : Heap}
def spMof (K : PySem.W.Frag) : Sp := fun vs H Q _ => ∃ (p : Addr) (n : Nat) (Ls : List (List Nat)) (B : List Nat), vs = [.ref p, nV n] ∧ LotsAt K H p Ls ∧ Ls.Perm (B.map fun m => MK.bitsOf m n) ∧ (∀ m ∈ B, m < 2 ^ n) ∧ B.length ≤ 2000 ∧ n ≤ 10 ∧
  ∀ G, MK.Least G (MK.Tr B n) → ∀ q H' Ls', Same H H' → H q = none → LotsAt K H' q Ls' → Ls'.Perm (G.map fun m => MK.bitsOf m n) → Ls'.Pairwise LotLe → Q (.ref q) H'
theorem c_menders_of (D : FnAt K mg "menders_of" s_menders_of) (T : Bl mg) (c_blocker : Cal P w K mg base 3 "blocker" (spBlk K) []) (c_as_lots : Cal P w K mg base 10 "as_lots" (spLots K) []) : Cal P w K mg base 11 "menders_of" (spMof K) [] := by
  refine calOf D sc_menders_of (fun _ _ _ _ _ _ us hl => match us, hl with | [_, _], _ => rfl) (fun vs H Q E h => ?_) (fun f cdv A outer s H vs Q E hr h => ?_)
  · obtain ⟨p, n, Ls, B, rfl, _⟩ := h
    rfl
  · obtain ⟨p, n, Ls, B, rfl, ⟨ys, hS, pr⟩, pm, hB, bl, hn, k⟩ := h
    have nd := sc_menders_of.nd
    obtain ⟨yl, _⟩ := paired_at pr
    have ll := pm.length_eq
    rw [List.length_map] at ll
    have each : ∀ {i : Nat}, i < Ls.length → ∃ m ∈ B, Ls.getD i [] = MK.bitsOf m n := fun {i} hi => by
      have hm : Ls.getD i [] ∈ Ls := by
        rw [List.getD_eq_getElem?_getD, List.getElem?_eq_getElem hi]
        exact List.getElem_mem hi
      obtain ⟨m, hm1, hm2⟩ := List.mem_map.mp (pm.mem_iff.mp hm)
      exact ⟨m, hm1, hm2.symm⟩
    refine ⟨_, (pss_cons (ps_setLc (i := 2) (own := [("lot", 4)]) (g := gName 4) (tt := tYes) rfl nd rfl rfl (sw_true rfl rfl rfl (by decide +kernel)) (piTup K (pv 0)) (blkOk_by (N := ["lots", "many", "masks", "spot", "lot"]) (sc := defScope s_menders_of) (own := [("lot", 4)]) (by decide +kernel)) (fun _ _ _ _ _ => (pg_name (i := 4) nd rfl (by first | exact Or.inl rfl | exact Or.inr rfl))) (fun _ _ _ _ _ => pts_nil) (fun _ _ _ _ _ => (pe_callB (crSum K) (by rfl) T.b_sum (by decide +kernel) (pa_cons (pe_lc (own := [("spot", 3)]) (g := gName 3) (tt := tYes) rfl nd (piTup K (pv 4)) (blkOk_by (own := [("spot", 3)]) (by kernel_rfl)) (fun _ _ _ _ _ => (pg_name (i := 3) nd rfl (by first | exact Or.inl rfl | exact Or.inr rfl))) (fun _ _ _ _ _ => pts_nil) (fun _ _ _ _ _ => (pe_op op_shlNN pe_int (pv 3)))) pa_nil))))
      (pss_one (ps_ret (pe_c c_as_lots hr (by decide) (by rfl) (pa_cons (pe_c c_blocker hr (by decide) (by rfl) (pa_cons (pv 2) (pa_cons (pv 1) pa_nil))) (pa_cons (pv 1) pa_nil)))))), ?_⟩
    refine ⟨_, rfl, p, rfl, ⟨_, hS⟩, fun M hM => lc_tupT hS (sel := fun _ => true) (P := fun i y _ => y = nV (MK.maskOf (Ls.getD i []))) ⟨fun _ _ _ _ _ h => h, fun j H2 _ _ R r => r H2 (Same.refl H2), fun i H2 hi _ sm R r => ?_⟩ hM (lt_line (by omega)) (fun H2 bs sm2 hb _ pb => ?_)⟩
    · obtain ⟨m, hm, em⟩ := each (i := i) (by omega)
      obtain ⟨r0, er, hr0⟩ := paired_getD pr hi
      rw [em] at hr0 r
      have hr2 := same_seqT sm hr0
      have bn := bits_nodup m n
      have blen := bitsOf_len m n
      refine ⟨_, rfl, r0, er, ⟨_, hr2⟩, fun B2 hB2 => lc_tupT hr2 (sel := fun _ => true) (P := fun t y _ => y = nV (2 ^ (MK.bitsOf m n).getD t 0)) ⟨fun _ _ _ _ _ h => h, fun t H3 _ _ R r => r H3 (Same.refl H3), fun t H3 ht _ _ R2 r2 => ?_⟩ hB2 (lt_line (by rw [List.length_map]; omega)) (fun H3 cs sm3 hc _ pc => ?_)⟩
      · have eg := nL_getD ht
        rw [List.length_map] at ht
        have hlt : (MK.bitsOf m n).getD t 0 < n := by
          rw [List.getD_eq_getElem?_getD, List.getElem?_eq_getElem ht]
          exact (MK.mem_bitsOf.mp (List.getElem_mem ht)).1
        exact ⟨_, rfl, 1, (MK.bitsOf m n).getD t 0, rfl, eg, ⟨by omega, by decide⟩, r2 _ H3 (Same.refl H3) (by show nV (1 * 2 ^ _) = _; rw [Nat.one_mul])⟩
      · rw [filter_yes, List.length_map] at pc
        have ec : cs = (iL ((MK.bitsOf m n).map (2 ^ ·))).map V.int := by
          rw [← nL_eq, paired_map_eq pc]
          have q := congrArg (List.map fun i => nV (2 ^ i)) (map_range_get (MK.bitsOf m n) 0)
          rw [List.map_map] at q
          show _ = ((MK.bitsOf m n).map _).map nV
          rw [List.map_map]
          exact q
        rw [ec] at hc
        refine ⟨B2, _, rfl, SqL.of hc, r _ H3 sm3 ?_⟩
        rw [iL_sum, MK.maskOf_sum bn]
    · rw [filter_yes, yl] at pb
      have em : bs = nL (Ls.map MK.maskOf) := by
        rw [paired_map_eq pb]
        have q := congrArg (List.map fun g => nV (MK.maskOf g)) (map_range_get Ls [])
        rw [List.map_map] at q
        show _ = (Ls.map _).map nV
        rw [List.map_map]
        exact q
      rw [em] at hb
      have pB : (Ls.map MK.maskOf).Perm B := by
        have q := pm.map MK.maskOf
        rw [List.map_map] at q
        refine q.trans (List.Perm.of_eq ?_)
        have : B.map (MK.maskOf ∘ fun m => MK.bitsOf m n) = B.map id := List.map_congr_left fun m hm => mask_bits (hB m hm)
        rw [this, List.map_id]
      refine ⟨_, rfl, _, rfl, M, n, _, Ls.map MK.maskOf, rfl, SqL.of hb, by omega, fun m hm => within_top (hB m (pB.mem_iff.mp hm)), top_lt n, Nat.le_trans (top_pc n) (by omega), fun G hG q H3 sm3 hq0 hq => ?_⟩
      have hG2 : MK.Least G (MK.Tr B n) := ⟨hG.nd, fun x => (hG.mem x).trans (MK.MinOf.congr (fun t => MK.tr_perm (fun x => pB.mem_iff) t) x), hG.up⟩
      have gl : G.length ≤ 2 ^ n := by
        have := hG.nd.length_le_of_subset (l₂ := List.range (2 ^ n)) fun x hx => List.mem_range.mpr ((hG.mem x).mp hx).1.1
        rw [List.length_range] at this
        exact this
      have p10 : 2 ^ n ≤ 2 ^ 10 := Nat.pow_le_pow_right (by decide) hn
      refine ⟨_, rfl, q, n, G, rfl, SqL.of hq, by omega, by omega, fun q2 H4 Ls' sm4 hq2 hL pL uL => ?_⟩
      exact k G hG2 q2 H4 Ls' ((sm2.trans sm3).trans sm4) ((sm2.trans sm3).free hq2) hL pL uL
/-! ### the law's makers -/
def spLow (K : PySem.W.Frag) : Sp := fun vs H Q _ => ∃ (a : Addr) (ps : List (Option Nat)), vs = [.ref a] ∧ SqL K H a (ps.map pV) ∧ Q (pV (MK.lowS ps)) H
theorem c_law_low (D : FnAt K mg "_law_low" s_law_low) (T : Bl mg) : Cal P w K mg base 1 "_law_low" (spLow K) [] := by
  refine calOf D sc_law_low (fun _ _ _ _ _ _ us hl => match us, hl with | [_], _ => rfl) (fun vs H Q E h => ?_) (fun f cdv A outer s H vs Q E hr h => ?_)
  · obtain ⟨a, ps, rfl, _⟩ := h
    rfl
  · obtain ⟨a, ps, rfl, hS, k⟩ := h
    have nd := sc_law_low.nd
    refine ⟨_, (pss_cons (ps_set (i := 1) nd rfl (by first | exact Or.inl rfl | exact Or.inr rfl) pe_non)
      (pss_cons (ps_for PassesOwn.never rfl (piList K (pv 0)) (pg_name (i := 2) nd rfl (by first | exact Or.inl rfl | exact Or.inr rfl))
        (pss_one (ps_if (PW.pt (pw_and (pt_cmpR op_notN (pv 2) pe_non (nomark _)) (pw_and1 (PW.pt (pw_or (pt_cmpR op_isN (pv 1) pe_non (nomark _)) (pw_or1 (pt_cmpR op_lt (pv 2) (pv 1) (nomark _))))))))
          (pss_one (ps_set (i := 1) nd rfl (by first | exact Or.inl rfl | exact Or.inr rfl) (pv 2)))
          pss_nil)))
      (pss_one (ps_ret (pv 1))))), ?_⟩
    refine ⟨_, rfl, a, rfl, ⟨_, hS⟩, ?_⟩
    refine for_list (xs := ps.map pV) (fun i σ' H' => ∃ c2 : Option V, σ' = [some (.ref a), some (pV (MK.lowS (ps.take i))), c2] ∧ H' = H) ⟨none, rfl, rfl⟩ (fun i σ' H' _ ⟨_, _, e⟩ => by rw [e]; exact hS) (fun i x σ' H' hx hp => ?_) (fun σ' H' hp => ?_)
    · obtain ⟨c2, rfl, rfl⟩ := hp
      obtain ⟨p, hp, rfl⟩ := map_get hx
      have et : MK.lowS (ps.take (i + 1)) = MK.lowStep (MK.lowS (ps.take i)) p := by
        rw [take_snoc hp]
        unfold MK.lowS
        rw [List.foldl_append]
        rfl
      rw [et]
      generalize MK.lowS (ps.take i) = b
      refine ⟨_, rfl, rfl, _, rfl, ?_⟩
      cases p with
      | none =>
        refine ite2 (fun h => absurd h notn_none) (fun _ => ?_)
        refine ⟨some (pV none), ?_, rfl⟩
        cases b <;> rfl
      | some x =>
        refine ite2 (fun _ => ⟨_, rfl, rfl, _, rfl, ?_⟩) (fun h => absurd notn_some h)
        cases b with
        | none => exact ite2 (fun _ => ⟨_, rfl, ⟨_, rfl, rfl⟩⟩) (fun h => absurd isn_none h)
        | some y =>
          refine ite2 (fun h => absurd h isn_some) (fun _ => ⟨_, rfl, _, rfl, x, y, rfl, rfl, _, rfl, ?_⟩)
          have e : MK.lowStep (some y) (some x) = if x < y then some x else some y := rfl
          rw [e]
          by_cases h : x < y
          · rw [if_pos h]
            exact ite2 (fun _ => ⟨_, rfl, ⟨_, rfl, rfl⟩⟩) (fun n => absurd (decide_eq_true (by omega)) n)
          · rw [if_neg h]
            exact ite2 (fun n => absurd (of_decide_eq_true n) (by omega)) (fun _ => ⟨_, rfl, rfl⟩)
    · obtain ⟨c2, rfl, rfl⟩ := hp
      rw [List.length_map, List.take_length]
      exact ⟨_, rfl, k⟩
def spCost : Sp := fun vs H Q _ => ∃ (d c : Addr), vs = [.ref d] ∧ Dr H d c ∧ ∀ (n : Nat) H', n ≤ 1000 → Dr H' d c → Kp d H H' → Q (nV n) H'
theorem c_law_cost (D : FnAt K mg "_law_cost" s_law_cost) (T : Bl mg) (c_law_rare : Cal P w K mg base 2 "_law_rare" spRare []) (c_law_draw : Cal P w K mg base 1 "_law_draw" spDraw []) : Cal P w K mg base 3 "_law_cost" spCost [] := by
  refine calOf D sc_law_cost (fun _ _ _ _ _ _ us hl => match us, hl with | [_], _ => rfl) (fun vs H Q E h => ?_) (fun f cdv A outer s H vs Q E hr h => ?_)
  · obtain ⟨d, c, rfl, _⟩ := h
    rfl
  · obtain ⟨d, c, rfl, D, k⟩ := h
    refine ⟨_, (pss_cons (ps_if (pt_val (pe_c c_law_rare hr (by decide) (by rfl) (pa_cons (pv 0) (pa_cons pe_int pa_nil))))
        (pss_one (ps_ret (pe_c c_law_draw hr (by decide) (by rfl) (pa_cons (pv 0) (pa_cons pe_int pa_nil)))))
        pss_nil)
      (pss_one (ps_ret (pe_c c_law_draw hr (by decide) (by rfl) (pa_cons (pv 0) (pa_cons pe_int pa_nil)))))), ?_⟩
    refine ⟨_, rfl, d, c, 11, rfl, D, by decide, by decide, fun b H1 D1 kp1 => ⟨b, rfl, ite2 (fun _ => ?_) (fun _ => ?_)⟩⟩
    · exact ⟨_, rfl, d, c, 1001, rfl, D1, by decide, by decide, fun n H2 hn D2 kp2 => k n H2 (by omega) D2 (kp1.trans kp2)⟩
    · exact ⟨_, rfl, d, c, 6, rfl, D1, by decide, by decide, fun n H2 hn D2 kp2 => k n H2 (by omega) D2 (kp1.trans kp2)⟩
def PrOk (ps : List (Option Nat)) : Prop := ∀ p ∈ ps, ∀ m, p = some m → m ≤ 1000
def spOpened : Sp := fun vs H Q _ => ∃ (d c a : Addr) (ps : List (Option Nat)), vs = [.ref d, .ref a] ∧ Dr H d c ∧ H a = some (.lst (ps.map pV)) ∧ a ≠ d ∧ a ≠ c ∧ 0 < ps.length ∧ ps.length ≤ 16 ∧ PrOk ps ∧
  ∀ (ps' : List (Option Nat)) H', ps'.length = ps.length → PrOk ps' → (∃ p ∈ ps', p.isSome = true) → Dr H' d c → H' a = some (.lst (ps'.map pV)) → (∀ b o, H b = some o → b ≠ d → b ≠ a → H' b = some o) → Q (.ref a) H'
theorem c_law_opened (D : FnAt K mg "_law_opened" s_law_opened) (T : Bl mg) (c_law_low : Cal P w K mg base 1 "_law_low" (spLow K) []) (c_law_cost : Cal P w K mg base 3 "_law_cost" spCost []) (c_law_draw : Cal P w K mg base 1 "_law_draw" spDraw []) : Cal P w K mg base 4 "_law_opened" spOpened [] := by
  refine calOf D sc_law_opened (fun _ _ _ _ _ _ us hl => match us, hl with | [_, _], _ => rfl) (fun vs H Q E h => ?_) (fun f cdv A outer s H vs Q E hr h => ?_)
  · obtain ⟨d, c, a, ps, rfl, _⟩ := h
    rfl
  · obtain ⟨d, c, a, ps, rfl, D, ha, nad, nac, h0, h16, ok, k⟩ := h
    refine ⟨_, (pss_cut (ps_if (pt_cmpR op_isN (pe_c c_law_low hr (by decide) (by rfl) (pa_cons (pv 1) pa_nil)) pe_non (nomark _))
        (pss_one (ps_asg (pe_c c_law_cost hr (by decide) (by rfl) (pa_cons (pv 0) pa_nil)) (pg_sub (pv 1) (pe_c c_law_draw hr (by decide) (by rfl) (pa_cons (pv 0) (pa_cons (pe_callB (crLen K) (by rfl) T.b_len (by decide +kernel) (pa_cons (pv 1) pa_nil)) pa_nil))) set_list)))
        pss_nil)
      (pss_one (ps_ret (pv 1)))), ?_⟩
    refine ⟨fun σ' H' => σ' = [some (.ref d), some (.ref a)] ∧ ∃ ps', ps'.length = ps.length ∧ PrOk ps' ∧ (∃ p ∈ ps', p.isSome = true) ∧ Dr H' d c ∧ H' a = some (.lst (ps'.map pV)) ∧ (∀ b o, H b = some o → b ≠ d → b ≠ a → H' b = some o), ?_, ?_⟩
    · refine ⟨_, rfl, a, ps, rfl, SqL.of ha, rfl, _, rfl, ite2 (fun hn => ?_) (fun hn => ?_)⟩
      · refine ⟨_, rfl, d, c, rfl, D, fun n H1 hn1 D1 kp1 => ?_⟩
        have ha1 := kp1 _ _ ha nad
        refine ⟨_, rfl, _, rfl, _, rfl, a, _, rfl, .inl (SqL.of ha1), d, c, (ps.length : Int), by rw [List.length_map]; rfl, D1, by omega, by omega, fun j H2 hj D2 kp2 => ?_⟩
        have ha2 := kp2 _ _ ha1 nad
        have hj' : j < ps.length := by omega
        refine ⟨a, _, (j : Int), j, rfl, rfl, ha2, ixN_lt (by rw [List.length_map]; exact hj'), rfl, ps.set j (some n), by rw [List.length_set], fun p hp m hm => ?_, ⟨some n, List.mem_of_getElem? (List.getElem?_set_self hj'), rfl⟩, D2.put nad nac, ?_, fun b o e n1 n2 => ?_⟩
        · rcases List.mem_or_eq_of_mem_set hp with z | z
          · exact ok p z m hm
          · rw [z] at hm
            cases hm
            exact hn1
        · rw [upd_same, List.map_set]
          rfl
        · rw [upd_ne n2]
          exact kp2 _ _ (kp1 _ _ e n1) n1
      · refine ⟨rfl, ps, rfl, ok, MK.lowS_some.mp ?_, D, ha, fun b o e _ _ => e⟩
        cases e : MK.lowS ps with
        | none => rw [e] at hn; exact absurd isn_none hn
        | some x => rfl
    · rintro σ' H' ⟨rfl, ps', l, o, e, D', h, kp⟩
      exact ⟨_, rfl, k ps' H' l o e D' h kp⟩
end
end L2.KK
namespace L2.KK
open PySem PySem.Spec PyProof.Rows C8
theorem sc_law_loose : FnScope ["d", "places", "barred", "prices", "number", "bar"] ["d", "places", "barred"] (defScope s_law_loose) := ⟨rfl, rfl, rfl, by decide +kernel, rfl, by decide +kernel, by decide +kernel⟩
theorem sc_law_use_price : FnScope ["tables", "use", "filling", "number", "name"] ["tables", "use", "filling"] (defScope s_law_use_price) := ⟨rfl, rfl, rfl, by decide +kernel, rfl, by decide +kernel, by decide +kernel⟩
theorem sc_law_open_masks : FnScope ["tables", "uses", "many", "found", "use", "mask", "number", "filling"] ["tables", "uses", "many"] (defScope s_law_open_masks) := ⟨rfl, rfl, rfl, by decide +kernel, rfl, by decide +kernel, by decide +kernel⟩
theorem sc_law_left : FnScope ["masks", "lot", "many", "left", "spot"] ["masks", "lot", "many"] (defScope s_law_left) := ⟨rfl, rfl, rfl, by decide +kernel, rfl, by decide +kernel, by decide +kernel⟩
theorem kpd_seqT {K : PySem.W.Frag} {H H' : Hp} {d c a : Addr} {xs : List V} (D : Dr H d c) (k : Kp d H H') (h : SqT K H a xs) : SqT K H' a xs := by
  obtain ⟨_, _, _, _, hd, _⟩ := D.ex
  rcases h with h | h
  · rcases h with h | ⟨o, h⟩
    · exact .inl (.inl (k _ _ h fun z => by rw [z, hd] at h; cases h))
    · exact .inl (.inr ⟨o, k _ _ h fun z => by rw [z, hd] at h; cases h⟩)
  · exact .inr h
/-- the law's table -/
def LTR (K : PySem.W.Frag) (H : Hp) (y : V) (t : Tb) : Prop := ∃ p q, y = .ref p ∧ SqT K H p [nV t.1, .ref q] ∧ SqT K H q (t.2.map pV)
theorem LTR.grow {K : PySem.W.Frag} {H H' : Hp} {y : V} {t : Tb} (h : LTR K H y t) (e : Same H H') : LTR K H' y t := by
  obtain ⟨p, q, h1, h2, h3⟩ := h
  exact ⟨p, q, h1, same_seqT e h2, same_seqT e h3⟩
theorem LTR.kpd {K : PySem.W.Frag} {H H' : Hp} {d c : Addr} {y : V} {t : Tb} (h : LTR K H y t) (D : Dr H d c) (e : Kp d H H') : LTR K H' y t := by
  obtain ⟨p, q, h1, h2, h3⟩ := h
  exact ⟨p, q, h1, kpd_seqT D e h2, kpd_seqT D e h3⟩
theorem UseR.kpd {K : PySem.W.Frag} {H H' : Hp} {d c : Addr} {y : V} {u : Us} (h : UseR K H y u) (D : Dr H d c) (e : Kp d H H') : UseR K H' y u := by
  obtain ⟨p, q, h1, h2, h3⟩ := h
  exact ⟨p, q, h1, kpd_seqT D e h2, kpd_seqT D e h3⟩
def LTs (K : PySem.W.Frag) (H : Hp) (tl : Addr) (tbs : List Tb) : Prop := ∃ ys, H tl = some (.lst ys) ∧ Paired (LTR K H) ys tbs
theorem LTs.kpd {K : PySem.W.Frag} {H H' : Hp} {d c tl : Addr} {tbs : List Tb} (h : LTs K H tl tbs) (n : tl ≠ d) (D : Dr H d c) (e : Kp d H H') : LTs K H' tl tbs := by
  obtain ⟨ys, h1, h2⟩ := h
  exact ⟨ys, e _ _ h1 n, Paired.mapP h2 fun _ _ q => q.kpd D e⟩
theorem LTs.grow {K : PySem.W.Frag} {H H' : Hp} {tl : Addr} {tbs : List Tb} (h : LTs K H tl tbs) (e : Same H H') : LTs K H' tl tbs := by
  obtain ⟨ys, h1, h2⟩ := h
  exact ⟨ys, e _ _ h1, Paired.mapP h2 fun _ _ q => q.grow e⟩
section
variable {P : Program} {w : World} {K : PySem.W.Frag} {mg : Str → Option Value} {base : Heap}
def spLoose (K : PySem.W.Frag) : Sp := fun vs H Q _ => ∃ (d c : Addr) (pl bar : Nat), vs = [.ref d, nV pl, nV bar] ∧ Dr H d c ∧ 1 ≤ pl ∧ pl ≤ 4 ∧ ∀ p q ps H', TbOk (pl, ps) → H p = none → H' p = some (.tup [nV pl, .ref q]) → H' q = some (.tup (ps.map pV)) → Dr H' d c → Kp d H H' → Q (.ref p) H'
theorem c_law_loose (D : FnAt K mg "_law_loose" s_law_loose) (T : Bl mg) (c_law_draw : Cal P w K mg base 1 "_law_draw" spDraw []) (c_law_cost : Cal P w K mg base 3 "_law_cost" spCost []) (c_law_opened : Cal P w K mg base 4 "_law_opened" spOpened []) : Cal P w K mg base 5 "_law_loose" (spLoose K) [] := by
  refine calOf D sc_law_loose (fun _ _ _ _ _ _ us hl => match us, hl with | [_, _, _], _ => rfl) (fun vs H Q E h => ?_) (fun f cdv A outer s H vs Q E hr h => ?_)
  · obtain ⟨d, c, pl, bar, rfl, _⟩ := h
    rfl
  · obtain ⟨d, c, pl, bar, rfl, D, h1, h4, k⟩ := h
    have nd := sc_law_loose.nd
    have p16 : 2 ^ pl ≤ 2 ^ 4 := Nat.pow_le_pow_right (by decide) h4
    have p0 := Nat.two_pow_pos pl
    refine ⟨_, (pss_cons (ps_set (i := 3) nd rfl (by first | exact Or.inl rfl | exact Or.inr rfl) (pe_lst pa_nil))
      (pss_cons (ps_for PassesOwn.never rfl (pi_range1 (by rfl) T.b_range (pa_cons (pe_op op_shlNN pe_int (pv 1)) pa_nil)) (pg_name (i := 4) nd rfl (by first | exact Or.inl rfl | exact Or.inr rfl))
        (pss_cons (ps_set (i := 5) nd rfl (by first | exact Or.inl rfl | exact Or.inr rfl) (pe_cmpR op_lt (pe_c c_law_draw hr (by decide) (by rfl) (pa_cons (pv 0) (pa_cons pe_int pa_nil))) (pv 2) (nomark _)))
        (pss_one (ps_expr (pe_bm PySem.F.plainAttrs_list PySem.F.slot_list_append PySem.F.type_list_append mt_append (pv 3) (pa_cons (pe_ifExp (pt_val (pv 5)) pe_non (pe_c c_law_cost hr (by decide) (by rfl) (pa_cons (pv 0) pa_nil))) pa_nil))))))
      (pss_one (ps_ret (pe_tup (pa_cons (pv 1) (pa_cons (pe_callTy (crTup K) (by rfl) T.b_tuple (by decide +kernel) (pa_cons (pe_c c_law_opened hr (by decide) (by rfl) (pa_cons (pv 0) (pa_cons (pv 3) pa_nil))) pa_nil)) pa_nil))))))), ?_⟩
    refine ⟨Nat.zero_le _, fun a ha => ?_⟩
    obtain ⟨nad, nac⟩ := D.ne ha
    refine ⟨_, rfl, 1, pl, rfl, rfl, ⟨by omega, by decide⟩, _, rfl, by omega, by omega, ?_⟩
    rw [Int.toNat_natCast, Nat.one_mul]
    refine for_range (lo := 0) (n := 2 ^ pl) (fun i σ' H' => ∃ (ps : List (Option Nat)) (c4 c5 : Option V), σ' = [some (.ref d), some (nV pl), some (nV bar), some (.ref a), c4, c5] ∧ H' a = some (.lst (ps.map pV)) ∧ ps.length = i ∧ PrOk ps ∧ Dr H' d c ∧ Kp d H H')
      ⟨[], none, none, rfl, upd_same, rfl, fun p hp => (nomatch hp), D.put nad nac, (Kp.refl d H).new ha⟩ ?_ ?_
    · rintro i σ' H1 hi ⟨ps, c4, c5, rfl, e1, l1, ok, D1, kp1⟩
      refine ⟨_, rfl, d, c, 8, rfl, D1, by decide, by decide, fun n H2 hn D2 kp2 => ⟨_, rfl, n, bar, rfl, rfl, ?_⟩⟩
      have e2 := kp2 _ _ e1 nad
      refine ⟨_, rfl, .inl ⟨rfl, _, SqL.of e2⟩, _, rfl, _, rfl, ?_⟩
      have fin : ∀ (o : Option Nat) (H3 : Hp), (∀ m, o = some m → m ≤ 1000) → H3 a = some (.lst (ps.map pV)) → Dr H3 d c → Kp d H H3 → ∃ l xs v, V.ref a = .ref l ∧ [pV o] = [v] ∧ H3 l = some (.lst xs) ∧ xs.length < sizeLine ∧
          ∃ (ps' : List (Option Nat)) (c4 c5 : Option V), [some (V.ref d), some (nV pl), some (nV bar), some (.ref a), some (.int (0 + (i : Int))), some (.bl (decide ((n : Int) < (bar : Int))))] = [some (.ref d), some (nV pl), some (nV bar), some (.ref a), c4, c5] ∧
            (upd H3 l (.lst (xs ++ [v]))) a = some (.lst (ps'.map pV)) ∧ ps'.length = i + 1 ∧ PrOk ps' ∧ Dr (upd H3 l (.lst (xs ++ [v]))) d c ∧ Kp d H (upd H3 l (.lst (xs ++ [v]))) := fun o H3 ho e3 D3 kp3 => by
        refine ⟨a, _, _, rfl, rfl, e3, Nat.lt_of_le_of_lt (show (ps.map pV).length ≤ 16 by rw [List.length_map]; omega) (by decide), ps ++ [o], _, _, rfl, by rw [upd_same, List.map_append]; rfl, by rw [List.length_append, l1]; rfl, fun p hp m hm => ?_, D3.put nad nac, kp3.new ha⟩
        rcases List.mem_append.mp hp with z | z
        · exact ok p z m hm
        · rw [List.mem_singleton.mp z] at hm
          exact ho m hm
      refine ite2 (fun _ => ?_) (fun _ => ?_)
      · obtain ⟨l, xs, v, e1', e2', e3', lt, r⟩ := fin none H2 (fun m h => (nomatch h)) e2 D2 (kp1.trans kp2)
        exact ⟨l, xs, v, e1', e2', e3', lt, r⟩
      · refine ⟨_, rfl, d, c, rfl, D2, fun m H3 hm D3 kp3 => ?_⟩
        obtain ⟨l, xs, v, e1', e2', e3', lt, r⟩ := fin (some m) H3 (fun m' h => by cases h; exact hm) (kp3 _ _ e2 nad) D3 ((kp1.trans kp2).trans kp3)
        exact ⟨l, xs, v, e1', e2', e3', lt, r⟩
    · rintro σ' H1 ⟨ps, c4, c5, rfl, e1, l1, ok, D1, kp1⟩
      refine ⟨_, rfl, _, rfl, _, rfl, d, c, a, ps, rfl, D1, e1, nad, nac, by omega, by omega, ok, fun ps' H2 l2 ok2 ex D2 e2 kp2 => ⟨a, _, rfl, .inl ⟨SqL.of e2, fun q hq => ?_⟩⟩⟩
      have sm1 := same_new (o := .tup (ps'.map pV)) hq
      refine ⟨by show 2 ≤ sizeLine; decide, fun p hp => ?_⟩
      have sm2 := same_new (o := .tup [nV pl, .ref q]) hp
      have kp3 : Kp d H H2 := fun b o e n => kp2 _ _ (kp1 _ _ e n) n (ne_of_none e ha)
      have hp0 : H p = none := by
        cases e : H p with
        | none => rfl
        | some o =>
          by_cases z : p = d
          · obtain ⟨_, _, _, _, hd, _⟩ := D2.ex
            have := (sm1 _ _ hd)
            rw [← z, hp] at this
            cases this
          · have := sm1 _ _ (kp3 _ _ e z)
            rw [hp] at this
            cases this
      exact k p q ps' _ ⟨h1, h4, by rw [l2, l1], ex, ok2⟩ hp0 upd_same (sm2 _ _ upd_same) ((D2.keep sm1).keep sm2) (kp3.trans (Kp.of (sm1.trans sm2)))
def spUsePr (K : PySem.W.Frag) : Sp := fun vs H Q _ => ∃ (tl r fr : Addr) (tbs : List Tb) (u : Us) (many : Nat) (fill : List Nat), vs = [.ref tl, .ref r, .ref fr] ∧ LTs K H tl tbs ∧ UseR K H (.ref r) u ∧ SqT K H fr (nL fill) ∧ fill.length = many ∧ (∀ b ∈ fill, b ≤ 1) ∧ (∀ t ∈ tbs, TbOk t) ∧ UseOk tbs many u ∧
  Q (pV (((usTab tbs u).2.getD (MK.chosen u.names fill) none).map (· * u.times))) H
theorem c_law_use_price (D : FnAt K mg "_law_use_price" s_law_use_price) (T : Bl mg) (c_law_times : Cal P w K mg base 1 "_law_times" spTimes []) : Cal P w K mg base 2 "_law_use_price" (spUsePr K) [] := by
  refine calOf D sc_law_use_price (fun _ _ _ _ _ _ us hl => match us, hl with | [_, _, _], _ => rfl) (fun vs H Q E h => ?_) (fun f cdv A outer s H vs Q E hr h => ?_)
  · obtain ⟨tl, r, fr, tbs, u, many, fill, rfl, _⟩ := h
    rfl
  · obtain ⟨tl, r, fr, tbs, u, many, fill, rfl, ⟨ys, htl, pT⟩, ⟨r', nr, er, hr1, hn⟩, hf, fl, fb, okT, ⟨t, ht, t1, t2, nl, nm⟩, k⟩ := h
    have nd := sc_law_use_price.nd
    cases er
    obtain ⟨yl, ya⟩ := paired_at pT
    have ot := okT t (List.mem_of_getElem? ht)
    have hlt := (List.getElem?_eq_some_iff.mp ht).1
    have hy : ys[u.at_]? = some (ys[u.at_]'(by omega)) := List.getElem?_eq_getElem (by omega)
    obtain ⟨t', ht', p, q, ep, hp, hq⟩ := ya _ _ hy
    rw [ht] at ht'
    cases ht'
    have eT : usTab tbs u = t := by
      unfold usTab
      rw [List.getD_eq_getElem?_getD, ht]
      rfl
    rw [eT] at k
    refine ⟨_, (pss_cons (ps_set (i := 3) nd rfl (by first | exact Or.inl rfl | exact Or.inr rfl) pe_int)
      (pss_cons (ps_for PassesOwn.never rfl (piTup K (pe_ix (ixT K) (pv 1) pe_int (fun _ _ => rfl))) (pg_name (i := 4) nd rfl (by first | exact Or.inl rfl | exact Or.inr rfl))
        (pss_one (ps_set (i := 3) nd rfl (by first | exact Or.inl rfl | exact Or.inr rfl) (pe_op op_addNN (pe_op op_mulNN (pv 3) pe_int) (pe_ix (ixT K) (pv 2) (pv 4) (fun _ _ => rfl))))))
      (pss_one (ps_ret (pe_c c_law_times hr (by decide) (by rfl) (pa_cons (pe_ix (ixT K) (pe_ix (ixT K) (pe_ix (ixL K) (pv 0) (pe_ix (ixT K) (pv 1) pe_int (fun _ _ => rfl)) (fun _ _ => rfl)) pe_int (fun _ _ => rfl)) (pv 3) (fun _ _ => rfl)) (pa_cons (pe_ix (ixT K) (pv 1) pe_int (fun _ _ => rfl)) pa_nil))))))), ?_⟩
    refine ⟨_, rfl, r, _, (1 : Int), .ref nr, rfl, rfl, hr1, rfl, nr, rfl, ⟨_, hn⟩, ?_⟩
    refine for_tup (xs := nL u.names) (fun i σ' H' => ∃ c4 : Option V, σ' = [some (.ref tl), some (.ref r), some (.ref fr), some (nV (MK.chosen (u.names.take i) fill)), c4] ∧ H' = H) ⟨none, rfl, rfl⟩ (fun i σ' H' _ ⟨_, _, e⟩ => by rw [e]; exact hn) (fun i x σ' H' hx hp => ?_) (fun σ' H' hp => ?_)
    · obtain ⟨c3, rfl, rfl⟩ := hp
      obtain ⟨n, hn', rfl⟩ := map_get hx
      have hlt := nm n (List.mem_of_getElem? hn')
      have et : MK.chosen (u.names.take (i + 1)) fill = MK.chosen (u.names.take i) fill * 2 + fill.getD n 0 := by
        rw [take_snoc hn']
        unfold MK.chosen
        rw [List.foldl_append]
        rfl
      rw [et]
      generalize MK.chosen (u.names.take i) fill = m
      refine ⟨_, rfl, m, 2, rfl, rfl, .inr (by decide), _, rfl, _, rfl, fr, nL fill, n, nV (fill.getD n 0), rfl, rfl, hf, atI_nat ?_, _, _, rfl, rfl, ⟨_, rfl, rfl⟩⟩
      rw [List.getElem?_map, List.getD_eq_getElem?_getD, List.getElem?_eq_getElem (by omega)]
      rfl
    · obtain ⟨c3, rfl, rfl⟩ := hp
      rw [List.length_map, List.take_length]
      have cl := MK.chosen_lt (names := u.names) fb
      rw [nl, ← ot.2.2.1] at cl
      refine ⟨_, rfl, _, rfl, r, _, (0 : Int), nV u.at_, rfl, rfl, hr1, rfl, tl, ys, (u.at_ : Int), _, rfl, rfl, SqL.of htl, atI_nat hy, p, _, (1 : Int), .ref q, ep, rfl, hp, rfl, _, rfl, q, _, ((MK.chosen u.names fill : Nat) : Int), pV (t.2.getD (MK.chosen u.names fill) none), rfl, rfl, hq, atI_nat ?_, _, rfl, r, _, (2 : Int), nV u.times, rfl, rfl, hr1, rfl, _, u.times, rfl, fun v hv => ?_, k⟩
      · rw [List.getElem?_map, List.getD_eq_getElem?_getD, List.getElem?_eq_getElem cl]
        rfl
      · rw [List.getD_eq_getElem?_getD, List.getElem?_eq_getElem cl] at hv
        have := ot.2.2.2.2 _ (List.getElem_mem cl) v hv
        omega
def spLOpen (K : PySem.W.Frag) : Sp := fun vs H Q _ => ∃ (tl tu : Addr) (many : Nat) (tbs : List Tb) (ys : List V) (us : List Us), vs = [.ref tl, .ref tu, nV many] ∧ LTs K H tl tbs ∧ SqT K H tu ys ∧ Paired (UseR K H) ys us ∧ UsesOk tbs many us ∧ us.length ≤ 1000 ∧ many ≤ 12 ∧ NewL H Q (nL (omL tbs many us))
theorem c_law_open_masks (D : FnAt K mg "_law_open_masks" s_law_open_masks) (T : Bl mg) (c_law_rows : Cal P w K mg base 2 "_law_rows" spRows []) (c_law_use_price : Cal P w K mg base 2 "_law_use_price" (spUsePr K) []) : Cal P w K mg base 3 "_law_open_masks" (spLOpen K) [] := by
  refine calOf D sc_law_open_masks (fun _ _ _ _ _ _ us hl => match us, hl with | [_, _, _], _ => rfl) (fun vs H Q E h => ?_) (fun f cdv A outer s H vs Q E hr h => ?_)
  · obtain ⟨tl, tu, many, tbs, ys, us, rfl, _⟩ := h
    rfl
  · obtain ⟨tl, tu, many, tbs, ys, us, rfl, hT, hU, pU, ok, hl, hm, k⟩ := h
    have nd := sc_law_open_masks.nd
    obtain ⟨yl, ya⟩ := paired_at pU
    have p12 : 2 ^ many ≤ 2 ^ 12 := Nat.pow_le_pow_right (by decide) hm
    refine ⟨_, (pss_cons (ps_set (i := 3) nd rfl (by first | exact Or.inl rfl | exact Or.inr rfl) (pe_lst pa_nil))
      (pss_cons (ps_for PassesOwn.never rfl (piTup K (pv 1)) (pg_name (i := 4) nd rfl (by first | exact Or.inl rfl | exact Or.inr rfl))
        (pss_cons (ps_set (i := 5) nd rfl (by first | exact Or.inl rfl | exact Or.inr rfl) pe_int)
        (pss_cons (ps_for PassesOwn.never rfl (pi_enum (by rfl) T.b_enumerate (pa_cons (pe_c c_law_rows hr (by decide) (by rfl) (pa_cons (pv 2) pa_nil)) pa_nil)) (pgTup K rfl (pgs_cons (pg_name (i := 6) nd rfl (by first | exact Or.inl rfl | exact Or.inr rfl)) (pgs_cons (pg_name (i := 7) nd rfl (by first | exact Or.inl rfl | exact Or.inr rfl)) pgs_nil)))
          (pss_one (ps_if (pt_cmpR op_notN (pe_c c_law_use_price hr (by decide) (by rfl) (pa_cons (pv 0) (pa_cons (pv 4) (pa_cons (pv 7) pa_nil)))) pe_non (nomark _))
            (pss_one (ps_set (i := 5) nd rfl (by first | exact Or.inl rfl | exact Or.inr rfl) (pe_op op_orN (pv 5) (pe_op op_shlNN pe_int (pv 6)))))
            pss_nil)))
        (pss_one (ps_expr (pe_bm PySem.F.plainAttrs_list PySem.F.slot_list_append PySem.F.type_list_append mt_append (pv 3) (pa_cons (pv 5) pa_nil)))))))
      (pss_one (ps_ret (pv 3))))), ?_⟩
    refine ⟨Nat.zero_le _, fun fd hfd => ?_⟩
    have sm0 := same_new (o := .lst []) hfd
    refine ⟨_, rfl, tu, rfl, ⟨_, same_seqT sm0 hU⟩, ?_⟩
    refine for_tup (xs := ys) (fun i σ' H' => ∃ c4 c5 c6 c7 : Option V, σ' = [some (.ref tl), some (.ref tu), some (nV many), some (.ref fd), c4, c5, c6, c7] ∧ Same H H' ∧ H' fd = some (.lst (nL ((omL tbs many us).take i))))
      ⟨none, none, none, none, rfl, sm0, upd_same⟩ (fun i σ' H' _ ⟨_, _, _, _, _, sm, _⟩ => same_seqT sm hU) (fun i x σ' H' hx hp => ?_) (fun σ' H' hp => ?_)
    · obtain ⟨c4, c5, c6, c7, rfl, sm, e⟩ := hp
      obtain ⟨u, hu, hR⟩ := ya i x hx
      have oku := ok.2 u (List.mem_of_getElem? hu)
      obtain ⟨r, nr, er, _, _⟩ := id hR
      refine ⟨_, rfl, many, rfl, by omega, fun sl H2 rs sm2 hsl hs prs => ?_⟩
      obtain ⟨rl, ra⟩ := paired_at prs
      rw [List.length_range] at rl
      refine ⟨sl, _, rfl, SqL.of hs, ?_⟩
      refine for_it walk_enum (fun n σ2 H3 => ∃ c6 c7 : Option V, σ2 = [some (.ref tl), some (.ref tu), some (nV many), some (.ref fd), some x, some (nV (MK.maskF (usPr tbs many u) n)), c6, c7] ∧ Same H2 H3)
        ⟨c6, c7, rfl, Same.refl _⟩ (fun n σ2 H3 _ ⟨_, _, _, sm⟩ => SqL.of (sm _ _ hs)) (fun n z σ2 H3 H4 hn hp y => ?_) (fun σ2 H3 hp => ?_)
      · obtain ⟨c6, c7, rfl, sm3⟩ := hp
        obtain ⟨Tt, x1, x2, rfl, hTt, rfl, e1, e2⟩ := y
        cases e1
        obtain ⟨m, hm', tr, etr, htr⟩ := ra n x2 e2
        rw [List.getElem?_range (by omega)] at hm'
        cases hm'
        have sm4 : Same H2 (upd H3 Tt (.tup [.int (n : Int), x2])) := sm3.trans (same_new hTt)
        have smA := (sm.trans sm2).trans sm4
        refine ⟨Tt, _, rfl, .inl (.inl upd_same), rfl, _, _, rfl, _, _, rfl, rfl, ?_⟩
        rw [MK.maskF_succ]
        refine ⟨_, rfl, _, rfl, _, rfl, tl, r, tr, tbs, u, many, MK.rowL n many, by rw [er, etr]; rfl, hT.grow smA, by rw [← er]; exact hR.grow smA, .inl (.inl (sm4 _ _ htr)), MK.rowL_len n many, MK.rowL_le n many, ok.1, oku, rfl, _, rfl, ?_⟩
        show if (!decide (pV (usPr tbs many u n) = V.non)) = true then _ else _
        cases hv : usPr tbs many u n with
        | none => exact ite2 (fun h => absurd h notn_none) (fun _ => ⟨_, _, rfl, sm4⟩)
        | some v =>
          refine ite2 (fun _ => ?_) (fun h => absurd notn_some h)
          refine ⟨_, rfl, _, rfl, 1, n, rfl, rfl, ⟨by omega, by decide⟩, _, _, rfl, rfl, ⟨some (.int (n : Int)), some x2, ?_, sm4⟩⟩
          show [some (V.ref tl), some (V.ref tu), some (nV many), some (V.ref fd), some x, some (nV (MK.maskF (usPr tbs many u) n ||| 1 * 2 ^ n)), _, _] = _
          rw [Nat.one_mul]
          rfl
      · obtain ⟨c6, c7, rfl, sm3⟩ := hp
        rw [rl]
        have e2 := sm3 _ _ (sm2 _ _ e)
        refine ⟨_, rfl, .inl ⟨rfl, _, SqL.of e2⟩, _, rfl, fd, _, _, rfl, rfl, e2, ?_, ?_⟩
        · rw [List.length_map, List.length_take]
          exact Nat.lt_of_le_of_lt (show _ ≤ 1000 by have : (omL tbs many us).length = us.length := List.length_map _; omega) (by decide)
        · refine ⟨_, _, _, _, rfl, same_fresh ((sm.trans sm2).trans sm3) hfd, ?_⟩
          rw [upd_same, take_snoc (x := openM tbs many u) (by rw [List.getElem?_map, hu]; rfl), nL_append]
          rfl
    · obtain ⟨c4, c5, c6, c7, rfl, sm, e⟩ := hp
      have el : (omL tbs many us).length = ys.length := by rw [List.length_map, yl]
      rw [← el, List.take_length] at e
      exact ⟨_, rfl, k fd H' sm hfd e⟩
theorem c_law_left (D : FnAt K mg "_law_left" s_law_left) (T : Bl mg) : Cal P w K mg base 1 "_law_left" (spLeft K) [] := by
  refine calOf D sc_law_left (fun _ _ _ _ _ _ us hl => match us, hl with | [_, _, _], _ => rfl) (fun vs H Q E h => ?_) (fun f cdv A outer s H vs Q E hr h => ?_)
  · obtain ⟨a, ms, lot, many, rfl, _⟩ := h
    rfl
  · obtain ⟨a, ms, lot, many, rfl, ha, hl, hm, k⟩ := h
    have nd := sc_law_left.nd
    have p12 : 2 ^ many ≤ 2 ^ 12 := Nat.pow_le_pow_right (by decide) hm
    have p1 := Nat.two_pow_pos (2 ^ many)
    have nl : (nL ms).length = ms.length := List.length_map _
    refine ⟨_, (pss_cons (ps_set (i := 3) nd rfl (by first | exact Or.inl rfl | exact Or.inr rfl) (pe_op op_subNN (pe_op op_shlNN pe_int (pe_op op_shlNN pe_int (pv 2))) pe_int))
      (pss_cons (ps_for PassesOwn.never rfl (pi_range1 (by rfl) T.b_range (pa_cons (pe_callB (crLen K) (by rfl) T.b_len (by decide +kernel) (pa_cons (pv 0) pa_nil)) pa_nil)) (pg_name (i := 4) nd rfl (by first | exact Or.inl rfl | exact Or.inr rfl))
        (pss_one (ps_if (pt_cmpR op_eq (pe_op op_andN (pe_op op_shrNN (pv 1) (pv 4)) pe_int) pe_int (nomark _))
          (pss_one (ps_set (i := 3) nd rfl (by first | exact Or.inl rfl | exact Or.inr rfl) (pe_op op_andN (pv 3) (pe_ix (ixL K) (pv 0) (pv 4) (fun _ _ => rfl)))))
          pss_nil)))
      (pss_one (ps_ret (pv 3))))), ?_⟩
    refine ⟨_, rfl, 1, many, rfl, rfl, ⟨by omega, by decide⟩, 1, _, rfl, rfl, ⟨by omega, by decide⟩, _, 1, rfl, rfl, by rw [Nat.one_mul, Nat.one_mul]; omega, ?_⟩
    refine ⟨_, rfl, a, _, rfl, .inl ha, _, rfl, by omega, by omega, ?_⟩
    rw [Int.toNat_natCast, nl]
    refine for_range (lo := 0) (n := ms.length) (fun i σ' H' => ∃ c4 : Option V, σ' = [some (.ref a), some (nV lot), some (nV many), some (nV ((((List.range i).filter fun j => lot.testBit j)).foldl (fun l s => l &&& ms.getD s 0) (2 ^ 2 ^ many - 1))), c4] ∧ H' = H)
      ⟨none, by rw [Nat.one_mul, Nat.one_mul]; rfl, rfl⟩ ?_ ?_
    · rintro i σ' H' hi ⟨c4, rfl, rfl⟩
      rw [List.range_succ, List.filter_append, List.foldl_append]
      generalize ((List.range i).filter fun j => lot.testBit j).foldl (fun l s => l &&& ms.getD s 0) (2 ^ 2 ^ many - 1) = m
      refine ⟨_, rfl, _, rfl, lot, i, rfl, by rw [Int.zero_add], _, 1, rfl, rfl, rfl, _, rfl, ?_⟩
      have eb : decide (nV (lot >>> i &&& 1) = V.int 1) = lot.testBit i := by
        rw [← shr_bit, Bool.eq_iff_iff, decide_eq_true_iff]
        have : lot >>> i &&& 1 = 0 ∨ lot >>> i &&& 1 = 1 := by
          rw [Nat.and_one_is_mod]
          omega
        rcases this with z | z <;> rw [z] <;> simp [nV]
      show if decide (nV (lot >>> i &&& 1) = V.int 1) = true then _ else _
      rw [eb]
      cases hb : lot.testBit i with
      | true =>
        refine ite2 (fun _ => ?_) (fun h => absurd rfl h)
        refine ⟨_, rfl, _, rfl, _, rfl, a, nL ms, (i : Int), nV (ms.getD i 0), rfl, by rw [Int.zero_add], ha, atI_nat ?_, m, _, rfl, rfl, ⟨some (.int (0 + (i : Int))), ?_, rfl⟩⟩
        · rw [nL_get hi, List.getD_eq_getElem?_getD, List.getElem?_eq_getElem hi]
          rfl
        · rw [List.filter_cons_of_pos hb]
          rfl
      | false =>
        refine ite2 (fun h => by cases h) (fun _ => ⟨some (.int (0 + (i : Int))), ?_, rfl⟩)
        rw [List.filter_cons_of_neg (by rw [hb]; exact Bool.false_ne_true)]
        rfl
    · rintro σ' H' ⟨c4, rfl, rfl⟩
      exact ⟨_, rfl, k _ (Same.refl _)⟩
end
end L2.KK
namespace L2.KK
open PySem PySem.Spec PyProof.Rows C8
theorem sc_law_uses : FnScope ["d", "tables", "many", "count", "found", "k", "at", "names", "place", "times"] ["d", "tables", "many", "count"] (defScope s_law_uses) := ⟨rfl, rfl, rfl, by decide +kernel, rfl, by decide +kernel, by decide +kernel⟩
theorem dr_ne {H : Hp} {d c a C dx : Addr} {fs : List (Str × V)} (D : Dr H d c) (h : H a = some (.ins C dx fs)) : a ≠ d := fun z => by
  obtain ⟨_, _, _, _, hd, _⟩ := D.ex
  rw [z, hd] at h
  cases h
theorem TabR.kpd {K : PySem.W.Frag} {C : Addr} {H H' : Hp} {d c : Addr} {y : V} {t : Tb} (h : TabR K C H y t) (D : Dr H d c) (e : Kp d H H') : TabR K C H' y t := by
  obtain ⟨a, h1, dx, tp, h2, h3⟩ := h
  exact ⟨a, h1, dx, tp, e _ _ h2 (dr_ne D h2), kpd_seqT D e h3⟩
theorem LtAt.kpd {K : PySem.W.Frag} {CT CL : Addr} {H H' : Hp} {d c a : Addr} {tbs : List Tb} (h : LtAt K CT CL H a tbs) (D : Dr H d c) (e : Kp d H H') : LtAt K CT CL H' a tbs := by
  obtain ⟨dx, tt, b, ys, h1, h2, h3⟩ := h
  exact ⟨dx, tt, b, ys, e _ _ h1 (dr_ne D h1), kpd_seqT D e h2, Paired.mapP h3 fun _ _ q => q.kpd D e⟩
theorem PzAt.kpd {K : PySem.W.Frag} {CT CL CP : Addr} {H H' : Hp} {d c a : Addr} {tbs : List Tb} {many : Nat} {us : List Us} (h : PzAt K CT CL CP H a tbs many us) (D : Dr H d c) (e : Kp d H H') : PzAt K CT CL CP H' a tbs many us := by
  obtain ⟨dx, l, tu, ys, h1, h2, h3, h4⟩ := h
  exact ⟨dx, l, tu, ys, e _ _ h1 (dr_ne D h1), h2.kpd D e, kpd_seqT D e h3, Paired.mapP h4 fun _ _ q => q.kpd D e⟩
theorem kp_free {d : Addr} {H H' : Hp} (e : Kp d H H') {p : Addr} (hd : ∃ o, H' d = some o) (h : H' p = none) : H p = none := by
  cases q : H p with
  | none => rfl
  | some o =>
    by_cases z : p = d
    · obtain ⟨o, hd⟩ := hd
      rw [← z, h] at hd
      cases hd
    · have := e _ _ q z
      rw [h] at this
      cases this
theorem Dr.has {H : Hp} {d c : Addr} (D : Dr H d c) : ∃ o, H d = some o := by
  obtain ⟨_, _, _, _, hd, _⟩ := D.ex
  exact ⟨_, hd⟩
section
variable {P : Program} {w : World} {K : PySem.W.Frag} {mg : Str → Option Value} {base : Heap}
def spUses (K : PySem.W.Frag) : Sp := fun vs H Q _ => ∃ (d c tl : Addr) (many count : Nat) (tbs : List Tb), vs = [.ref d, .ref tl, nV many, nV count] ∧ Dr H d c ∧ tl ≠ d ∧ LTs K H tl tbs ∧ 1 ≤ tbs.length ∧ tbs.length ≤ 16 ∧ (∀ t ∈ tbs, TbOk t) ∧ 1 ≤ many ∧ many ≤ 400 ∧ count ≤ 100 ∧
  ∀ p ys us H', us.length = count → (∀ u ∈ us, UseOk tbs many u) → H p = none → H' p = some (.tup ys) → Paired (UseR K H') ys us → Dr H' d c → Kp d H H' → Q (.ref p) H'
theorem c_law_uses (D : FnAt K mg "_law_uses" s_law_uses) (T : Bl mg) (c_law_draw : Cal P w K mg base 1 "_law_draw" spDraw []) : Cal P w K mg base 2 "_law_uses" (spUses K) [] := by
  refine calOf D sc_law_uses (fun _ _ _ _ _ _ us hl => match us, hl with | [_, _, _, _], _ => rfl) (fun vs H Q E h => ?_) (fun f cdv A outer s H vs Q E hr h => ?_)
  · obtain ⟨d, c, tl, many, count, tbs, rfl, _⟩ := h
    rfl
  · obtain ⟨d, c, tl, many, count, tbs, rfl, D, ntd, hT, h1, h16, okT, m1, m400, c100, k⟩ := h
    have nd := sc_law_uses.nd
    refine ⟨_, (pss_cons (ps_set (i := 4) nd rfl (by first | exact Or.inl rfl | exact Or.inr rfl) (pe_lst pa_nil))
      (pss_cons (ps_for PassesOwn.never rfl (pi_range1 (by rfl) T.b_range (pa_cons (pv 3) pa_nil)) (pg_name (i := 5) nd rfl (by first | exact Or.inl rfl | exact Or.inr rfl))
        (pss_cons (ps_set (i := 6) nd rfl (by first | exact Or.inl rfl | exact Or.inr rfl) (pe_c c_law_draw hr (by decide) (by rfl) (pa_cons (pv 0) (pa_cons (pe_callB (crLen K) (by rfl) T.b_len (by decide +kernel) (pa_cons (pv 1) pa_nil)) pa_nil))))
        (pss_cons (ps_set (i := 7) nd rfl (by first | exact Or.inl rfl | exact Or.inr rfl) (pe_callTy (crTup K) (by rfl) T.b_tuple (by decide +kernel) (pa_cons (pe_lc (own := [("place", 8)]) (g := gName 8) (tt := tYes) rfl nd (pi_range1 (by rfl) T.b_range (pa_cons (pe_ix (ixT K) (pe_ix (ixL K) (pv 1) (pv 6) (fun _ _ => rfl)) pe_int (fun _ _ => rfl)) pa_nil)) (blkOk_by (N := ["d", "tables", "many", "count", "found", "k", "at", "names", "place", "times"]) (sc := defScope s_law_uses) (own := [("place", 8)]) (by decide +kernel)) (fun _ _ _ _ _ => (pg_name (i := 8) nd rfl (by first | exact Or.inl rfl | exact Or.inr rfl))) (fun _ _ _ _ _ => pts_nil) (fun _ _ _ _ _ => (pe_c c_law_draw hr (by decide) (by rfl) (pa_cons (pv 0) (pa_cons (pv 2) pa_nil))))) pa_nil)))
        (pss_cons (ps_set (i := 9) nd rfl (by first | exact Or.inl rfl | exact Or.inr rfl) (pe_ifExp (pt_cmpR op_gt (pe_c c_law_draw hr (by decide) (by rfl) (pa_cons (pv 0) (pa_cons pe_int pa_nil))) pe_int (nomark _)) pe_int (pe_op op_addNN pe_int (pe_c c_law_draw hr (by decide) (by rfl) (pa_cons (pv 0) (pa_cons pe_int pa_nil))))))
        (pss_one (ps_expr (pe_bm PySem.F.plainAttrs_list PySem.F.slot_list_append PySem.F.type_list_append mt_append (pv 4) (pa_cons (pe_tup (pa_cons (pv 6) (pa_cons (pv 7) (pa_cons (pv 9) pa_nil)))) pa_nil))))))))
      (pss_one (ps_ret (pe_callTy (crTup K) (by rfl) T.b_tuple (by decide +kernel) (pa_cons (pv 4) pa_nil)))))), ?_⟩
    refine ⟨Nat.zero_le _, fun fl hfl => ?_⟩
    obtain ⟨fld, flc⟩ := D.ne hfl
    refine ⟨_, rfl, _, rfl, by omega, by omega, ?_⟩
    rw [Int.toNat_natCast]
    refine for_range (lo := 0) (n := count) (fun i σ' H' => ∃ (ys : List V) (us : List Us) (c5 c6 c7 c9 : Option V), σ' = [some (.ref d), some (.ref tl), some (nV many), some (nV count), some (.ref fl), c5, c6, c7, none, c9] ∧ H' fl = some (.lst ys) ∧ Paired (UseR K H') ys us ∧ us.length = i ∧ (∀ u ∈ us, UseOk tbs many u) ∧ Dr H' d c ∧ Kp d H H')
      ⟨[], [], none, none, none, none, rfl, upd_same, .nil, rfl, fun u h => (nomatch h), D.put fld flc, (Kp.refl d H).new hfl⟩ ?_ ?_
    · rintro i σ' H0 hi ⟨ys, us, c5, c6, c7, c9, rfl, e0, p0, l0, ok0, D0, kp0⟩
      have hT0 := hT.kpd ntd D kp0
      obtain ⟨ts, hts, pts⟩ := hT0
      obtain ⟨tsl, tsa⟩ := paired_at pts
      refine ⟨_, rfl, _, rfl, tl, ts, rfl, .inl (SqL.of hts), d, c, (ts.length : Int), rfl, D0, by omega, by omega, fun at_ H1 hat D1 kp1 => ?_⟩
      have hat' : at_ < ts.length := by omega
      have hy : ts[at_]? = some ts[at_] := List.getElem?_eq_getElem hat'
      obtain ⟨t, ht, tp, tq, ety, htp, htq⟩ := tsa _ _ hy
      have ot := okT t (List.mem_of_getElem? ht)
      have hts1 := kp1 _ _ hts ntd
      refine ⟨_, rfl, _, rfl, tl, ts, (at_ : Int), ts[at_], rfl, rfl, SqL.of hts1, atI_nat hy, tp, _, (0 : Int), nV t.1, ety, rfl, kpd_seqT D0 kp1 htp, rfl, _, rfl, by omega, by have := ot.2.1; omega, ?_⟩
      rw [Int.toNat_natCast]
      intro N0 hN0
      obtain ⟨nd0, nc0⟩ := D1.ne hN0
      refine lc_range (lo := 0) (n := t.1) (fun j H3 => ∃ ns : List Nat, H3 N0 = some (.lst (nL ns)) ∧ ns.length = j ∧ (∀ n ∈ ns, n < many) ∧ Dr H3 d c ∧ Kp d H1 H3)
        ⟨[], upd_same, rfl, fun n h => (nomatch h), D1.put nd0 nc0, (Kp.refl d H1).new hN0⟩ ?_ ?_
      · rintro j H3 hj ⟨ns, g1, nl, nm, D3, kp3⟩
        refine ⟨rfl, ?_⟩
        refine ⟨_, rfl, _, rfl, d, c, (many : Int), rfl, D3, by omega, by omega, fun n H4 hn D4 kp4 => ?_⟩
        have t4 := ot.2.1
        refine ⟨nL ns, kp4 _ _ g1 nd0, Nat.lt_of_le_of_lt (show (nL ns).length ≤ 40 by rw [List.length_map]; omega) (by decide), ns ++ [n], by rw [upd_same, nL_snoc], by rw [List.length_append, nl]; rfl, fun x hx => ?_, D4.put nd0 nc0, (kp3.trans kp4).new hN0⟩
        rcases List.mem_append.mp hx with z | z
        · exact nm x z
        · rw [List.mem_singleton.mp z]; omega
      · rintro H3 ⟨ns, g1, nl, nm, D3, kp3⟩
        refine ⟨N0, _, rfl, .inl ⟨SqL.of g1, fun nr hnr => ?_⟩⟩
        have sm4 := same_new (o := .tup (nL ns)) hnr
        have D4 := D3.keep sm4
        -- times
        refine ⟨_, rfl, d, c, 3, rfl, D4, by decide, by decide, fun n3 H5 hn3 D5 kp5 => ⟨n3, 0, rfl, rfl, _, rfl, ?_⟩⟩
        have kp05 : Kp d H0 H5 := ((kp1.trans kp3).trans (Kp.of sm4)).trans kp5
        have fl5 := kp05 _ _ e0 fld
        have hnr5 : SqT K H5 nr (nL ns) := kpd_seqT D4 kp5 (.inl (.inl upd_same))
        have p5 := Paired.mapP p0 fun _ _ q => UseR.kpd q D0 kp05
        have fin : ∀ (tm : Nat) (H6 : Hp) (r : Addr), 1 ≤ tm → tm ≤ 1000 → Dr H6 d c → Kp d H5 H6 → H6 r = none → ∃ l xs y, V.ref fl = .ref l ∧ [V.ref r] = [y] ∧ (upd H6 r (.tup [nV at_, .ref nr, nV tm])) l = some (.lst xs) ∧ xs.length < sizeLine ∧
            ∃ (ys : List V) (us : List Us) (c5 c6 c7 c9 : Option V), [some (V.ref d), some (.ref tl), some (nV many), some (nV count), some (.ref fl), some (.int (0 + (i : Int))), some (nV at_), some (.ref nr), none, some (nV tm)] = [some (.ref d), some (.ref tl), some (nV many), some (nV count), some (.ref fl), c5, c6, c7, none, c9] ∧
              (upd (upd H6 r (.tup [nV at_, .ref nr, nV tm])) l (.lst (xs ++ [y]))) fl = some (.lst ys) ∧ Paired (UseR K (upd (upd H6 r (.tup [nV at_, .ref nr, nV tm])) l (.lst (xs ++ [y])))) ys us ∧ us.length = i + 1 ∧ (∀ u ∈ us, UseOk tbs many u) ∧
              Dr (upd (upd H6 r (.tup [nV at_, .ref nr, nV tm])) l (.lst (xs ++ [y]))) d c ∧ Kp d H (upd (upd H6 r (.tup [nV at_, .ref nr, nV tm])) l (.lst (xs ++ [y]))) := fun tm H6 r t1 t2 D6 kp6 hr6 => by
          have sm7 := same_new (o := .tup [nV at_, .ref nr, nV tm]) hr6
          have fl7 := sm7 _ _ (kp6 _ _ fl5 fld)
          have kpf : Kp fl (upd H6 r (.tup [nV at_, .ref nr, nV tm])) (upd (upd H6 r (.tup [nV at_, .ref nr, nV tm])) fl (.lst (ys ++ [.ref r]))) := kp_upd
          have lst : ∀ {a : Addr} {xs : List V}, SqT K (upd H6 r (.tup [nV at_, .ref nr, nV tm])) a xs → SqT K (upd (upd H6 r (.tup [nV at_, .ref nr, nV tm])) fl (.lst (ys ++ [.ref r]))) a xs := fun {a xs} h => by
            rcases h with h | h
            · rcases h with h | ⟨o, h⟩
              · exact .inl (.inl (kpf _ _ h fun z => by rw [z, fl7] at h; cases h))
              · exact .inl (.inr ⟨o, kpf _ _ h fun z => by rw [z, fl7] at h; cases h⟩)
            · exact .inr h
          have pl := (paired_at p0).1
          refine ⟨fl, ys, .ref r, rfl, rfl, fl7, Nat.lt_of_le_of_lt (show ys.length ≤ 100 by omega) (by decide), ys ++ [.ref r], us ++ [⟨at_, ns, tm⟩], _, _, _, _, rfl, upd_same, paired_snoc (Paired.mapP p5 fun y u h => ?_) ?_, by rw [List.length_append, l0]; rfl, fun u hu => ?_, (D6.keep sm7).put fld flc, ?_⟩
          · obtain ⟨r1, r2, e1, e2, e3⟩ := (h.kpd D5 kp6).grow sm7
            exact ⟨r1, r2, e1, lst e2, lst e3⟩
          · exact ⟨r, nr, rfl, lst (.inl (.inl upd_same)), lst (same_seqT sm7 (kpd_seqT D5 kp6 hnr5))⟩
          · rcases List.mem_append.mp hu with z | z
            · exact ok0 u z
            · rw [List.mem_singleton.mp z]
              exact ⟨t, ht, t1, t2, nl, nm⟩
          · exact (((kp0.trans kp05).trans kp6).trans (Kp.of sm7)).new hfl
        refine ite2 (fun _ => ?_) (fun _ => ?_)
        · refine ⟨_, rfl, .inl ⟨rfl, _, SqL.of fl5⟩, _, rfl, _, rfl, _, rfl, by show 3 ≤ sizeLine; decide, fun r hr6 => ?_⟩
          exact fin 1 H5 r (by decide) (by decide) D5 (Kp.refl d H5) hr6
        · refine ⟨_, rfl, d, c, 9, rfl, D5, by decide, by decide, fun n9 H6 hn9 D6 kp6 => ⟨1, n9, rfl, rfl, ?_⟩⟩
          refine ⟨_, rfl, .inl ⟨rfl, _, SqL.of (kp6 _ _ fl5 fld)⟩, _, rfl, _, rfl, _, rfl, by show 3 ≤ sizeLine; decide, fun r hr6 => ?_⟩
          exact fin (1 + n9) H6 r (by omega) (by omega) D6 kp6 hr6
    · rintro σ' H1 ⟨ys, us, c5, c6, c7, c9, rfl, e0, p0, l0, ok0, D0, kp0⟩
      refine ⟨_, rfl, fl, ys, rfl, .inl ⟨SqL.of e0, fun p hp => ?_⟩⟩
      have sm := same_new (o := .tup ys) hp
      exact k p ys us _ l0 ok0 (kp_free kp0 D0.has hp) upd_same (Paired.mapP p0 fun _ _ q => q.grow sm) (D0.keep sm) (kp0.trans (Kp.of sm))
end
end L2.KK
namespace L2.KK
open PySem PySem.Spec PyProof.Rows C8
theorem sc_law_limit : FnScope ["ask", "puzzle", "error"] ["ask", "puzzle"] (defScope s_law_limit) := ⟨rfl, rfl, rfl, by decide +kernel, rfl, by decide +kernel, by decide +kernel⟩
theorem sc_law_limits_ok : FnScope ["d", "tables", "lot", "many", "wide", "long", "both", "fits", "ask"] ["d", "tables", "lot"] (defScope s_law_limits_ok) := ⟨rfl, rfl, rfl, by decide +kernel, rfl, by decide +kernel, by decide +kernel⟩
section
variable {P : Program} {w : World} {K : PySem.W.Frag} {mg : Str → Option Value} {base : Heap}
def limOf (many : Nat) (us : List Us) : Nat := if 10 < us.length then 10 else if 12 < many then 12 else 0
def spLimit (K : PySem.W.Frag) (CT CL CP : Addr) : Sp := fun vs H Q _ => ∃ (a : Addr) (ask : Nat) (tbs : List Tb) (many : Nat) (us : List Us), vs = [nV ask, .ref a] ∧ PzAt K CT CL CP H a tbs many us ∧ UsesOk tbs many us ∧ us.length ≤ 1000 ∧ ∀ H', Same H H' → Q (nV (limOf many us)) H'
theorem c_law_limit (D : FnAt K mg "_law_limit" s_law_limit) (Z : Ev K mg) (T : Bl mg) (c_clashes : CalX P w K mg base 11 "clashes" (spClash K Z.Table Z.Lot Z.Puzzle Z.TooMany MK.badL)) (c_menders : CalX P w K mg base 11 "menders" (spClash K Z.Table Z.Lot Z.Puzzle Z.TooMany MK.goodL)) :
    Cal P w K mg base 12 "_law_limit" (spLimit K Z.Table Z.Lot Z.Puzzle) [] := by
  refine calOf D sc_law_limit (fun _ _ _ _ _ _ us hl => match us, hl with | [_, _], _ => rfl) (fun vs H Q E h => ?_) (fun f cdv A outer s H vs Q E hr h => ?_)
  · obtain ⟨a, ask, tbs, many, us, rfl, _⟩ := h
    rfl
  · obtain ⟨a, ask, tbs, many, us, rfl, hP, ok, hl, k⟩ := h
    have nd := sc_law_limit.nd
    refine ⟨_, (pss_cons (ps_try_as (i := 2) (Wout := fun _ _ _ _ => False) rfl rfl nd rfl rfl ⟨by rfl, by decide, Or.inl Z.k_TooMany⟩ takes0 (fun W pn xe tk _ =>
        (pss_one (ps_if (pt_cmpR op_eq (pv 0) pe_int (nomark _))
          (pss_one (ps_expr (pe_cx c_clashes hr (by decide) (by rfl) tk (pa_cons (pv 1) pa_nil))))
          (pss_one (ps_expr (pe_cx c_menders hr (by decide) (by rfl) tk (pa_cons (pv 1) pa_nil)))))))
        (fun a oe cls d pn hz hf => (pss_one (ps_ret (pe_xf Z.o_TooMany.xf Z.n_TooMany_limit hz hf (pv 2))))))
      (pss_one (ps_ret pe_int))), ?_⟩
    refine ⟨_, rfl, rfl, _, rfl, ite2 (fun _ => ?_) (fun _ => ?_)⟩
    all_goals
      refine ⟨_, rfl, a, tbs, many, us, rfl, hP, ok, hl, fun h d H' sm hd e => ?_, fun h1 h2 d H' sm hd e => ?_, fun h1 h2 G hG p H' Ls sm hp hL pL uL => ?_⟩
      · refine ⟨true, Z.e_TooMany_TooMany, fun _ a0 _ => ?_, fun q => Bool.noConfusion q⟩
        refine ⟨_, rfl, rfl, rfl, d, _, _, rfl, e, rfl, ?_⟩
        have q := k H' sm
        unfold limOf at q
        rw [if_pos h] at q
        exact q
      · refine ⟨true, Z.e_TooMany_TooMany, fun _ a0 _ => ?_, fun q => Bool.noConfusion q⟩
        refine ⟨_, rfl, rfl, rfl, d, _, _, rfl, e, rfl, ?_⟩
        have q := k H' sm
        unfold limOf at q
        rw [if_neg (by omega), if_pos h2] at q
        exact q
      · have q := k H' sm
        unfold limOf at q
        rw [if_neg (by omega), if_neg (by omega)] at q
        exact q
def spLimits (K : PySem.W.Frag) (CT CL : Addr) : Sp := fun vs H Q _ => ∃ (d c tl l : Addr) (tbs : List Tb), vs = [.ref d, .ref tl, .ref l] ∧ Dr H d c ∧ tl ≠ d ∧ LTs K H tl tbs ∧ LtAt K CT CL H l tbs ∧ 1 ≤ tbs.length ∧ tbs.length ≤ 16 ∧ (∀ t ∈ tbs, TbOk t) ∧ ∀ H', Q (.bl true) H'
theorem pz_facts {CT CL CP : Addr} {H1 : Hp} {d c l p x dx : Addr} {tbs : List Tb} {many : Nat} {us : List Us} {ys : List V} (D : Dr H1 d c) (hL : LtAt K CT CL H1 l tbs) (hp : H1 p = some (.tup ys)) (pU : Paired (UseR K H1) ys us) (hx : H1 x = none) (hdx : H1 dx = none) (ne : dx ≠ x) :
    LtAt K CT CL (upd (upd H1 dx (.own x)) x (.ins CP dx [])) l tbs ∧ SqT K (upd (upd H1 dx (.own x)) x (.ins CP dx [])) p ys ∧ Paired (UseR K (upd (upd H1 dx (.own x)) x (.ins CP dx []))) ys us ∧
      ∀ H', Kp x (upd (upd H1 dx (.own x)) x (.ins CP dx [])) H' → H' x = some (.ins CP dx (pzF l many p)) → Same H1 H' ∧ Dr H' d c ∧ PzAt K CT CL CP H' x tbs many us := by
  have sm1 := same_new (o := .own x) hdx
  have hx2 : (upd H1 dx (.own x)) x = none := by rw [upd_ne ne.symm]; exact hx
  have sm2 := sm1.trans (same_new (o := .ins CP dx []) hx2)
  refine ⟨hL.grow sm2, .inl (.inl (sm2 _ _ hp)), Paired.mapP pU fun _ _ q => q.grow sm2, fun H' kp e => ?_⟩
  have sm3 : Same H1 H' := fun b o eb => kp _ _ (sm2 _ _ eb) (ne_of_none eb hx)
  exact ⟨sm3, D.keep sm3, dx, l, p, ys, e, hL.grow sm3, .inl (.inl (sm3 _ _ hp)), Paired.mapP pU fun _ _ q => q.grow sm3⟩
theorem use4 {tbs : List Tb} {many : Nat} {us : List Us} (okT : ∀ t ∈ tbs, TbOk t) (okU : ∀ u ∈ us, UseOk tbs many u) : ∀ u ∈ us, UseOk tbs many u ∧ u.names.length ≤ 4 := fun u hu => ⟨okU u hu, by
  obtain ⟨t, ht, _, _, nl, _⟩ := okU u hu
  rw [nl]
  exact (okT t (List.mem_of_getElem? ht)).2.1⟩
theorem c_law_limits_ok (D : FnAt K mg "_law_limits_ok" s_law_limits_ok) (Z : Ev K mg) (T : Bl mg) (c_law_draw : Cal P w K mg base 1 "_law_draw" spDraw []) (c_law_uses : Cal P w K mg base 2 "_law_uses" (spUses K) []) (c_Puzzle : Mak P w K mg base 3 "Puzzle" Z.Puzzle (spPz K Z.Table Z.Lot Z.Puzzle) []) (c_law_limit : Cal P w K mg base 12 "_law_limit" (spLimit K Z.Table Z.Lot Z.Puzzle) []) :
    Cal P w K mg base 13 "_law_limits_ok" (spLimits K Z.Table Z.Lot) [] := by
  refine calOf D sc_law_limits_ok (fun _ _ _ _ _ _ us hl => match us, hl with | [_, _, _], _ => rfl) (fun vs H Q E h => ?_) (fun f cdv A outer s H vs Q E hr h => ?_)
  · obtain ⟨d, c, tl, l, tbs, rfl, _⟩ := h
    rfl
  · obtain ⟨d, c, tl, l, tbs, rfl, D, ntd, hT, hL, h1, h16, okT, k⟩ := h
    have nd := sc_law_limits_ok.nd
    refine ⟨_, (pss_cons (ps_set (i := 3) nd rfl (by first | exact Or.inl rfl | exact Or.inr rfl) (pe_op op_addNN pe_int (pe_c c_law_draw hr (by decide) (by rfl) (pa_cons (pv 0) (pa_cons pe_int pa_nil)))))
      (pss_cons (ps_set (i := 4) nd rfl (by first | exact Or.inl rfl | exact Or.inr rfl) (pe_mk c_Puzzle hr (by decide) (by rfl) (pa_cons (pv 2) (pa_cons pe_int (pa_cons (pe_c c_law_uses hr (by decide) (by rfl) (pa_cons (pv 0) (pa_cons (pv 1) (pa_cons pe_int (pa_cons pe_int pa_nil))))) pa_nil)))))
      (pss_cons (ps_set (i := 5) nd rfl (by first | exact Or.inl rfl | exact Or.inr rfl) (pe_mk c_Puzzle hr (by decide) (by rfl) (pa_cons (pv 2) (pa_cons (pv 3) (pa_cons (pe_c c_law_uses hr (by decide) (by rfl) (pa_cons (pv 0) (pa_cons (pv 1) (pa_cons (pv 3) (pa_cons pe_int pa_nil))))) pa_nil)))))
      (pss_cons (ps_set (i := 6) nd rfl (by first | exact Or.inl rfl | exact Or.inr rfl) (pe_mk c_Puzzle hr (by decide) (by rfl) (pa_cons (pv 2) (pa_cons pe_int (pa_cons (pe_c c_law_uses hr (by decide) (by rfl) (pa_cons (pv 0) (pa_cons (pv 1) (pa_cons pe_int (pa_cons pe_int pa_nil))))) pa_nil)))))
      (pss_cons (ps_set (i := 7) nd rfl (by first | exact Or.inl rfl | exact Or.inr rfl) (pe_mk c_Puzzle hr (by decide) (by rfl) (pa_cons (pv 2) (pa_cons (pv 3) (pa_cons (pe_c c_law_uses hr (by decide) (by rfl) (pa_cons (pv 0) (pa_cons (pv 1) (pa_cons (pv 3) (pa_cons pe_int pa_nil))))) pa_nil)))))
      (pss_cons (ps_set (i := 8) nd rfl (by first | exact Or.inl rfl | exact Or.inr rfl) (pe_c c_law_draw hr (by decide) (by rfl) (pa_cons (pv 0) (pa_cons pe_int pa_nil))))
      (pss_cons (ps_if (PW.pt (pw_or (pt_cmpR op_ne (pe_c c_law_limit hr (by decide) (by rfl) (pa_cons (pv 8) (pa_cons (pv 4) pa_nil))) pe_int (nomark _)) (pw_or (pt_cmpR op_ne (pe_c c_law_limit hr (by decide) (by rfl) (pa_cons (pv 8) (pa_cons (pv 5) pa_nil))) pe_int (nomark _)) (pw_or1 (pt_cmpR op_ne (pe_c c_law_limit hr (by decide) (by rfl) (pa_cons (pv 8) (pa_cons (pv 6) pa_nil))) pe_int (nomark _))))))
        (pss_one (ps_ret pe_bl))
        pss_nil)
      (pss_one (ps_ret (pe_cmpR op_eq (pe_c c_law_limit hr (by decide) (by rfl) (pa_cons (pv 8) (pa_cons (pv 7) pa_nil))) pe_int (nomark _))))))))))), ?_⟩
    refine ⟨_, rfl, d, c, 3, rfl, D, by decide, by decide, fun n0 H1 hn0 D1 kp1 => ⟨1, n0, rfl, rfl, ?_⟩⟩
    have T1 := hT.kpd ntd D kp1
    have L1 := hL.kpd D kp1
    -- wide
    refine ⟨_, rfl, _, rfl, _, rfl, d, c, tl, 13, 2, tbs, rfl, D1, ntd, T1, h1, h16, okT, by decide, by decide, by decide, fun pu ys us H2 l2 ok2 _ hp2 pU2 D2 kp2 => ?_⟩
    have T2 := T1.kpd ntd D1 kp2
    have L2' := L1.kpd D1 kp2
    intro x1 dx1 hx hdx ne
    obtain ⟨a1, a2, a3, a4⟩ := pz_facts (CP := Z.Puzzle) (many := 13) D2 L2' hp2 pU2 hx hdx ne
    refine ⟨x1, dx1, l, pu, 13, tbs, ys, us, rfl, upd_same, a1, a2, a3, by decide, by omega, use4 okT ok2, fun H3 kp e => ⟨rfl, ?_⟩⟩
    obtain ⟨sm3, D3, pz1⟩ := a4 H3 kp e
    have T3 := T2.grow sm3
    have L3 := L2'.grow sm3
    -- long
    refine ⟨_, rfl, _, rfl, _, rfl, _, rfl, _, rfl, d, c, tl, 1 + n0, 11, tbs, rfl, D3, ntd, T3, h1, h16, okT, by omega, by omega, by decide, fun pu4 ys4 us4 H4 l4 ok4 _ hp4 pU4 D4 kp4 => ?_⟩
    have T4 := T3.kpd ntd D3 kp4
    have L4 := L3.kpd D3 kp4
    have pz14 := pz1.kpd D3 kp4
    intro x2 dx2 hx hdx ne
    obtain ⟨a1, a2, a3, a4⟩ := pz_facts (CP := Z.Puzzle) (many := 1 + n0) D4 L4 hp4 pU4 hx hdx ne
    refine ⟨x2, dx2, l, pu4, 1 + n0, tbs, ys4, us4, rfl, upd_same, a1, a2, a3, by omega, by omega, use4 okT ok4, fun H5 kp e => ⟨rfl, ?_⟩⟩
    obtain ⟨sm5, D5, pz2⟩ := a4 H5 kp e
    have T5 := T4.grow sm5
    have L5 := L4.grow sm5
    have pz15 := pz14.grow sm5
    -- both
    refine ⟨_, rfl, _, rfl, _, rfl, d, c, tl, 13, 11, tbs, rfl, D5, ntd, T5, h1, h16, okT, by decide, by decide, by decide, fun pu6 ys6 us6 H6 l6 ok6 _ hp6 pU6 D6 kp6 => ?_⟩
    have T6 := T5.kpd ntd D5 kp6
    have L6 := L5.kpd D5 kp6
    have pz16 := pz15.kpd D5 kp6
    have pz26 := pz2.kpd D5 kp6
    intro x3 dx3 hx hdx ne
    obtain ⟨a1, a2, a3, a4⟩ := pz_facts (CP := Z.Puzzle) (many := 13) D6 L6 hp6 pU6 hx hdx ne
    refine ⟨x3, dx3, l, pu6, 13, tbs, ys6, us6, rfl, upd_same, a1, a2, a3, by decide, by omega, use4 okT ok6, fun H7 kp e => ⟨rfl, ?_⟩⟩
    obtain ⟨sm7, D7, pz3⟩ := a4 H7 kp e
    have T7 := T6.grow sm7
    have L7 := L6.grow sm7
    have pz17 := pz16.grow sm7
    have pz27 := pz26.grow sm7
    -- fits
    refine ⟨_, rfl, _, rfl, _, rfl, _, rfl, _, rfl, d, c, tl, 1 + n0, 10, tbs, rfl, D7, ntd, T7, h1, h16, okT, by omega, by omega, by decide, fun pu8 ys8 us8 H8 l8 ok8 _ hp8 pU8 D8 kp8 => ?_⟩
    have L8 := L7.kpd D7 kp8
    have pz18 := pz17.kpd D7 kp8
    have pz28 := pz27.kpd D7 kp8
    have pz38 := pz3.kpd D7 kp8
    intro x4 dx4 hx hdx ne
    obtain ⟨a1, a2, a3, a4⟩ := pz_facts (CP := Z.Puzzle) (many := 1 + n0) D8 L8 hp8 pU8 hx hdx ne
    refine ⟨x4, dx4, l, pu8, 1 + n0, tbs, ys8, us8, rfl, upd_same, a1, a2, a3, by omega, by omega, use4 okT ok8, fun H9 kp e => ⟨rfl, ?_⟩⟩
    obtain ⟨sm9, D9, pz4⟩ := a4 H9 kp e
    have pz19 := pz18.grow sm9
    have pz29 := pz28.grow sm9
    have pz39 := pz38.grow sm9
    refine ⟨_, rfl, d, c, 2, rfl, D9, by decide, by decide, fun ask HA hask DA kpA => ?_⟩
    have e1 : limOf 13 us = 12 := by unfold limOf; rw [if_neg (by omega)]; rfl
    have e2 : limOf (1 + n0) us4 = 10 := by unfold limOf; rw [if_pos (by omega)]
    have e3 : limOf 13 us6 = 10 := by unfold limOf; rw [if_pos (by omega)]
    have e4 : limOf (1 + n0) us8 = 0 := by unfold limOf; rw [if_neg (by omega), if_neg (by omega)]
    refine ⟨_, rfl, _, rfl, x1, ask, tbs, 13, us, rfl, pz19.kpd D9 kpA, ⟨okT, ok2⟩, by omega, fun HB smB => ?_⟩
    rw [e1]
    refine ⟨rfl, false, nbl_t rfl, iteF ?_⟩
    refine ⟨_, rfl, _, rfl, x2, ask, tbs, 1 + n0, us4, rfl, (pz29.kpd D9 kpA).grow smB, ⟨okT, ok4⟩, by omega, fun HC smC => ?_⟩
    rw [e2]
    refine ⟨rfl, false, nbl_t rfl, iteF ?_⟩
    refine ⟨_, rfl, _, rfl, x3, ask, tbs, 13, us6, rfl, ((pz39.kpd D9 kpA).grow smB).grow smC, ⟨okT, ok6⟩, by omega, fun HD smD => ?_⟩
    rw [e3]
    refine ⟨rfl, false, nbl_t rfl, iteF ?_⟩
    refine ⟨_, rfl, _, rfl, x4, ask, tbs, 1 + n0, us8, rfl, (((pz4.kpd D9 kpA).grow smB).grow smC).grow smD, ⟨okT, ok8⟩, by omega, fun HE smE => ?_⟩
    rw [e4]
    exact ⟨rfl, k HE⟩
end
end L2.KK
namespace L2.KK
open PySem PySem.Spec PyProof.Rows C8
theorem sc_law : FnScope ["script", "d", "tables", "k", "many", "uses", "lot", "table", "puzzle", "masks", "size", "whole", "bad", "lots", "good", "told", "rest"] ["script"] (defScope s_law) := ⟨rfl, rfl, rfl, by decide +kernel, rfl, by decide +kernel, by decide +kernel⟩
theorem kpl_seqT {K : PySem.W.Frag} {H H' : Hp} {l a : Addr} {zs xs : List V} (k : Kp l H H') (hl : H l = some (.lst zs)) (h : SqT K H a xs) : SqT K H' a xs := by
  rcases h with h | h
  · rcases h with h | ⟨o, h⟩
    · exact .inl (.inl (k _ _ h fun z => by rw [z, hl] at h; cases h))
    · exact .inl (.inr ⟨o, k _ _ h fun z => by rw [z, hl] at h; cases h⟩)
  · exact .inr h
theorem LTR.kpl {K : PySem.W.Frag} {H H' : Hp} {l : Addr} {zs : List V} {y : V} {t : Tb} (h : LTR K H y t) (k : Kp l H H') (hl : H l = some (.lst zs)) : LTR K H' y t := by
  obtain ⟨p, q, h1, h2, h3⟩ := h
  exact ⟨p, q, h1, kpl_seqT k hl h2, kpl_seqT k hl h3⟩
theorem sameT_seqT {K : PySem.W.Frag} {H H' : Hp} {a : Addr} {xs : List V} (e : SameT H H') (h : SqT K H a xs) : SqT K H' a xs := by
  rcases h with h | h
  · rcases h with h | ⟨o, h⟩
    · exact .inl (.inl (e _ _ h trivial))
    · exact .inl (.inr ⟨o, e _ _ h trivial⟩)
  · exact .inr h
theorem TabR.step {K : PySem.W.Frag} {C : Addr} {H H' : Hp} {y : V} {t : Tb} (h : TabR K C H y t) (e : SameT H H') : TabR K C H' y t := by
  obtain ⟨a, h1, dx, tp, h2, h3⟩ := h
  exact ⟨a, h1, dx, tp, e _ _ h2 trivial, sameT_seqT e h3⟩
theorem LotsAt.grow {K : PySem.W.Frag} {H H' : Hp} {p : Addr} {Ls : List (List Nat)} (h : LotsAt K H p Ls) (e : Same H H') : LotsAt K H' p Ls := by
  obtain ⟨ys, h1, h2⟩ := h
  exact ⟨ys, same_seqT e h1, Paired.mapP h2 fun _ _ h => h.grow e⟩
theorem lots_same {As Bs : List (List Nat)} {L : List (List Nat)} (a : As.Perm L) (b : Bs.Perm L) (ua : As.Pairwise LotLe) (ub : Bs.Pairwise LotLe) : As = Bs := lots_one (a.trans b.symm) ua ub
section
variable {P : Program} {w : World} {K : PySem.W.Frag} {mg : Str → Option Value} {base : Heap}
def spLaw (K : PySem.W.Frag) : Sp := fun vs H Q _ => ∃ (a : Addr) (ns : List Int), vs = [.ref a] ∧ SqL K H a (ns.map V.int) ∧ ns.length ≤ 63 ∧ ∀ H', Q (.bl true) H'
theorem ok_law {f : Addr} {fd : FuncData} (F : FnP K "law" "law" s_law f fd) (Z : Ev K mg) (T : Bl mg) (c_law_begin : Cal P w K mg base 1 "_law_begin" (spBegin K) []) (c_law_draw : Cal P w K mg base 1 "_law_draw" spDraw []) (c_law_loose : Cal P w K mg base 5 "_law_loose" (spLoose K) []) (c_law_uses : Cal P w K mg base 2 "_law_uses" (spUses K) [])
    (c_Table : Mak P w K mg base 3 "Table" Z.Table (spTab K Z.Table) []) (c_Lot : Mak P w K mg base 6 "Lot" Z.Lot (spLot K Z.Table Z.Lot) []) (c_Puzzle : Mak P w K mg base 3 "Puzzle" Z.Puzzle (spPz K Z.Table Z.Lot Z.Puzzle) []) (c_law_open_masks : Cal P w K mg base 3 "_law_open_masks" (spLOpen K) []) (c_law_left : Cal P w K mg base 1 "_law_left" (spLeft K) [])
    (c_clashes : Cal P w K mg base 11 "clashes" (fun vs H Q _ => spClash K Z.Table Z.Lot Z.Puzzle Z.TooMany MK.badL vs H Q C8.E0) []) (c_menders : Cal P w K mg base 11 "menders" (fun vs H Q _ => spClash K Z.Table Z.Lot Z.Puzzle Z.TooMany MK.goodL vs H Q C8.E0) [])
    (c_law_least_masks : Cal P w K mg base 10 "_law_least_masks" (spMin K) []) (c_law_lots : Cal P w K mg base 10 "_law_lots" (spLots K) []) (c_menders_of : Cal P w K mg base 11 "menders_of" (spMof K) []) (c_law_limits_ok : Cal P w K mg base 13 "_law_limits_ok" (spLimits K Z.Table Z.Lot) []) :
    FnOk P w K mg base CX0 14 f fd ["script"] (spLaw K) := by
  refine okOf F sc_law (fun vs H Q E h => ?_) (fun f cdv A outer s H vs Q E hr h => ?_)
  · obtain ⟨a, ns, rfl, _⟩ := h
    rfl
  · obtain ⟨a, ns, rfl, hS, hl, k⟩ := h
    have nd := sc_law.nd
    have hu := hr.units
    refine ⟨_, (pss_cons (ps_set (i := 1) nd rfl (by first | exact Or.inl rfl | exact Or.inr rfl) (pe_c c_law_begin hr (by decide) (by rfl) (pa_cons (pv 0) pa_nil)))
      (pss_cons (ps_setLc (i := 2) (own := [("k", 3)]) (g := gName 3) (tt := tYes) rfl nd rfl rfl (sw_true rfl rfl rfl (by decide +kernel)) (pi_range1 (by rfl) T.b_range (pa_cons (pe_op op_addNN pe_int (pe_c c_law_draw hr (by decide) (by rfl) (pa_cons (pv 1) (pa_cons pe_int pa_nil)))) pa_nil)) (blkOk_by (N := ["script", "d", "tables", "k", "many", "uses", "lot", "table", "puzzle", "masks", "size", "whole", "bad", "lots", "good", "told", "rest"]) (sc := defScope s_law) (own := [("k", 3)]) (by decide +kernel)) (fun _ _ _ _ _ => (pg_name (i := 3) nd rfl (by first | exact Or.inl rfl | exact Or.inr rfl))) (fun _ _ _ _ _ => pts_nil) (fun _ _ _ _ _ => (pe_c c_law_loose hr (by decide) (by rfl) (pa_cons (pv 1) (pa_cons (pe_op op_addNN pe_int (pe_c c_law_draw hr (by decide) (by rfl) (pa_cons (pv 1) (pa_cons pe_int pa_nil)))) (pa_cons (pe_op op_addNN pe_int (pe_c c_law_draw hr (by decide) (by rfl) (pa_cons (pv 1) (pa_cons pe_int pa_nil)))) pa_nil))))))
      (pss_cons (ps_set (i := 4) nd rfl (by first | exact Or.inl rfl | exact Or.inr rfl) (pe_op op_addNN pe_int (pe_c c_law_draw hr (by decide) (by rfl) (pa_cons (pv 1) (pa_cons pe_int pa_nil)))))
      (pss_cons (ps_set (i := 5) nd rfl (by first | exact Or.inl rfl | exact Or.inr rfl) (pe_c c_law_uses hr (by decide) (by rfl) (pa_cons (pv 1) (pa_cons (pv 2) (pa_cons (pv 4) (pa_cons (pe_c c_law_draw hr (by decide) (by rfl) (pa_cons (pv 1) (pa_cons pe_int pa_nil))) pa_nil))))))
      (pss_cons (ps_set (i := 6) nd rfl (by first | exact Or.inl rfl | exact Or.inr rfl) (pe_mk c_Lot hr (by decide) (by rfl) (pa_cons (pe_callTy (crTup K) (by rfl) T.b_tuple (by decide +kernel) (pa_cons (pe_lc (own := [("table", 7)]) (g := gName 7) (tt := tYes) rfl nd (piList K (pv 2)) (blkOk_by (N := ["script", "d", "tables", "k", "many", "uses", "lot", "table", "puzzle", "masks", "size", "whole", "bad", "lots", "good", "told", "rest"]) (sc := defScope s_law) (own := [("table", 7)]) (by decide +kernel)) (fun _ _ _ _ _ => (pg_name (i := 7) nd rfl (by first | exact Or.inl rfl | exact Or.inr rfl))) (fun _ _ _ _ _ => pts_nil) (fun _ _ _ _ _ => (pe_mk c_Table hr (by decide) (by rfl) (pa_cons (pe_ix (ixT K) (pv 7) pe_int (fun _ _ => rfl)) (pa_cons (pe_ix (ixT K) (pv 7) pe_int (fun _ _ => rfl)) pa_nil))))) pa_nil)) pa_nil)))
      (pss_cons (ps_set (i := 8) nd rfl (by first | exact Or.inl rfl | exact Or.inr rfl) (pe_mk c_Puzzle hr (by decide) (by rfl) (pa_cons (pv 6) (pa_cons (pv 4) (pa_cons (pv 5) pa_nil)))))
      (pss_cons (ps_set (i := 9) nd rfl (by first | exact Or.inl rfl | exact Or.inr rfl) (pe_c c_law_open_masks hr (by decide) (by rfl) (pa_cons (pv 2) (pa_cons (pv 5) (pa_cons (pv 4) pa_nil)))))
      (pss_cons (ps_set (i := 10) nd rfl (by first | exact Or.inl rfl | exact Or.inr rfl) (pe_callB (crLen K) (by rfl) T.b_len (by decide +kernel) (pa_cons (pv 5) pa_nil)))
      (pss_cons (ps_set (i := 11) nd rfl (by first | exact Or.inl rfl | exact Or.inr rfl) (pe_op op_subNN (pe_op op_shlNN pe_int (pv 10)) pe_int))
      (pss_cons (ps_setLc (i := 12) (own := [("lots", 13)]) (g := gName 13) rfl nd rfl rfl (sw_true rfl rfl rfl (by decide +kernel)) (pi_range1 (by rfl) T.b_range (pa_cons (pe_op op_shlNN pe_int (pv 10)) pa_nil)) (blkOk_by (N := ["script", "d", "tables", "k", "many", "uses", "lot", "table", "puzzle", "masks", "size", "whole", "bad", "lots", "good", "told", "rest"]) (sc := defScope s_law) (own := [("lots", 13)]) (by decide +kernel)) (fun _ _ _ _ _ => (pg_name (i := 13) nd rfl (by first | exact Or.inl rfl | exact Or.inr rfl))) (fun _ _ _ _ _ => (pts_one (pt_cmpR op_eq (pe_c c_law_left hr (by decide) (by rfl) (pa_cons (pv 9) (pa_cons (pv 13) (pa_cons (pv 4) pa_nil)))) pe_int (nomark _)))) (fun _ _ _ _ _ => (pv 13)))
      (pss_cons (ps_setLc (i := 14) (own := [("lots", 13)]) (g := gName 13) rfl nd rfl rfl (sw_true rfl rfl rfl (by decide +kernel)) (pi_range1 (by rfl) T.b_range (pa_cons (pe_op op_shlNN pe_int (pv 10)) pa_nil)) (blkOk_by (N := ["script", "d", "tables", "k", "many", "uses", "lot", "table", "puzzle", "masks", "size", "whole", "bad", "lots", "good", "told", "rest"]) (sc := defScope s_law) (own := [("lots", 13)]) (by decide +kernel)) (fun _ _ _ _ _ => (pg_name (i := 13) nd rfl (by first | exact Or.inl rfl | exact Or.inr rfl))) (fun _ _ _ _ _ => (pts_one (pt_cmpR op_ne (pe_c c_law_left hr (by decide) (by rfl) (pa_cons (pv 9) (pa_cons (pe_op op_xorN (pv 11) (pv 13)) (pa_cons (pv 4) pa_nil)))) pe_int (nomark _)))) (fun _ _ _ _ _ => (pv 13)))
      (pss_cons (ps_set (i := 15) nd rfl (by first | exact Or.inl rfl | exact Or.inr rfl) (pe_c c_clashes hr (by decide) (by rfl) (pa_cons (pv 8) pa_nil)))
      (pss_cons (ps_set (i := 16) nd rfl (by first | exact Or.inl rfl | exact Or.inr rfl) (pe_c c_menders hr (by decide) (by rfl) (pa_cons (pv 8) pa_nil)))
      (pss_cons (ps_if (PW.pt (pw_or (pt_cmpR (neD K hu) (pv 15) (pe_c c_law_lots hr (by decide) (by rfl) (pa_cons (pe_c c_law_least_masks hr (by decide) (by rfl) (pa_cons (pv 12) pa_nil)) (pa_cons (pv 10) pa_nil))) (nomark _)) (pw_or1 (pt_cmpR (neD K hu) (pv 16) (pe_c c_law_lots hr (by decide) (by rfl) (pa_cons (pe_c c_law_least_masks hr (by decide) (by rfl) (pa_cons (pv 14) pa_nil)) (pa_cons (pv 10) pa_nil))) (nomark _)))))
        (pss_one (ps_ret pe_bl))
        pss_nil)
      (pss_cons (ps_if (PW.pt (pw_or (pt_cmpR (neD K hu) (pe_c c_menders_of hr (by decide) (by rfl) (pa_cons (pv 15) (pa_cons (pv 10) pa_nil))) (pv 16) (nomark _)) (pw_or1 (pt_cmpR (neD K hu) (pe_c c_menders_of hr (by decide) (by rfl) (pa_cons (pv 16) (pa_cons (pv 10) pa_nil))) (pv 15) (nomark _)))))
        (pss_one (ps_ret pe_bl))
        pss_nil)
      (pss_cut (ps_if (PW.pt (pw_and (pt_cmpR op_eq (pe_callB (crLen K) (by rfl) T.b_len (by decide +kernel) (pa_cons (pv 12) pa_nil)) pe_int (nomark _)) (pw_and1 (PW.pt (pw_or (pt_cmpR (neD K hu) (pv 15) (pe_tup pa_nil) (nomark _)) (pw_or1 (pt_cmpR (neD K hu) (pv 16) (pe_tup (pa_cons (pe_tup pa_nil) pa_nil)) (nomark _))))))))
        (pss_one (ps_ret pe_bl))
        pss_nil)
      (pss_one (ps_ret (pe_or (pe_cmpR op_ne (pe_c c_law_draw hr (by decide) (by rfl) (pa_cons (pv 1) (pa_cons pe_int pa_nil))) pe_int (nomark _)) (pe_one (pe_c c_law_limits_ok hr (by decide) (by rfl) (pa_cons (pv 1) (pa_cons (pv 2) (pa_cons (pv 6) pa_nil)))))))))))))))))))))))), ?_⟩
    refine ⟨_, rfl, a, ns, rfl, hS, hl, fun d c H1 sm1 hd0 hc0 D1 => ?_⟩
    -- tables
    refine ⟨_, rfl, d, c, 3, rfl, D1, by decide, by decide, fun n1 H2 hn1 D2 kp2 => ⟨1, n1, rfl, rfl, _, rfl, by omega, by omega, ?_⟩⟩
    rw [Int.toNat_natCast]
    intro tl htl
    obtain ⟨tld, tlc⟩ := D2.ne htl
    refine lc_range (lo := 0) (n := 1 + n1) (fun j H3 => ∃ (ys : List V) (tbs : List Tb), H3 tl = some (.lst ys) ∧ Paired (LTR K H3) ys tbs ∧ tbs.length = j ∧ (∀ t ∈ tbs, TbOk t) ∧ Dr H3 d c) ⟨[], [], upd_same, .nil, rfl, fun t h => (nomatch h), D2.put tld tlc⟩ ?_ ?_
    · rintro j H3 hj ⟨ys, tbs, e3, p3, l3, ok3, D3⟩
      refine ⟨rfl, ?_⟩
      refine ⟨_, rfl, _, rfl, d, c, 3, rfl, D3, by decide, by decide, fun na H4 ha D4 kp4 => ⟨1, na, rfl, rfl, _, rfl, d, c, 4, rfl, D4, by decide, by decide, fun nb H5 hb D5 kp5 => ⟨2, nb, rfl, rfl, d, c, 1 + na, 2 + nb, rfl, D5, by omega, by omega, fun p q ps H6 okt hp0 hp hq D6 kp6 => ?_⟩⟩⟩
      have kp36 := (kp4.trans kp5).trans kp6
      have e6 := kp36 _ _ e3 tld
      have yl := (paired_at p3).1
      have kpl : Kp tl H6 (upd H6 tl (.lst (ys ++ [.ref p]))) := kp_upd
      refine ⟨ys, e6, Nat.lt_of_le_of_lt (show ys.length ≤ 40 by omega) (by decide), ys ++ [.ref p], tbs ++ [(1 + na, ps)], upd_same, paired_snoc (Paired.mapP p3 fun _ _ h => (h.kpd D3 kp36).kpl kpl e6) ?_, by rw [List.length_append, l3]; rfl, fun t ht => ?_, D6.put tld tlc⟩
      · exact ⟨p, q, rfl, kpl_seqT kpl e6 (.inl (.inl hp)), kpl_seqT kpl e6 (.inl (.inl hq))⟩
      · rcases List.mem_append.mp ht with z | z
        · exact ok3 t z
        · rw [List.mem_singleton.mp z]
          exact okt
    · rintro H3 ⟨ys, tbs, e3, p3, l3, okT, D3⟩
      obtain ⟨yl, ya⟩ := paired_at p3
      have hT3 : LTs K H3 tl tbs := ⟨ys, e3, p3⟩
      refine ⟨_, rfl, d, c, 4, rfl, D3, by decide, by decide, fun n4 H4 hn4 D4 kp4 => ⟨1, n4, rfl, rfl, ?_⟩⟩
      have hT4 := hT3.kpd tld D3 kp4
      -- uses
      refine ⟨_, rfl, _, rfl, _, rfl, _, rfl, d, c, 9, rfl, D4, by decide, by decide, fun cnt H5 hcnt D5 kp5 => ?_⟩
      have hT5 := hT4.kpd tld D4 kp5
      refine ⟨d, c, tl, 1 + n4, cnt, tbs, rfl, D5, tld, hT5, by omega, by omega, okT, by omega, by omega, by omega, fun pu us0 us H6 ul okU hpu0 hpu pU D6 kp6 => ?_⟩
      have hT6 := hT5.kpd tld D5 kp6
      clear hT3 hT4 hT5
      obtain ⟨ul2, _⟩ := paired_at pU
      -- lot
      obtain ⟨zs, etl, pz⟩ := id hT6
      obtain ⟨zl, za⟩ := paired_at pz
      refine ⟨_, rfl, tl, rfl, ⟨_, SqL.of etl⟩, fun L0 hL0 => lc_listT (SqL.of etl) (sel := fun _ => true) (P := fun i y H => ∃ t, tbs[i]? = some t ∧ TabR K Z.Table H y t) ⟨fun i y H H' sm ⟨t, e1, e2⟩ => ⟨t, e1, e2.step sm⟩, fun i H' _ _ R r => r H' (Same.refl H'), fun i H7 hi _ sm R r => ?_⟩ hL0 (lt_line (by omega)) (fun H7 ts sm7 hts _ pts => ?_)⟩
      · have hy : zs[i]? = some zs[i] := List.getElem?_eq_getElem hi
        obtain ⟨t, ht, p, q, ez, hp, hq⟩ := za i _ hy
        have ot := okT t (List.mem_of_getElem? ht)
        have eg : zs.getD i .non = .ref p := by rw [List.getD_eq_getElem?_getD, hy]; exact ez
        have hp7 := same_seqT sm hp
        have hq7 := same_seqT sm hq
        refine ⟨_, rfl, p, _, (0 : Int), nV t.1, eg, rfl, hp7, rfl, _, rfl, p, _, (1 : Int), .ref q, eg, rfl, hp7, rfl, ?_⟩
        intro x dx hx hdx ne
        have s1 := same_new (o := .own x) hdx
        have hx2 : (upd H7 dx (.own x)) x = none := by rw [upd_ne ne.symm]; exact hx
        have s2 := s1.trans (same_new (o := .ins Z.Table dx []) hx2)
        refine ⟨x, dx, q, t.1, t.2, rfl, upd_same, same_seqT s2 hq7, ot.2.1, ot.2.2.1, fun p hp m hm => Nat.le_trans (ot.2.2.2.2 p hp m hm) (by decide), rfl, ?_⟩
        rw [upd_upd]
        have s3 : Same H7 (upd (upd H7 dx (.own x)) x (.ins Z.Table dx (tabF t.1 q t.2))) := s1.trans (same_new hx2)
        exact r _ _ s3 ⟨t, ht, x, rfl, dx, q, upd_same, same_seqT s3 hq7⟩
      · rw [filter_yes, zl] at pts
        have pT : Paired (TabR K Z.Table H7) ts tbs := paired_of_range 0 (by rw [← List.range_eq_range']; exact pts)
        refine ⟨L0, ts, rfl, .inl ⟨SqL.of hts, fun tt htt => ?_⟩⟩
        have sm8 := same_new (o := .tup ts) htt
        intro l dl hl0 hdl nel
        have s1 := sm8.trans (same_new (o := .own l) hdl)
        have hl2 : (upd (upd H7 tt (.tup ts)) dl (.own l)) l = none := by rw [upd_ne nel.symm]; exact hl0
        have s2 := s1.trans (same_new (o := .ins Z.Lot dl []) hl2)
        have htt2 : SqT K (upd (upd (upd H7 tt (.tup ts)) dl (.own l)) l (.ins Z.Lot dl [])) tt ts := .inl (.inl (same_new hl2 _ _ (same_new hdl _ _ upd_same)))
        refine ⟨l, dl, tt, ts, tbs, rfl, upd_same, htt2, Paired.mapP pT fun _ _ q => q.grow s2, by omega, by omega, okT, fun sb H9 kp9 e9 => ⟨rfl, ?_⟩⟩
        have s9 : Same H7 H9 := fun b o eb => kp9 _ _ (s2 _ _ eb) (ne_of_none (sm8 _ _ eb) hl0)
        have htt9 : SqT K H9 tt ts := kp_seqT kp9 upd_same htt2
        have hL9 : LtAt K Z.Table Z.Lot H9 l tbs := ⟨dl, tt, sb, ts, e9, htt9, Paired.mapP pT fun _ _ q => q.grow s9⟩
        have s69 := sm7.trans s9
        have D9 := D6.keep s69
        have hT9 := hT6.grow s69
        have pu9 := s69 _ _ hpu
        have pU9 := Paired.mapP pU fun _ _ q => UseR.grow q s69
        clear hT6 pz etl za sm7 s9 s2 s1 sm8 kp9
        -- puzzle
        refine ⟨_, rfl, _, rfl, _, rfl, ?_⟩
        intro x dx hx hdx ne
        obtain ⟨a1, a2, a3, a4⟩ := pz_facts (CP := Z.Puzzle) (many := 1 + n4) D9 hL9 pu9 pU9 hx hdx ne
        refine ⟨x, dx, l, pu, 1 + n4, tbs, us0, us, rfl, upd_same, a1, a2, a3, by omega, by omega, use4 okT okU, fun HA kp e => ⟨rfl, ?_⟩⟩
        obtain ⟨smA, DA, pzA⟩ := a4 HA kp e
        have hTA := hT9.grow smA
        have hLA := hL9.grow smA
        have puA : SqT K HA pu us0 := .inl (.inl (smA _ _ pu9))
        have pUA := Paired.mapP pU9 fun _ _ q => UseR.grow q smA
        clear a1 a2 a3 a4 hT9 hL9 pu9 pU9 D9
        have ok : UsesOk tbs (1 + n4) us := ⟨okT, okU⟩
        have u8 : us.length ≤ 8 := by omega
        have p8 : 2 ^ us.length ≤ 2 ^ 8 := Nat.pow_le_pow_right (by decide) u8
        have p0 := Nat.two_pow_pos us.length
        have ml : (omL tbs (1 + n4) us).length = us.length := List.length_map _
        -- masks
        refine ⟨_, rfl, _, rfl, _, rfl, tl, pu, 1 + n4, tbs, us0, us, rfl, hTA, puA, pUA, ok, by omega, by omega, fun mk HB smB hmk0 hmk => ?_⟩
        have pzB := pzA.grow smB
        have puB := same_seqT smB puA
        have DB := DA.keep smB
        have hTB := hTA.grow smB
        have hLB := hLA.grow smB
        clear hTA hLA DA pzA puA pUA smB
        -- size, whole
        refine ⟨_, rfl, pu, us0, rfl, .inr puB, ?_⟩
        rw [ul2]
        refine ⟨_, rfl, 1, us.length, rfl, rfl, ⟨by omega, by decide⟩, 1 * 2 ^ us.length, 1, rfl, rfl, by omega, ?_⟩
        rw [Nat.one_mul]
        -- bad
        refine ⟨_, rfl, 1, us.length, rfl, rfl, ⟨by omega, by decide⟩, _, rfl, by omega, by omega, ?_⟩
        rw [Int.toNat_natCast, Nat.one_mul]
        refine fun bd hbd => lc_rangeT (lo := 0) (sel := fun lot => decide (MK.leftM (omL tbs (1 + n4) us) lot (1 + n4) = 0)) (P := fun i y _ => y = nV i) ⟨fun _ _ _ _ _ h => h, fun i H2 hi sm R r => ?_, fun i H2 hi _ _ R r => ?_⟩ hbd (lt_line (by omega)) (fun HC bs smC hbs _ pb => ?_)
        · exact ⟨_, rfl, _, rfl, _, rfl, mk, omL tbs (1 + n4) us, i, 1 + n4, by rw [Int.zero_add]; rfl, SqL.of (sm _ _ hmk), by omega, by omega, fun H3 sm3 => ⟨rfl, _, congrArg V.bl (dec_nV (b := 0)), r H3 sm3⟩⟩
        · exact ⟨_, rfl, r _ H2 (Same.refl H2) (by rw [Int.zero_add])⟩
        rw [paired_map_eq pb] at hbs
        have hbad : HC bd = some (.lst (nL (MK.badL (omL tbs (1 + n4) us) (1 + n4)))) := by
          unfold MK.badL
          rw [ml]
          exact hbs
        have mkC := smC _ _ hmk
        -- good
        refine ⟨_, rfl, 1, us.length, rfl, rfl, ⟨by omega, by decide⟩, _, rfl, by omega, by omega, ?_⟩
        rw [Int.toNat_natCast, Nat.one_mul]
        refine fun gd hgd => lc_rangeT (lo := 0) (sel := fun lot => !decide (MK.leftM (omL tbs (1 + n4) us) ((2 ^ us.length - 1) ^^^ lot) (1 + n4) = 0)) (P := fun i y _ => y = nV i) ⟨fun _ _ _ _ _ h => h, fun i H2 hi sm R r => ?_, fun i H2 hi _ _ R r => ?_⟩ hgd (lt_line (by omega)) (fun HD gs smD hgs _ pg => ?_)
        · exact ⟨_, rfl, _, rfl, _, rfl, 2 ^ us.length - 1, i, rfl, by rw [Int.zero_add], _, rfl, mk, omL tbs (1 + n4) us, (2 ^ us.length - 1) ^^^ i, 1 + n4, rfl, SqL.of (sm _ _ mkC), by omega, by omega, fun H3 sm3 => ⟨rfl, _, congrArg (fun b => V.bl (!b)) (dec_nV (b := 0)), r H3 sm3⟩⟩
        · exact ⟨_, rfl, r _ H2 (Same.refl H2) (by rw [Int.zero_add])⟩
        rw [paired_map_eq pg] at hgs
        have hgood : HD gd = some (.lst (nL (MK.goodL (omL tbs (1 + n4) us) (1 + n4)))) := by
          unfold MK.goodL
          rw [ml]
          exact hgs
        have smBD := smC.trans smD
        have badD := smD _ _ hbad
        have pzD := pzB.grow smBD
        have DD := DB.keep smBD
        have hTD := hTB.grow smBD
        have hLD := hLB.grow smBD
        clear pzB DB hTB hLB puB hbs hgs pb pg smC smD smBD mkC hbad hmk
        generalize hB : MK.badL (omL tbs (1 + n4) us) (1 + n4) = B at badD
        generalize hG0 : MK.goodL (omL tbs (1 + n4) us) (1 + n4) = G0 at hgood
        have Blen : B.length ≤ 2 ^ us.length := by
          rw [← hB]
          unfold MK.badL
          have := List.length_filter_le (fun lot => decide (MK.leftM (omL tbs (1 + n4) us) lot (1 + n4) = 0)) (List.range (2 ^ (omL tbs (1 + n4) us).length))
          rw [List.length_range, ml] at this
          rw [ml]
          exact this
        have Glen : G0.length ≤ 2 ^ us.length := by
          rw [← hG0]
          unfold MK.goodL
          have := List.length_filter_le (fun lot => !decide (MK.leftM (omL tbs (1 + n4) us) ((2 ^ (omL tbs (1 + n4) us).length - 1) ^^^ lot) (1 + n4) = 0)) (List.range (2 ^ (omL tbs (1 + n4) us).length))
          rw [List.length_range, ml] at this
          rw [ml]
          exact this
        have Blt : ∀ x ∈ B, x < 2 ^ us.length := fun x hx => by rw [← hB] at hx; have := (MK.mem_badL.mp hx).1; rw [ml] at this; exact this
        have Glt : ∀ x ∈ G0, x < 2 ^ us.length := fun x hx => by rw [← hG0] at hx; have := (MK.mem_goodL.mp hx).1; rw [ml] at this; exact this
        -- told, rest
        refine ⟨_, rfl, x, tbs, 1 + n4, us, rfl, pzD, ok, by omega, fun h => absurd h (by omega), fun _ h => absurd h (by omega), fun _ _ => ?_⟩
        unfold Told
        rw [hB]
        intro G1 hG1 t1 HE Ls1 smE ht1 L1 pm1 up1
        refine ⟨_, rfl, x, tbs, 1 + n4, us, rfl, pzD.grow smE, ok, by omega, fun h => absurd h (by omega), fun _ h => absurd h (by omega), fun _ _ => ?_⟩
        unfold Told
        rw [hG0]
        intro G2 hG2 t2 HF Ls2 smF ht2 L2 pm2 up2
        have smEF := smE.trans smF
        have L1F := L1.grow smF
        have badF := smEF _ _ badD
        have goodF := smEF _ _ hgood
        have DF := DD.keep smEF
        have hTF := hTD.grow smEF
        have hLF := hLD.grow smEF
        clear pzD DD hTD hLD badD hgood L1 smE smF smEF
        have g1l : G1.length ≤ 2 ^ us.length := Nat.le_trans (hG1.nd.length_le_of_subset fun x hx => ((hG1.mem x).mp hx).1) Blen
        have g2l : G2.length ≤ 2 ^ us.length := Nat.le_trans (hG2.nd.length_le_of_subset fun x hx => ((hG2.mem x).mp hx).1) Glen
        have g1lt : ∀ x ∈ G1, x < 2 ^ us.length := fun x hx => Blt x ((hG1.mem x).mp hx).1
        have g2lt : ∀ x ∈ G2, x < 2 ^ us.length := fun x hx => Glt x ((hG2.mem x).mp hx).1
        -- by the law's own least masks
        refine ⟨_, rfl, _, rfl, bd, B, rfl, SqL.of badF, by omega, fun G3 hG3 q3 HG smG hq3 e3 => ?_⟩
        have p13 : G1.Perm G3 := hG1.perm hG3 fun _ => Iff.rfl
        refine ⟨_, rfl, q3, us.length, G3, rfl, SqL.of e3, by rw [← p13.length_eq]; omega, by omega, fun t3 HH Ls3 smH ht3 L3 pm3 up3 => ?_⟩
        have smGH := smG.trans smH
        refine ned_lots (L1F.grow smGH) L3 ?_
        rw [decide_eq_true (lots_same (pm1.trans (p13.map _)) pm3 up1 up3)]
        refine ⟨false, rfl, iteF ?_⟩
        refine ⟨_, rfl, _, rfl, gd, G0, rfl, SqL.of (smGH _ _ goodF), by omega, fun G4 hG4 q4 HI smI hq4 e4 => ?_⟩
        have p24 : G2.Perm G4 := hG2.perm hG4 fun _ => Iff.rfl
        refine ⟨_, rfl, q4, us.length, G4, rfl, SqL.of e4, by rw [← p24.length_eq]; omega, by omega, fun t4 HJ Ls4 smJ ht4 L4 pm4 up4 => ?_⟩
        have smIJ := smI.trans smJ
        have smFJ := smGH.trans smIJ
        refine ned_lots (L2.grow smFJ) L4 ?_
        rw [decide_eq_true (lots_same (pm2.trans (p24.map _)) pm4 up2 up4)]
        refine ⟨false, rfl, iteF ?_⟩
        have L1J := L1F.grow smFJ
        have L2J := L2.grow smFJ
        have badJ := smFJ _ _ badF
        have DJ := DF.keep smFJ
        have hTJ := hTF.grow smFJ
        have hLJ := hLF.grow smFJ
        clear L1F L2 badF goodF DF hTF hLF L3 L4 e3 e4 smG smH smI smJ smGH smIJ smFJ
        -- each is what meets the other
        have good_tr : ∀ x, x ∈ G0 ↔ MK.Tr G1 us.length x := fun x => by
          have q := MK.good_tr (ms := omL tbs (1 + n4) us) (many := 1 + n4) (B := G1) (fun y => by rw [hB]; exact hG1.mem y) x
          rw [hG0, ml] at q
          exact q
        refine ⟨_, rfl, _, rfl, t1, us.length, Ls1, G1, rfl, L1J, pm1, g1lt, by omega, by omega, fun G5 hG5 t5 HK Ls5 smK ht5 L5 pm5 up5 => ?_⟩
        refine ⟨_, rfl, ?_⟩
        refine ned_lots L5 (L2J.grow smK) ?_
        have p52 : G5.Perm G2 := hG5.perm hG2 fun x => (MK.MinOf.congr good_tr x).symm
        rw [decide_eq_true (lots_same (pm5.trans (p52.map _)) pm2 up5 up2)]
        refine ⟨false, rfl, iteF ?_⟩
        refine ⟨_, rfl, _, rfl, t2, us.length, Ls2, G2, rfl, L2J.grow smK, pm2, g2lt, by omega, by omega, fun G6 hG6 t6 HL Ls6 smL ht6 L6 pm6 up6 => ?_⟩
        refine ⟨_, rfl, ?_⟩
        have L1L := (L1J.grow smK).grow smL
        refine ned_lots L6 L1L ?_
        have p61 : G6.Perm G1 := hG6.perm hG1 fun x => (MK.tr_tr (ms := G1) (bs := G2) g1lt (fun y => (hG2.mem y).trans (MK.MinOf.congr good_tr y)) x).trans ⟨fun h => (hG1.mem x).mp h.1, fun h => ⟨(hG1.mem x).mpr h, fun k hk hs => h.2 k ((hG1.mem k).mp hk).1 hs⟩⟩
        rw [decide_eq_true (lots_same (pm6.trans (p61.map _)) pm1 up6 up1)]
        refine ⟨false, rfl, iteF ?_⟩
        have smKL := smK.trans smL
        have L2L := L2J.grow smKL
        have badL := smKL _ _ badJ
        have DL := DJ.keep smKL
        have hTL := hTJ.grow smKL
        have hLL := hLJ.grow smKL
        clear L1J L2J badJ DJ hTJ hLJ L5 L6 smK smL smKL
        -- the end of the law
        refine ⟨fun σ' HZ => (∃ c0 c3 c4 c5 c7 c8 c9 ca cb cc cd ce cf cg : Option V, σ' = [c0, some (.ref d), some (.ref tl), c3, c4, c5, some (.ref l), c7, c8, c9, ca, cb, cc, cd, ce, cf, cg]) ∧ Dr HZ d c ∧ LTs K HZ tl tbs ∧ LtAt K Z.Table Z.Lot HZ l tbs, ?_, ?_⟩
        · refine ⟨_, rfl, bd, _, rfl, .inl (SqL.of badL), rfl, _, rfl, ite2 (fun h0 => ?_) (fun _ => iteF ⟨⟨_, _, _, _, _, _, _, _, _, _, _, _, _, _, rfl⟩, DL, hTL, hLL⟩)⟩
          have hB0 : B = [] := by
            have h1 := of_decide_eq_true h0
            injection h1 with h2
            rw [List.length_map] at h2
            exact List.eq_nil_of_length_eq_zero (by omega)
          have hG10 : G1 = [] := List.eq_nil_iff_forall_not_mem.mpr fun x hx => by
            have := ((hG1.mem x).mp hx).1
            rw [hB0] at this
            cases this
          have hL10 : Ls1 = [] := by
            rw [hG10] at pm1
            exact List.Perm.eq_nil pm1
          have hG20 : G2 = [0] := by
            have q : G2.Perm [0] := (List.perm_ext_iff_of_nodup hG2.nd (List.nodup_cons.mpr ⟨List.not_mem_nil, List.nodup_nil⟩)).mpr fun x => by
              rw [hG2.mem x, MK.MinOf.congr good_tr x, hG10]
              exact (MK.tr_nil us.length x).symm
            exact List.perm_singleton.mp q
          have hL20 : Ls2 = [[]] := by
            rw [hG20] at pm2
            have e : [0].map (fun m => MK.bitsOf m us.length) = [[]] := by
              show [MK.bitsOf 0 us.length] = [[]]
              congr 1
              unfold MK.bitsOf
              rw [List.filter_eq_nil_iff]
              intro i _
              rw [Nat.zero_testBit]
              exact Bool.false_ne_true
            rw [e] at pm2
            exact List.perm_singleton.mp pm2
          refine ⟨_, rfl, Nat.zero_le _, fun e0 he0 => ?_⟩
          have sa := same_new (o := .tup []) he0
          refine ned_lots (L1L.grow sa) (Bs := []) ⟨[], .inl (.inl upd_same), .nil⟩ ?_
          rw [decide_eq_true hL10]
          refine ⟨false, rfl, iteF ?_⟩
          refine ⟨_, rfl, Nat.zero_le _, fun e1 he1 => ?_⟩
          have sb := sa.trans (same_new (o := .tup []) he1)
          refine ⟨by show 1 ≤ sizeLine; decide, fun e2 he2 => ?_⟩
          have sc := same_new (o := .tup [.ref e1]) he2
          refine ned_lots ((L2L.grow sb).grow sc) (Bs := [[]]) ⟨[.ref e1], .inl (.inl upd_same), .cons ⟨e1, rfl, .inl (.inl (sc _ _ upd_same))⟩ .nil⟩ ?_
          rw [decide_eq_true hL20]
          refine ⟨false, rfl, iteF ?_⟩
          exact ⟨⟨_, _, _, _, _, _, _, _, _, _, _, _, _, _, rfl⟩, (DL.keep sb).keep sc, (hTL.grow sb).grow sc, (hLL.grow sb).grow sc⟩
        · rintro σ' HZ ⟨⟨c0, c3, c4, c5, c7, c8, c9, ca, cb, cc, cd, ce, cf, cg, rfl⟩, DZ, hTZ, hLZ⟩
          refine ⟨_, rfl, d, c, 8, rfl, DZ, by decide, by decide, fun n HY hn DY kpY => ⟨rfl, _, rfl, ite2 (fun _ => k _) (fun _ => ?_)⟩⟩
          exact ⟨_, rfl, _, rfl, _, rfl, d, c, tl, l, tbs, rfl, DY, tld, hTZ.kpd tld DZ kpY, hLZ.kpd DZ kpY, by omega, by omega, okT, fun H' => k H'⟩
end
end L2.KK
namespace L2.KK
open PySem PySem.Spec PyProof.Rows C8
def evOf {K : PySem.W.Frag} {h : Heap} {mg : Str → Option Value} (X : K.In h) (G : h.Ns mainGlobals mg) (c : SaysK faL fnL myL K) : Ev K mg where
  Table := He.ga K "Table"
  k_Table := He.glo_ok X G (c.1.fact 75 (f := .glo "Table") rfl)
  c_Table := insB_ok (c.own 0 (f := insB "Table") rfl)
  i_Table := by
    obtain ⟨fd, F⟩ := c.1.def_ 17 (d := dd_Table_init) rfl
    exact ⟨_, fd, F, He.mkr_ok (c.1.fact 76 (f := .mkr "Table") rfl)⟩
  m_Table_eq := by
    obtain ⟨fd, F⟩ := c.1.def_ 18 (d := dd_Table_eq) rfl
    exact ⟨_, fd, F, He.meth_ok (c.1.fact 77 (f := .meth "Table" "__eq__") rfl)⟩
  n_Table_places := He.noat_ok (c.1.fact 78 (f := .noat "Table" "places") rfl)
  n_Table_prices := He.noat_ok (c.1.fact 79 (f := .noat "Table" "prices") rfl)
  n_Table_least := He.noat_ok (c.1.fact 80 (f := .noat "Table" "least") rfl)
  n_Table_most := He.noat_ok (c.1.fact 81 (f := .noat "Table" "most") rfl)
  Lot := He.ga K "Lot"
  k_Lot := He.glo_ok X G (c.1.fact 82 (f := .glo "Lot") rfl)
  c_Lot := insB_ok (c.own 1 (f := insB "Lot") rfl)
  i_Lot := by
    obtain ⟨fd, F⟩ := c.1.def_ 21 (d := dd_Lot_init) rfl
    exact ⟨_, fd, F, He.mkr_ok (c.1.fact 83 (f := .mkr "Lot") rfl)⟩
  n_Lot_tables := He.noat_ok (c.1.fact 84 (f := .noat "Lot" "tables") rfl)
  n_Lot_swaps := He.noat_ok (c.1.fact 85 (f := .noat "Lot" "swaps") rfl)
  Puzzle := He.ga K "Puzzle"
  k_Puzzle := He.glo_ok X G (c.1.fact 86 (f := .glo "Puzzle") rfl)
  c_Puzzle := insB_ok (c.own 2 (f := insB "Puzzle") rfl)
  i_Puzzle := by
    obtain ⟨fd, F⟩ := c.1.def_ 23 (d := dd_Puzzle_init) rfl
    exact ⟨_, fd, F, He.mkr_ok (c.1.fact 87 (f := .mkr "Puzzle") rfl)⟩
  n_Puzzle_lot := He.noat_ok (c.1.fact 88 (f := .noat "Puzzle" "lot") rfl)
  n_Puzzle_many := He.noat_ok (c.1.fact 89 (f := .noat "Puzzle" "many") rfl)
  n_Puzzle_uses := He.noat_ok (c.1.fact 90 (f := .noat "Puzzle" "uses") rfl)
  s_Table_Table := of_decide_eq_true (c.own 3 (f := isiB "Table" "Table" true) rfl)
  s_Lot_Lot := of_decide_eq_true (c.own 4 (f := isiB "Lot" "Lot" true) rfl)
  TooMany := He.ga K "TooMany"
  f_TooMany := He.ma K (He.ga K "TooMany") "__init__"
  k_TooMany := He.glo_ok X G (c.1.fact 91 (f := .glo "TooMany") rfl)
  o_TooMany := ownB_ok (c.own 5 (f := ownB "TooMany") rfl)
  d_TooMany := c.1.def_ 12 (d := dd_TooMany_init) rfl
  n_TooMany_limit := He.noat_ok (c.1.fact 92 (f := .noat "TooMany" "limit") rfl)
  PricedError := He.ga K "PricedError"
  k_PricedError := He.glo_ok X G (c.1.fact 93 (f := .glo "PricedError") rfl)
  b_PricedError := basB_ok (c.own 6 (f := basB "PricedError") rfl)
  e_TooMany_TooMany := He.exm_ok (c.1.fact 94 (f := .exm "TooMany" "TooMany" true) rfl)
theorem factsD {P : Program} {w : World} {K : PySem.W.Frag} {h : Heap} {mg : Str → Option Value} {f : Addr} (X : K.In h) (G : h.Ns mainGlobals mg) (hfa : mg ("law" : Str) = some (.ref f)) (c : SaysK faL fnL myL K) :
    ∃ fd : FuncData, (∀ (s : Shared) (v : Value), BindsTo s fd ⟨[v], []⟩ [("script", v)]) ∧ ∀ base : Heap, K.In base → base.Ns mainGlobals mg → FnOk P w K mg base CX0 14 f fd ["script"] (spLaw K) := by
  have D_is_whole : FnAt K mg "is_whole" s_is_whole := by
    obtain ⟨fd, F⟩ := c.1.def_ 0 (d := dd_is_whole) rfl
    exact ⟨_, fd, F, He.glo_ok X G (c.1.fact 0 (f := .glo "is_whole") rfl)⟩
  have D_times_price : FnAt K mg "times_price" s_times_price := by
    obtain ⟨fd, F⟩ := c.1.def_ 1 (d := dd_times_price) rfl
    exact ⟨_, fd, F, He.glo_ok X G (c.1.fact 1 (f := .glo "times_price") rfl)⟩
  have D_lower : FnAt K mg "lower" s_lower := by
    obtain ⟨fd, F⟩ := c.1.def_ 2 (d := dd_lower) rfl
    exact ⟨_, fd, F, He.glo_ok X G (c.1.fact 2 (f := .glo "lower") rfl)⟩
  have D_lowest : FnAt K mg "lowest" s_lowest := by
    obtain ⟨fd, F⟩ := c.1.def_ 3 (d := dd_lowest) rfl
    exact ⟨_, fd, F, He.glo_ok X G (c.1.fact 3 (f := .glo "lowest") rfl)⟩
  have D_highest : FnAt K mg "highest" s_highest := by
    obtain ⟨fd, F⟩ := c.1.def_ 4 (d := dd_highest) rfl
    exact ⟨_, fd, F, He.glo_ok X G (c.1.fact 4 (f := .glo "highest") rfl)⟩
  have D_bits_of : FnAt K mg "bits_of" s_bits_of := by
    obtain ⟨fd, F⟩ := c.1.def_ 5 (d := dd_bits_of) rfl
    exact ⟨_, fd, F, He.glo_ok X G (c.1.fact 5 (f := .glo "bits_of") rfl)⟩
  have D_bit_count : FnAt K mg "bit_count" s_bit_count := by
    obtain ⟨fd, F⟩ := c.1.def_ 6 (d := dd_bit_count) rfl
    exact ⟨_, fd, F, He.glo_ok X G (c.1.fact 6 (f := .glo "bit_count") rfl)⟩
  have D_firsts : FnAt K mg "firsts" s_firsts := by
    obtain ⟨fd, F⟩ := c.1.def_ 7 (d := dd_firsts) rfl
    exact ⟨_, fd, F, He.glo_ok X G (c.1.fact 7 (f := .glo "firsts") rfl)⟩
  have D_minimal_masks : FnAt K mg "minimal_masks" s_minimal_masks := by
    obtain ⟨fd, F⟩ := c.1.def_ 8 (d := dd_minimal_masks) rfl
    exact ⟨_, fd, F, He.glo_ok X G (c.1.fact 8 (f := .glo "minimal_masks") rfl)⟩
  have D_blocker : FnAt K mg "blocker" s_blocker := by
    obtain ⟨fd, F⟩ := c.1.def_ 9 (d := dd_blocker) rfl
    exact ⟨_, fd, F, He.glo_ok X G (c.1.fact 9 (f := .glo "blocker") rfl)⟩
  have D_as_lots : FnAt K mg "as_lots" s_as_lots := by
    obtain ⟨fd, F⟩ := c.1.def_ 10 (d := dd_as_lots) rfl
    exact ⟨_, fd, F, He.glo_ok X G (c.1.fact 10 (f := .glo "as_lots") rfl)⟩
  have D_lot_rank : FnAt K mg "lot_rank" s_lot_rank := by
    obtain ⟨fd, F⟩ := c.1.def_ 11 (d := dd_lot_rank) rfl
    exact ⟨_, fd, F, He.glo_ok X G (c.1.fact 11 (f := .glo "lot_rank") rfl)⟩
  have D_row_number : FnAt K mg "row_number" s_row_number := by
    obtain ⟨fd, F⟩ := c.1.def_ 13 (d := dd_row_number) rfl
    exact ⟨_, fd, F, He.glo_ok X G (c.1.fact 12 (f := .glo "row_number") rfl)⟩
  have D_row_of : FnAt K mg "row_of" s_row_of := by
    obtain ⟨fd, F⟩ := c.1.def_ 14 (d := dd_row_of) rfl
    exact ⟨_, fd, F, He.glo_ok X G (c.1.fact 13 (f := .glo "row_of") rfl)⟩
  have D_rows_of : FnAt K mg "rows_of" s_rows_of := by
    obtain ⟨fd, F⟩ := c.1.def_ 15 (d := dd_rows_of) rfl
    exact ⟨_, fd, F, He.glo_ok X G (c.1.fact 14 (f := .glo "rows_of") rfl)⟩
  have D_chosen_number : FnAt K mg "chosen_number" s_chosen_number := by
    obtain ⟨fd, F⟩ := c.1.def_ 16 (d := dd_chosen_number) rfl
    exact ⟨_, fd, F, He.glo_ok X G (c.1.fact 15 (f := .glo "chosen_number") rfl)⟩
  have D_swapped : FnAt K mg "swapped" s_swapped := by
    obtain ⟨fd, F⟩ := c.1.def_ 19 (d := dd_swapped) rfl
    exact ⟨_, fd, F, He.glo_ok X G (c.1.fact 16 (f := .glo "swapped") rfl)⟩
  have D_is_told : FnAt K mg "is_told" s_is_told := by
    obtain ⟨fd, F⟩ := c.1.def_ 20 (d := dd_is_told) rfl
    exact ⟨_, fd, F, He.glo_ok X G (c.1.fact 17 (f := .glo "is_told") rfl)⟩
  have D_is_use : FnAt K mg "is_use" s_is_use := by
    obtain ⟨fd, F⟩ := c.1.def_ 22 (d := dd_is_use) rfl
    exact ⟨_, fd, F, He.glo_ok X G (c.1.fact 18 (f := .glo "is_use") rfl)⟩
  have D_merged : FnAt K mg "merged" s_merged := by
    obtain ⟨fd, F⟩ := c.1.def_ 24 (d := dd_merged) rfl
    exact ⟨_, fd, F, He.glo_ok X G (c.1.fact 19 (f := .glo "merged") rfl)⟩
  have D_all_merged : FnAt K mg "all_merged" s_all_merged := by
    obtain ⟨fd, F⟩ := c.1.def_ 25 (d := dd_all_merged) rfl
    exact ⟨_, fd, F, He.glo_ok X G (c.1.fact 20 (f := .glo "all_merged") rfl)⟩
  have D_spread : FnAt K mg "spread" s_spread := by
    obtain ⟨fd, F⟩ := c.1.def_ 26 (d := dd_spread) rfl
    exact ⟨_, fd, F, He.glo_ok X G (c.1.fact 21 (f := .glo "spread") rfl)⟩
  have D_open_masks : FnAt K mg "open_masks" s_open_masks := by
    obtain ⟨fd, F⟩ := c.1.def_ 27 (d := dd_open_masks) rfl
    exact ⟨_, fd, F, He.glo_ok X G (c.1.fact 22 (f := .glo "open_masks") rfl)⟩
  have D_left_mask : FnAt K mg "left_mask" s_left_mask := by
    obtain ⟨fd, F⟩ := c.1.def_ 28 (d := dd_left_mask) rfl
    exact ⟨_, fd, F, He.glo_ok X G (c.1.fact 23 (f := .glo "left_mask") rfl)⟩
  have D_clashes : FnAt K mg "clashes" s_clashes := by
    obtain ⟨fd, F⟩ := c.1.def_ 29 (d := dd_clashes) rfl
    exact ⟨_, fd, F, He.glo_ok X G (c.1.fact 24 (f := .glo "clashes") rfl)⟩
  have D_menders : FnAt K mg "menders" s_menders := by
    obtain ⟨fd, F⟩ := c.1.def_ 30 (d := dd_menders) rfl
    exact ⟨_, fd, F, He.glo_ok X G (c.1.fact 25 (f := .glo "menders") rfl)⟩
  have D_menders_of : FnAt K mg "menders_of" s_menders_of := by
    obtain ⟨fd, F⟩ := c.1.def_ 31 (d := dd_menders_of) rfl
    exact ⟨_, fd, F, He.glo_ok X G (c.1.fact 26 (f := .glo "menders_of") rfl)⟩
  have D_law_begin : FnAt K mg "_law_begin" s_law_begin := by
    obtain ⟨fd, F⟩ := c.1.def_ 32 (d := dd_law_begin) rfl
    exact ⟨_, fd, F, He.glo_ok X G (c.1.fact 27 (f := .glo "_law_begin") rfl)⟩
  have D_law_draw : FnAt K mg "_law_draw" s_law_draw := by
    obtain ⟨fd, F⟩ := c.1.def_ 33 (d := dd_law_draw) rfl
    exact ⟨_, fd, F, He.glo_ok X G (c.1.fact 28 (f := .glo "_law_draw") rfl)⟩
  have D_law_rare : FnAt K mg "_law_rare" s_law_rare := by
    obtain ⟨fd, F⟩ := c.1.def_ 34 (d := dd_law_rare) rfl
    exact ⟨_, fd, F, He.glo_ok X G (c.1.fact 29 (f := .glo "_law_rare") rfl)⟩
  have D_law_row : FnAt K mg "_law_row" s_law_row := by
    obtain ⟨fd, F⟩ := c.1.def_ 35 (d := dd_law_row) rfl
    exact ⟨_, fd, F, He.glo_ok X G (c.1.fact 30 (f := .glo "_law_row") rfl)⟩
  have D_law_rows : FnAt K mg "_law_rows" s_law_rows := by
    obtain ⟨fd, F⟩ := c.1.def_ 36 (d := dd_law_rows) rfl
    exact ⟨_, fd, F, He.glo_ok X G (c.1.fact 31 (f := .glo "_law_rows") rfl)⟩
  have D_law_ones : FnAt K mg "_law_ones" s_law_ones := by
    obtain ⟨fd, F⟩ := c.1.def_ 37 (d := dd_law_ones) rfl
    exact ⟨_, fd, F, He.glo_ok X G (c.1.fact 32 (f := .glo "_law_ones") rfl)⟩
  have D_law_low : FnAt K mg "_law_low" s_law_low := by
    obtain ⟨fd, F⟩ := c.1.def_ 38 (d := dd_law_low) rfl
    exact ⟨_, fd, F, He.glo_ok X G (c.1.fact 33 (f := .glo "_law_low") rfl)⟩
  have D_law_times : FnAt K mg "_law_times" s_law_times := by
    obtain ⟨fd, F⟩ := c.1.def_ 39 (d := dd_law_times) rfl
    exact ⟨_, fd, F, He.glo_ok X G (c.1.fact 34 (f := .glo "_law_times") rfl)⟩
  have D_law_cost : FnAt K mg "_law_cost" s_law_cost := by
    obtain ⟨fd, F⟩ := c.1.def_ 40 (d := dd_law_cost) rfl
    exact ⟨_, fd, F, He.glo_ok X G (c.1.fact 35 (f := .glo "_law_cost") rfl)⟩
  have D_law_opened : FnAt K mg "_law_opened" s_law_opened := by
    obtain ⟨fd, F⟩ := c.1.def_ 41 (d := dd_law_opened) rfl
    exact ⟨_, fd, F, He.glo_ok X G (c.1.fact 36 (f := .glo "_law_opened") rfl)⟩
  have D_law_loose : FnAt K mg "_law_loose" s_law_loose := by
    obtain ⟨fd, F⟩ := c.1.def_ 42 (d := dd_law_loose) rfl
    exact ⟨_, fd, F, He.glo_ok X G (c.1.fact 37 (f := .glo "_law_loose") rfl)⟩
  have D_law_uses : FnAt K mg "_law_uses" s_law_uses := by
    obtain ⟨fd, F⟩ := c.1.def_ 43 (d := dd_law_uses) rfl
    exact ⟨_, fd, F, He.glo_ok X G (c.1.fact 38 (f := .glo "_law_uses") rfl)⟩
  have D_law_use_price : FnAt K mg "_law_use_price" s_law_use_price := by
    obtain ⟨fd, F⟩ := c.1.def_ 44 (d := dd_law_use_price) rfl
    exact ⟨_, fd, F, He.glo_ok X G (c.1.fact 39 (f := .glo "_law_use_price") rfl)⟩
  have D_law_least_masks : FnAt K mg "_law_least_masks" s_law_least_masks := by
    obtain ⟨fd, F⟩ := c.1.def_ 45 (d := dd_law_least_masks) rfl
    exact ⟨_, fd, F, He.glo_ok X G (c.1.fact 40 (f := .glo "_law_least_masks") rfl)⟩
  have D_law_lots : FnAt K mg "_law_lots" s_law_lots := by
    obtain ⟨fd, F⟩ := c.1.def_ 46 (d := dd_law_lots) rfl
    exact ⟨_, fd, F, He.glo_ok X G (c.1.fact 41 (f := .glo "_law_lots") rfl)⟩
  have D_law_lot_rank : FnAt K mg "_law_lot_rank" s_law_lot_rank := by
    obtain ⟨fd, F⟩ := c.1.def_ 47 (d := dd_law_lot_rank) rfl
    exact ⟨_, fd, F, He.glo_ok X G (c.1.fact 42 (f := .glo "_law_lot_rank") rfl)⟩
  have D_law_open_masks : FnAt K mg "_law_open_masks" s_law_open_masks := by
    obtain ⟨fd, F⟩ := c.1.def_ 48 (d := dd_law_open_masks) rfl
    exact ⟨_, fd, F, He.glo_ok X G (c.1.fact 43 (f := .glo "_law_open_masks") rfl)⟩
  have D_law_left : FnAt K mg "_law_left" s_law_left := by
    obtain ⟨fd, F⟩ := c.1.def_ 49 (d := dd_law_left) rfl
    exact ⟨_, fd, F, He.glo_ok X G (c.1.fact 44 (f := .glo "_law_left") rfl)⟩
  have D_law_limit : FnAt K mg "_law_limit" s_law_limit := by
    obtain ⟨fd, F⟩ := c.1.def_ 50 (d := dd_law_limit) rfl
    exact ⟨_, fd, F, He.glo_ok X G (c.1.fact 45 (f := .glo "_law_limit") rfl)⟩
  have D_law_limits_ok : FnAt K mg "_law_limits_ok" s_law_limits_ok := by
    obtain ⟨fd, F⟩ := c.1.def_ 51 (d := dd_law_limits_ok) rfl
    exact ⟨_, fd, F, He.glo_ok X G (c.1.fact 46 (f := .glo "_law_limits_ok") rfl)⟩
  have T : Bl mg := ⟨He.free_ok X G (c.1.fact 48 (f := .free "NotImplemented") rfl), He.free_ok X G (c.1.fact 49 (f := .free "ValueError") rfl), He.free_ok X G (c.1.fact 50 (f := .free "abs") rfl), He.free_ok X G (c.1.fact 51 (f := .free "all") rfl), He.free_ok X G (c.1.fact 52 (f := .free "any") rfl), He.free_ok X G (c.1.fact 53 (f := .free "bool") rfl), He.free_ok X G (c.1.fact 54 (f := .free "enumerate") rfl), He.free_ok X G (c.1.fact 55 (f := .free "int") rfl), He.free_ok X G (c.1.fact 56 (f := .free "isinstance") rfl), He.free_ok X G (c.1.fact 57 (f := .free "len") rfl), He.free_ok X G (c.1.fact 58 (f := .free "list") rfl), He.free_ok X G (c.1.fact 59 (f := .free "property") rfl), He.free_ok X G (c.1.fact 60 (f := .free "range") rfl), He.free_ok X G (c.1.fact 61 (f := .free "reversed") rfl), He.free_ok X G (c.1.fact 62 (f := .free "sorted") rfl), He.free_ok X G (c.1.fact 63 (f := .free "sum") rfl), He.free_ok X G (c.1.fact 64 (f := .free "tuple") rfl), He.free_ok X G (c.1.fact 65 (f := .free "zip") rfl), (by obtain ⟨t, h⟩ := He.int_ok X G (c.1.fact 66 (f := .int "PLACES" 4) rfl); exact ⟨_, h, ⟨t, rfl⟩⟩), (by obtain ⟨t, h⟩ := He.int_ok X G (c.1.fact 67 (f := .int "GREATEST" 100000000000000000000000000000000000000000000000000) rfl); exact ⟨_, h, ⟨t, rfl⟩⟩), (by obtain ⟨t, h⟩ := He.int_ok X G (c.1.fact 68 (f := .int "TABLES" 16) rfl); exact ⟨_, h, ⟨t, rfl⟩⟩), (by obtain ⟨t, h⟩ := He.int_ok X G (c.1.fact 69 (f := .int "DEAREST" 1000) rfl); exact ⟨_, h, ⟨t, rfl⟩⟩), (by obtain ⟨t, h⟩ := He.int_ok X G (c.1.fact 70 (f := .int "NAMES" 400) rfl); exact ⟨_, h, ⟨t, rfl⟩⟩), (by obtain ⟨t, h⟩ := He.int_ok X G (c.1.fact 71 (f := .int "USES" 20000) rfl); exact ⟨_, h, ⟨t, rfl⟩⟩), (by obtain ⟨t, h⟩ := He.int_ok X G (c.1.fact 72 (f := .int "TIMES" 10000000000000000000000000000000000000000) rfl); exact ⟨_, h, ⟨t, rfl⟩⟩), (by obtain ⟨t, h⟩ := He.int_ok X G (c.1.fact 73 (f := .int "SEARCHED" 12) rfl); exact ⟨_, h, ⟨t, rfl⟩⟩), (by obtain ⟨t, h⟩ := He.int_ok X G (c.1.fact 74 (f := .int "CLASHED" 10) rfl); exact ⟨_, h, ⟨t, rfl⟩⟩)⟩
  have Z : Ev K mg := evOf X G c
  obtain ⟨fd, F⟩ := c.1.def_ 52 (d := dd_law) rfl
  have e := hfa.symm.trans (He.glo_ok X G (c.1.fact 47 (f := .glo "law") rfl))
  cases e
  have b := FunD.bindsA (ps := ["script"]) F fun _ _ _ _ _ _ us hl => match us, hl with | [_], _ => rfl
  refine ⟨fd, fun s v => b s [v] rfl, fun base _ _ => ?_⟩
  have c_bits_of := c_bits_of (P := P) (w := w) (base := base) D_bits_of T
  have c_bit_count := c_bit_count (P := P) (w := w) (base := base) D_bit_count T
  have c_minimal := c_minimal D_minimal_masks T c_bit_count
  have c_blocker := c_blocker D_blocker T c_bits_of c_minimal
  have c_rank := c_rank (P := P) (w := w) (base := base) D_lot_rank T
  have c_as_lots := c_as_lots D_as_lots T c_bits_of c_rank
  have c_begin := c_begin (P := P) (w := w) (base := base) D_law_begin T
  have c_draw := c_draw (P := P) (w := w) (base := base) D_law_draw T
  have c_rare := c_rare D_law_rare T c_draw
  have c_ones := c_ones (P := P) (w := w) (base := base) D_law_ones T
  have c_least := c_least D_law_least_masks T c_ones
  have c_lrank := c_lrank (P := P) (w := w) (base := base) D_law_lot_rank T
  have c_llots := c_llots D_law_lots T c_lrank
  have c_whole := c_is_whole (P := P) (w := w) (base := base) D_is_whole T
  have c_lower := c_lower (P := P) (w := w) (base := base) D_lower T
  have c_lowest := c_lowest D_lowest T c_lower
  have c_highest := c_highest (P := P) (w := w) (base := base) D_highest T
  have c_times := c_times_price (P := P) (w := w) (base := base) D_times_price T
  have c_ltimes := c_law_times (P := P) (w := w) (base := base) D_law_times T
  have c_row := c_row_of (P := P) (w := w) (base := base) D_row_of T
  have c_rows := c_rows_of D_rows_of T c_row
  have c_lrow := c_law_row (P := P) (w := w) (base := base) D_law_row T
  have c_lrows := c_law_rows D_law_rows T c_lrow
  have c_chosen := c_chosen_number (P := P) (w := w) (base := base) D_chosen_number T
  have c_firsts := c_firsts (P := P) (w := w) (base := base) D_firsts T
  have c_Table := c_Table Z T c_whole c_lowest c_highest
  have c_Table_eq := c_Table_eq (P := P) (w := w) (base := base) Z T
  have c_swapped := c_swapped D_swapped Z T c_Table
  have c_told := c_is_told (P := P) (w := w) (base := base) D_is_told Z T
  have c_Lot := c_Lot Z T c_told c_swapped c_Table_eq
  have c_use := c_is_use D_is_use Z T c_whole
  have c_Puzzle := c_Puzzle Z T c_whole c_use
  have x_Too := x_TooMany (P := P) (w := w) (base := base) Z T
  have c_merged := c_merged D_merged Z T c_firsts c_rows c_times c_chosen
  have c_all := c_all_merged D_all_merged Z T c_merged
  have c_spread := c_spread (P := P) (w := w) (base := base) D_spread T
  have c_open := c_open_masks D_open_masks Z T x_Too c_all c_spread
  have c_left := c_left_mask D_left_mask T c_bits_of
  have c_cl := c_clashes D_clashes Z T x_Too c_open c_left c_minimal c_as_lots
  have c_me := c_menders D_menders Z T x_Too c_open c_left c_minimal c_as_lots
  have c_mof := c_menders_of D_menders_of T c_blocker c_as_lots
  have c_low := c_law_low (P := P) (w := w) (base := base) D_law_low T
  have c_cost := c_law_cost D_law_cost T c_rare c_draw
  have c_opened := c_law_opened D_law_opened T c_low c_cost c_draw
  have c_loose := c_law_loose D_law_loose T c_draw c_cost c_opened
  have c_uses := c_law_uses D_law_uses T c_draw
  have c_upr := c_law_use_price D_law_use_price T c_ltimes
  have c_lopen := c_law_open_masks D_law_open_masks T c_lrows c_upr
  have c_lleft := c_law_left (P := P) (w := w) (base := base) D_law_left T
  have c_limit := c_law_limit D_law_limit Z T c_cl c_me
  have c_limits := c_law_limits_ok D_law_limits_ok Z T c_draw c_uses c_Puzzle c_limit
  exact ok_law F Z T c_begin c_draw c_loose c_uses c_Table c_Lot c_Puzzle c_lopen c_lleft c_cl.calm c_me.calm c_least c_llots c_mof c_limits
end L2.KK
open PySem PySem.W PySem.Calls PyProof.Rows
theorem PySem.Challenge.cw_pricedrules_k77_clashes_menders_holds : PySem.Challenge.rw_pricedrules_k77_clashes_menders.Holds := by
  w_on; o_law
  refine HandSHeadRun.head_any (r := OpenLaw.row PySem.Challenge.rw_pricedrules_k77_clashes_menders) (q := view (OpenLaw.row PySem.Challenge.rw_pricedrules_k77_clashes_menders).prog [80]) (H := L2.KK.hkD) (ob := L2.KK.obD) (M := 8000) (loose := L2.KK.looseL) (d := HandSHeadRun.topDef (OpenLaw.row PySem.Challenge.rw_pricedrules_k77_clashes_menders).prog 80) (kwd := []) L2.KK.obD_eq
    (by kernel_rfl) (fun s => by kernel_rfl) L2.KK.runD (by kernel_rfl) (by kernel_rfl) (by kernel_rfl) (by rfl) (by first | assumption | decide +kernel) (by decide +kernel) ⟨rfl, rfl, rfl, rfl, rfl, by decide +kernel⟩ ?hw ?hc
  case hw => w_witness2
  case hc =>
    refine L2.walk_ofE (l := PySem.Challenge.rw_pricedrules_k77_clashes_menders) (n := 63) (k := 14) (x := "script") (CX := L2.CX0) rfl (by decide) (by kernel_rfl) ⟨rfl, by decide, by decide⟩ ?F (fun _ _ _ _ z => z)
    intro w mg fa h Y G hmg0
    obtain ⟨K, KX, c⟩ := Y
    have hmg : mg ("law" : PySem.Str) = some (.ref fa) := by
      have e : (HandSHeadRun.topDef (OpenLaw.row PySem.Challenge.rw_pricedrules_k77_clashes_menders).prog 80).name = ("law" : PySem.Str) := by kernel_rfl
      rw [← e]
      exact hmg0
    obtain ⟨fd, hb, hF⟩ := L2.KK.factsD (P := (PySem.Challenge.rw_pricedrules_k77_clashes_menders).prog) (w := w) KX G hmg c
    exact ⟨K, fd, L2.KK.spLaw K, KX, hb, fun H a ns hl _ hS => ⟨a, ns, rfl, hS, hl, fun _ => rfl⟩, hF⟩
