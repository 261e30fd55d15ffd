import PyProof.Rows.All
import Wide.All
import OpenK.AllK
import Wide.FinOn
import KE.KStateDown
import Lean
import KE.KSortKey
import HandS.ForMost
import HandS.SortInts
import HandS.SortOrd
import HandS.SortRule
import HandS.SortKw
import HandS.Codes
import KE.Datum
import KE.KEqDeep
import HandS.NamedTupSort
import HandS.Strs
import HandS.SetFor
import HandS.Zip
import HandS.Conv
import HandS.IsInst
import HandS.WideBits
import KE.OsArith
import HandS.Defaults
import HandS.Head0
import HandS.Head1
import HandS.Head2
import HandS.HeadEnd
import HandS.HeadHook1
import HandS.HeadHook2
import HandS.TupAny
import HandS.Exc
import HandS.ExcOwn
import HandS.ExcField
import HandS.ExcInit
import HandS.WordsExc
import HandS.ClsMeth
import HandS.Dict
import HandS.Walk
import HandS.Rev
import HandS.ExcIs
import HandS.DeepEq
import HandS.OwnEq
import HandS.Style
import HandS.Star
import PySem.Challenge.RW_pricedrules_k86_ledger_undo_redo_twin
set_option Elab.async false
set_option linter.all false
set_option maxRecDepth 100000
set_option maxHeartbeats 0
/-! Masks, least masks, blockers: plain mathematics for law k76 (and k77). -/
namespace MK
/-- a lies within b -/
abbrev sub (a b : Nat) : Prop := a &&& b = a
theorem sub_iff {a b : Nat} : sub a b ↔ ∀ i, a.testBit i = true → b.testBit i = true := by
  constructor
  · intro h i hi
    have e : (a &&& b).testBit i = a.testBit i := by rw [h]
    rw [Nat.testBit_and, hi] at e
    simpa using e
  · intro h
    apply Nat.eq_of_testBit_eq
    intro i
    rw [Nat.testBit_and]
    cases q : a.testBit i with
    | false => rfl
    | true => rw [h i q]; rfl
theorem sub_refl (a : Nat) : sub a a := Nat.and_self a
theorem sub_trans {a b c : Nat} (h : sub a b) (k : sub b c) : sub a c := sub_iff.mpr fun i x => sub_iff.mp k i (sub_iff.mp h i x)
theorem sub_anti {a b : Nat} (h : sub a b) (k : sub b a) : a = b := by
  have k' : b &&& a = b := k
  rw [Nat.and_comm] at k'
  exact h.symm.trans k'
theorem sub_zero (a : Nat) : sub 0 a := Nat.zero_and a
theorem sub_le {a b : Nat} (h : sub a b) : a ≤ b := by
  have e : a &&& b ≤ b := Nat.and_le_right
  rw [h] at e
  exact e
theorem sub_lt {a b n : Nat} (h : sub a b) (k : b < n) : a < n := Nat.lt_of_le_of_lt (sub_le h) k
theorem sub_or_left (a b : Nat) : sub a (a ||| b) := sub_iff.mpr fun i h => by rw [Nat.testBit_or, h]; rfl
theorem sub_or_right (a b : Nat) : sub b (a ||| b) := sub_iff.mpr fun i h => by rw [Nat.testBit_or, h, Bool.or_true]
theorem or_sub {a b c : Nat} (h : sub a c) (k : sub b c) : sub (a ||| b) c := sub_iff.mpr fun i x => by
  rw [Nat.testBit_or, Bool.or_eq_true] at x
  rcases x with x | x
  · exact sub_iff.mp h i x
  · exact sub_iff.mp k i x
theorem bit_sub {i b : Nat} : sub (2 ^ i) b ↔ b.testBit i = true := by
  rw [sub_iff]
  constructor
  · intro h
    exact h i (by rw [Nat.testBit_two_pow]; simp)
  · intro h j hj
    rw [Nat.testBit_two_pow] at hj
    have e : i = j := of_decide_eq_true hj
    rw [← e]; exact h
theorem and_ne {a b : Nat} : a &&& b ≠ 0 ↔ ∃ i, a.testBit i = true ∧ b.testBit i = true := by
  constructor
  · intro h
    obtain ⟨i, hi⟩ := Nat.exists_testBit_of_ne_zero h
    rw [Nat.testBit_and, Bool.and_eq_true] at hi
    exact ⟨i, hi⟩
  · rintro ⟨i, h1, h2⟩ e
    have : (a &&& b).testBit i = true := by rw [Nat.testBit_and, h1, h2]; rfl
    rw [e, Nat.zero_testBit] at this
    cases this
theorem meet_mono {a b m : Nat} (h : sub a b) (k : a &&& m ≠ 0) : b &&& m ≠ 0 := by
  obtain ⟨i, h1, h2⟩ := and_ne.mp k
  exact and_ne.mpr ⟨i, sub_iff.mp h i h1, h2⟩

/-! ### how many bits -/
def pcf : Nat → Nat → Nat
  | 0, _ => 0
  | f + 1, n => n % 2 + pcf f (n / 2)
theorem pcf_eq : ∀ (f n : Nat), n ≤ f → ∀ g, n ≤ g → pcf f n = pcf g n
  | 0, n, h, g, _ => by
    have e : n = 0 := by omega
    subst e
    clear h
    induction g with
    | zero => rfl
    | succ g ih => show 0 = 0 % 2 + pcf g (0 / 2); rw [← ih (Nat.zero_le _)]; rfl
  | f + 1, n, h, g, hg => by
    cases g with
    | zero =>
      have e : n = 0 := by omega
      subst e
      have : ∀ f, pcf f 0 = 0 := fun f => by
        induction f with
        | zero => rfl
        | succ f ih => show 0 % 2 + pcf f (0 / 2) = 0; rw [Nat.zero_div, ih]
      rw [this, this]
    | succ g =>
      show n % 2 + pcf f (n / 2) = n % 2 + pcf g (n / 2)
      rw [pcf_eq f (n / 2) (by omega) g (by omega)]
/-- how many bits are set -/
def pc (n : Nat) : Nat := pcf n n
theorem pc_zero : pc 0 = 0 := rfl
theorem pc_rec (n : Nat) : pc n = n % 2 + pc (n / 2) := by
  cases n with
  | zero => rfl
  | succ n =>
    show (n + 1) % 2 + pcf n ((n + 1) / 2) = (n + 1) % 2 + pcf ((n + 1) / 2) ((n + 1) / 2)
    rw [pcf_eq n ((n + 1) / 2) (by omega) ((n + 1) / 2) (Nat.le_refl _)]
theorem sub_half {a b : Nat} (h : sub a b) : sub (a / 2) (b / 2) ∧ a % 2 ≤ b % 2 := by
  constructor
  · show a / 2 &&& b / 2 = a / 2
    rw [← Nat.and_div_two, h]
  · have k := sub_iff.mp h 0
    rw [Nat.testBit_zero, Nat.testBit_zero, decide_eq_true_eq, decide_eq_true_eq] at k
    omega
theorem pc_mono : ∀ (n a b : Nat), b ≤ n → sub a b → pc a ≤ pc b ∧ (pc a = pc b → a = b)
  | 0, a, b, hn, h => by
    have e : b = 0 := by omega
    have e2 : a = 0 := by have := sub_le h; omega
    subst e; subst e2
    exact ⟨Nat.le_refl _, fun _ => rfl⟩
  | n + 1, a, b, hn, h => by
    by_cases hb : b = 0
    · have e2 : a = 0 := by have := sub_le h; omega
      subst hb; subst e2
      exact ⟨Nat.le_refl _, fun _ => rfl⟩
    · obtain ⟨h1, h2⟩ := sub_half h
      obtain ⟨k1, k2⟩ := pc_mono n (a / 2) (b / 2) (by omega) h1
      rw [pc_rec a, pc_rec b]
      refine ⟨by omega, fun e => ?_⟩
      have e1 : pc (a / 2) = pc (b / 2) := by omega
      have := k2 e1
      omega
theorem pc_le {a b : Nat} (h : sub a b) : pc a ≤ pc b := (pc_mono b a b (Nat.le_refl _) h).1
theorem pc_inj {a b : Nat} (h : sub a b) (e : pc b ≤ pc a) : a = b := (pc_mono b a b (Nat.le_refl _) h).2 (Nat.le_antisymm (pc_le h) e)
theorem clear_low : ∀ (n k : Nat), k ≤ n → 0 < k → pc (k &&& (k - 1)) + 1 = pc k ∧ k &&& (k - 1) < k
  | 0, k, h, h0 => by omega
  | n + 1, k, h, h0 => by
    have lt : k &&& (k - 1) < k := by
      have : k &&& (k - 1) ≤ k - 1 := Nat.and_le_right
      omega
    refine ⟨?_, lt⟩
    rw [pc_rec (k &&& (k - 1)), pc_rec k, Nat.and_div_two]
    by_cases hodd : k % 2 = 1
    · have e1 : (k &&& (k - 1)) % 2 = 0 := by
        have q := @Nat.and_mod_two_eq_one k (k - 1)
        have : ¬ (k - 1) % 2 = 1 := by omega
        omega
      have e2 : (k - 1) / 2 = k / 2 := by omega
      rw [e1, e2, Nat.and_self, hodd]
      omega
    · have e1 : (k &&& (k - 1)) % 2 = 0 := by
        have q := @Nat.and_mod_two_eq_one k (k - 1)
        omega
      have e2 : (k - 1) / 2 = k / 2 - 1 := by omega
      obtain ⟨i1, _⟩ := clear_low n (k / 2) (by omega) (by omega)
      rw [e1, e2]
      omega

/-! ### least ones -/
/-- x is least among S -/
def MinOf (S : Nat → Prop) (x : Nat) : Prop := S x ∧ ∀ k, S k → sub k x → k = x
/-- known first: keep x if none that is kept lies within it -/
def greedy : List Nat → List Nat → List Nat
  | acc, [] => acc
  | acc, x :: xs => if acc.any (fun k => k &&& x == k) then greedy acc xs else greedy (acc ++ [x]) xs
theorem greedy_append : ∀ (xs ys acc : List Nat), greedy acc (xs ++ ys) = greedy (greedy acc xs) ys
  | [], _, _ => rfl
  | x :: xs, ys, acc => by
    show (if _ then _ else _) = greedy (if _ then _ else _) ys
    split <;> exact greedy_append xs ys _
theorem any_sub {acc : List Nat} {x : Nat} : acc.any (fun k => k &&& x == k) = true ↔ ∃ k ∈ acc, sub k x := by
  rw [List.any_eq_true]
  constructor
  · rintro ⟨k, h, e⟩
    exact ⟨k, h, by simpa using e⟩
  · rintro ⟨k, h, e⟩
    exact ⟨k, h, by simpa using e⟩
theorem greedy_spec : ∀ (xs acc : List Nat), (acc ++ xs).Pairwise (fun a b => pc a ≤ pc b) → acc.Pairwise (fun a b => ¬ sub a b) →
    (∀ x ∈ greedy acc xs, x ∈ acc ++ xs) ∧ (∀ x ∈ acc ++ xs, ∃ k ∈ greedy acc xs, sub k x) ∧ (greedy acc xs).Pairwise (fun a b => ¬ sub a b) ∧ (greedy acc xs).Pairwise (fun a b => pc a ≤ pc b)
  | [], acc, h, h2 => by
    rw [List.append_nil] at h ⊢
    exact ⟨fun x hx => hx, fun x hx => ⟨x, hx, sub_refl x⟩, h2, h⟩
  | x :: xs, acc, h, h2 => by
    unfold greedy
    split
    · rename_i hs
      obtain ⟨k, hk, hkx⟩ := any_sub.mp hs
      have h' : (acc ++ xs).Pairwise (fun a b => pc a ≤ pc b) := h.sublist (List.Sublist.append (List.Sublist.refl _) (List.sublist_cons_self _ _))
      obtain ⟨a1, a2, a3, a4⟩ := greedy_spec xs acc h' h2
      refine ⟨fun y hy => ?_, fun y hy => ?_, a3, a4⟩
      · rcases List.mem_append.mp (a1 y hy) with z | z
        · exact List.mem_append_left _ z
        · exact List.mem_append_right _ (List.mem_cons_of_mem _ z)
      · rcases List.mem_append.mp hy with z | z
        · exact a2 y (List.mem_append_left _ z)
        · rcases List.mem_cons.mp z with z | z
          · subst z
            obtain ⟨k', hk', hs'⟩ := a2 k (List.mem_append_left _ hk)
            exact ⟨k', hk', sub_trans hs' hkx⟩
          · exact a2 y (List.mem_append_right _ z)
    · rename_i hs
      have no : ∀ k ∈ acc, ¬ sub k x := fun k hk hkx => hs (any_sub.mpr ⟨k, hk, hkx⟩)
      have e : acc ++ [x] ++ xs = acc ++ x :: xs := by simp
      have h2' : (acc ++ [x]).Pairwise (fun a b => ¬ sub a b) := by
        rw [List.pairwise_append]
        refine ⟨h2, List.pairwise_singleton _ _, fun a ha b hb => ?_⟩
        rw [List.mem_singleton.mp hb]
        exact no a ha
      obtain ⟨a1, a2, a3, a4⟩ := greedy_spec xs (acc ++ [x]) (by rw [e]; exact h) h2'
      rw [e] at a1 a2
      exact ⟨a1, a2, a3, a4⟩
/-- G holds just the least ones of S, smaller ones first, each once -/
structure Least (G : List Nat) (S : Nat → Prop) : Prop where
  nd : G.Nodup
  mem : ∀ x, x ∈ G ↔ MinOf S x
  up : G.Pairwise (fun a b => pc a ≤ pc b)
theorem pairwise_both {R : Nat → Nat → Prop} : ∀ {l : List Nat}, l.Pairwise R → ∀ {i j : Nat} {a b : Nat}, l[i]? = some a → l[j]? = some b → i < j → R a b := by
  intro l h i j a b ha hb hij
  obtain ⟨hi, e1⟩ := List.getElem?_eq_some_iff.mp ha
  obtain ⟨hj, e2⟩ := List.getElem?_eq_some_iff.mp hb
  rw [← e1, ← e2]
  exact List.pairwise_iff_getElem.mp h i j hi hj hij
theorem greedy_least {L : List Nat} (h : L.Pairwise (fun a b => pc a ≤ pc b)) : Least (greedy [] L) (· ∈ L) := by
  obtain ⟨a1, a2, a3, a4⟩ := greedy_spec L [] h List.Pairwise.nil
  have anti : ∀ a ∈ greedy [] L, ∀ b ∈ greedy [] L, sub a b → a = b := fun a ha b hb hs => by
    obtain ⟨i, hi⟩ := List.getElem?_of_mem ha
    obtain ⟨j, hj⟩ := List.getElem?_of_mem hb
    rcases Nat.lt_trichotomy i j with z | z | z
    · exact absurd hs (pairwise_both a3 hi hj z)
    · subst z
      rw [hi] at hj
      exact Option.some.inj hj
    · have := pairwise_both a4 hj hi z
      exact pc_inj hs this
  refine ⟨a3.imp fun {a b} (h : ¬ sub a b) (e : a = b) => h (by rw [e]; exact sub_refl b), fun x => ⟨fun hx => ⟨a1 x hx, fun k hk hs => ?_⟩, fun hx => ?_⟩, a4⟩
  · obtain ⟨k', hk', hs'⟩ := a2 k hk
    have e := anti k' hk' x hx (sub_trans hs' hs)
    subst e
    exact sub_anti hs hs'
  · obtain ⟨k', hk', hs'⟩ := a2 x hx.1
    rw [← hx.2 k' (a1 k' hk') hs']
    exact hk'
theorem Least.perm {G G' : List Nat} {S S' : Nat → Prop} (a : Least G S) (b : Least G' S') (h : ∀ x, MinOf S x ↔ MinOf S' x) : G.Perm G' :=
  (List.perm_ext_iff_of_nodup a.nd b.nd).mpr fun x => by rw [a.mem, b.mem, h]
theorem MinOf.congr {S S' : Nat → Prop} (h : ∀ x, S x ↔ S' x) (x : Nat) : MinOf S x ↔ MinOf S' x := by
  unfold MinOf
  rw [h x]
  exact and_congr_right fun _ => ⟨fun f k hk => f k ((h k).mpr hk), fun f k hk => f k ((h k).mp hk)⟩
/-- A among B, and each of B holds one of A: the least ones are the same -/
theorem MinOf.dense {A B : Nat → Prop} (h : ∀ x, A x → B x) (k : ∀ x, B x → ∃ y, A y ∧ sub y x) (x : Nat) : MinOf A x ↔ MinOf B x := by
  constructor
  · rintro ⟨ax, hx⟩
    refine ⟨h x ax, fun y hy hs => ?_⟩
    obtain ⟨z, az, hz⟩ := k y hy
    have e := hx z az (sub_trans hz hs)
    subst e
    exact sub_anti hs hz
  · rintro ⟨bx, hx⟩
    obtain ⟨z, az, hz⟩ := k x bx
    have e := hx z (h z az) hz
    subst e
    exact ⟨az, fun y hy hs => hx y (h y hy) hs⟩
/-- each holds a least one -/
theorem exists_min {S : Nat → Prop} : ∀ (n x : Nat), x ≤ n → S x → ∃ y, MinOf S y ∧ sub y x
  | n, x, hn, hx => by
    by_cases h : ∃ k, S k ∧ sub k x ∧ k ≠ x
    · obtain ⟨k, hk, hs, ne⟩ := h
      have lt : k < x := by
        have := sub_le hs
        omega
      cases n with
      | zero => omega
      | succ n =>
        obtain ⟨y, hy, hys⟩ := exists_min n k (by omega) hk
        exact ⟨y, hy, sub_trans hys hs⟩
    · refine ⟨x, ⟨hx, fun k hk hs => ?_⟩, sub_refl x⟩
      exact Classical.byContradiction fun ne => h ⟨k, hk, hs, ne⟩
theorem min_min {S : Nat → Prop} (x : Nat) : MinOf (MinOf S) x ↔ MinOf S x := MinOf.dense (fun _ h => h.1) (fun x hx => exists_min x x (Nat.le_refl _) hx) x

/-! ### meeting -/
/-- t meets each of ms, over many numbers -/
def Tr (ms : List Nat) (many : Nat) (t : Nat) : Prop := t < 2 ^ many ∧ ∀ m ∈ ms, t &&& m ≠ 0
def bitsOf (m many : Nat) : List Nat := (List.range many).filter fun i => m.testBit i
theorem mem_bitsOf {m many i : Nat} : i ∈ bitsOf m many ↔ i < many ∧ m.testBit i = true := by
  unfold bitsOf
  rw [List.mem_filter, List.mem_range]
/-- one step: what a known one grows into -/
def grow1 (m many k : Nat) : List Nat := if k &&& m ≠ 0 then [k] else (bitsOf m many).map fun i => k ||| 2 ^ i
def grow (m many : Nat) (found : List Nat) : List Nat := found.flatMap (grow1 m many)
theorem grow_append (m many : Nat) (xs ys : List Nat) : grow m many (xs ++ ys) = grow m many xs ++ grow m many ys := by
  unfold grow
  rw [List.flatMap_append]
theorem bit_of_lt {n many i : Nat} (h : n < 2 ^ many) (k : n.testBit i = true) : i < many := by
  cases Nat.lt_or_ge i many with
  | inl q => exact q
  | inr q =>
    rw [Nat.testBit_lt_two_pow (Nat.lt_of_lt_of_le h (Nat.pow_le_pow_right (by decide) q))] at k
    cases k
theorem grow_min {ms : List Nat} {many m : Nat} {found : List Nat} (hf : ∀ x, x ∈ found ↔ MinOf (Tr ms many) x) (x : Nat) :
    MinOf (· ∈ grow m many found) x ↔ MinOf (Tr (ms ++ [m]) many) x := by
  refine MinOf.dense (fun y hy => ?_) (fun t ht => ?_) x
  · obtain ⟨k, hk, hy⟩ := List.mem_flatMap.mp hy
    have hk' := (hf k).mp hk
    unfold grow1 at hy
    split at hy
    · rename_i hm
      rw [List.mem_singleton] at hy
      subst hy
      refine ⟨hk'.1.1, fun z hz => ?_⟩
      rcases List.mem_append.mp hz with hz | hz
      · exact hk'.1.2 z hz
      · rw [List.mem_singleton.mp hz]
        exact hm
    · obtain ⟨i, hi, rfl⟩ := List.mem_map.mp hy
      obtain ⟨h1, h2⟩ := mem_bitsOf.mp hi
      refine ⟨Nat.or_lt_two_pow hk'.1.1 (Nat.pow_lt_pow_right (by decide) h1), fun z hz => ?_⟩
      rcases List.mem_append.mp hz with hz | hz
      · exact meet_mono (sub_or_left _ _) (hk'.1.2 z hz)
      · rw [List.mem_singleton.mp hz]
        refine and_ne.mpr ⟨i, ?_, h2⟩
        rw [Nat.testBit_or, Nat.testBit_two_pow]
        simp
  · have ht' : Tr ms many t := ⟨ht.1, fun z hz => ht.2 z (List.mem_append_left _ hz)⟩
    obtain ⟨k, hk, hs⟩ := exists_min t t (Nat.le_refl _) ht'
    have hkf := (hf k).mpr hk
    by_cases hm : k &&& m ≠ 0
    · refine ⟨k, List.mem_flatMap.mpr ⟨k, hkf, ?_⟩, hs⟩
      unfold grow1
      rw [if_pos hm]
      exact List.mem_singleton.mpr rfl
    · obtain ⟨i, h1, h2⟩ := and_ne.mp (ht.2 m (List.mem_append_right _ (List.mem_singleton.mpr rfl)))
      refine ⟨k ||| 2 ^ i, List.mem_flatMap.mpr ⟨k, hkf, ?_⟩, or_sub hs (bit_sub.mpr h1)⟩
      unfold grow1
      rw [if_neg hm]
      exact List.mem_map.mpr ⟨i, mem_bitsOf.mpr ⟨bit_of_lt ht.1 h1, h2⟩, rfl⟩
theorem tr_nil (many x : Nat) : x ∈ [0] ↔ MinOf (Tr [] many) x := by
  rw [List.mem_singleton]
  constructor
  · rintro rfl
    exact ⟨⟨Nat.pow_pos (by decide), fun _ h => nomatch h⟩, fun k _ hs => by have := sub_le hs; omega⟩
  · intro h
    exact (h.2 0 ⟨Nat.pow_pos (by decide), fun _ h => nomatch h⟩ (sub_zero x)).symm
/-- the blocker of the blocker -/
theorem tr_tr {ms bs : List Nat} {many : Nat} (hm : ∀ m ∈ ms, m < 2 ^ many) (hb : ∀ x, x ∈ bs ↔ MinOf (Tr ms many) x) (x : Nat) : MinOf (Tr bs many) x ↔ MinOf (· ∈ ms) x := by
  refine (MinOf.dense (A := (· ∈ ms)) (B := Tr bs many) (fun m h => ⟨hm m h, fun b hb' => ?_⟩) (fun t ht => ?_) x).symm
  · have := ((hb b).mp hb').1.2 m h
    rw [Nat.and_comm]
    exact this
  · refine Classical.byContradiction fun no => ?_
    -- the complement of t meets each of ms
    have tr : Tr ms many ((2 ^ many - 1) ^^^ t) := by
      refine ⟨Nat.xor_lt_two_pow (by have := Nat.pow_pos (n := many) (show 0 < 2 by decide); omega) ht.1, fun m h => ?_⟩
      have : ¬ sub m t := fun hs => no ⟨m, h, hs⟩
      rw [sub_iff] at this
      obtain ⟨i, hi⟩ := Classical.not_forall.mp this
      obtain ⟨h1, h2⟩ := Classical.not_imp.mp hi
      refine and_ne.mpr ⟨i, ?_, h1⟩
      rw [Nat.testBit_xor, Nat.testBit_two_pow_sub_one, decide_eq_true (bit_of_lt (hm m h) h1)]
      simpa using h2
    obtain ⟨y, hy, hs⟩ := exists_min _ _ (Nat.le_refl _) tr
    obtain ⟨i, h1, h2⟩ := and_ne.mp (ht.2 y ((hb y).mpr hy))
    have h3 := sub_iff.mp hs i h2
    rw [Nat.testBit_xor, h1] at h3
    rw [Nat.testBit_two_pow_sub_one, decide_eq_true (bit_of_lt ht.1 h1)] at h3
    cases h3

/-! ### how many masks lie within one -/
def subs : Nat → Nat → List Nat
  | 0, _ => [0]
  | f + 1, n => if n % 2 = 1 then (subs f (n / 2)).flatMap fun x => [2 * x, 2 * x + 1] else (subs f (n / 2)).map fun x => 2 * x
theorem flat2_len (l : List Nat) : (l.flatMap fun x => [2 * x, 2 * x + 1]).length = 2 * l.length := by
  induction l with
  | nil => rfl
  | cons a l ih => rw [List.flatMap_cons, List.length_append, ih, List.length_cons]; simp only [List.length_cons, List.length_nil]; omega
theorem subs_len : ∀ (f n : Nat), (subs f n).length = 2 ^ pcf f n
  | 0, _ => rfl
  | f + 1, n => by
    unfold subs
    show _ = 2 ^ (n % 2 + pcf f (n / 2))
    split
    · rename_i h
      rw [flat2_len, subs_len f, h, Nat.pow_add]
    · rename_i h
      have e : n % 2 = 0 := by omega
      rw [List.length_map, subs_len f, e, Nat.zero_add]
theorem mem_subs : ∀ (f n x : Nat), n ≤ f → sub x n → x ∈ subs f n
  | 0, n, x, h, hs => by
    have e : x = 0 := by have := sub_le hs; omega
    subst e
    exact List.mem_singleton.mpr rfl
  | f + 1, n, x, h, hs => by
    obtain ⟨h1, h2⟩ := sub_half hs
    have ih := mem_subs f (n / 2) (x / 2) (by omega) h1
    unfold subs
    split
    · refine List.mem_flatMap.mpr ⟨x / 2, ih, ?_⟩
      have : x % 2 = 0 ∨ x % 2 = 1 := by omega
      rcases this with e | e
      · have : x = 2 * (x / 2) := by omega
        rw [this]
        simp
      · have : x = 2 * (x / 2) + 1 := by omega
        rw [this]
        simp
        omega
    · exact List.mem_map.mpr ⟨x / 2, ih, by omega⟩
theorem within_len {l : List Nat} {U : Nat} (h : l.Nodup) (k : ∀ x ∈ l, sub x U) : l.length ≤ 2 ^ pc U := by
  have := h.length_le_of_subset (l₂ := subs U U) fun x hx => mem_subs U U x (Nat.le_refl _) (k x hx)
  rw [subs_len] at this
  exact this
theorem min_within {ms : List Nat} {U many : Nat} (h : ∀ m ∈ ms, sub m U) (hU : U < 2 ^ many) {x : Nat} (hx : MinOf (Tr ms many) x) : sub x U := by
  have tr : Tr ms many (x &&& U) := by
    refine ⟨Nat.lt_of_le_of_lt Nat.and_le_right hU, fun m hm => ?_⟩
    obtain ⟨i, h1, h2⟩ := and_ne.mp (hx.1.2 m hm)
    refine and_ne.mpr ⟨i, ?_, h2⟩
    rw [Nat.testBit_and, h1, sub_iff.mp (h m hm) i h2]
    rfl
  have e := hx.2 (x &&& U) tr (sub_iff.mpr fun i hi => by
    rw [Nat.testBit_and, Bool.and_eq_true] at hi
    exact hi.1)
  exact e
theorem grow1_len (m many k : Nat) : (grow1 m many k).length ≤ many + 1 := by
  unfold grow1
  split
  · show 1 ≤ many + 1
    omega
  · rw [List.length_map]
    unfold bitsOf
    have := List.length_filter_le (fun i => m.testBit i) (List.range many)
    rw [List.length_range] at this
    omega
theorem grow_len (m many : Nat) : ∀ found : List Nat, (grow m many found).length ≤ found.length * (many + 1)
  | [] => by
    show 0 ≤ _
    omega
  | k :: l => by
    show (grow1 m many k ++ grow m many l).length ≤ (l.length + 1) * (many + 1)
    rw [List.length_append, Nat.succ_mul]
    have h1 := grow1_len m many k
    have h2 := grow_len m many l
    omega

/-! ### groups that have no number in common -/
theorem half_or_pow (k i : Nat) : (k ||| 2 ^ (i + 1)) / 2 = k / 2 ||| 2 ^ i ∧ (k ||| 2 ^ (i + 1)) % 2 = k % 2 := by
  constructor
  · apply Nat.eq_of_testBit_eq
    intro j
    rw [← Nat.testBit_add_one, Nat.testBit_or, Nat.testBit_or, Nat.testBit_two_pow, Nat.testBit_two_pow, ← Nat.testBit_add_one]
    congr 1
    simp
  · have e : (k ||| 2 ^ (i + 1)).testBit 0 = k.testBit 0 := by
      rw [Nat.testBit_or, Nat.testBit_two_pow]
      simp
    rw [Nat.testBit_zero, Nat.testBit_zero] at e
    have : (k ||| 2 ^ (i + 1)) % 2 = 1 ↔ k % 2 = 1 := by
      rw [← decide_eq_true_eq (p := (k ||| 2 ^ (i + 1)) % 2 = 1), e, decide_eq_true_eq]
    omega
theorem half_or_one (k : Nat) : (k ||| 2 ^ 0) / 2 = k / 2 ∧ (k ||| 2 ^ 0) % 2 = 1 := by
  constructor
  · apply Nat.eq_of_testBit_eq
    intro j
    rw [← Nat.testBit_add_one, Nat.testBit_or, Nat.testBit_two_pow, ← Nat.testBit_add_one]
    simp
  · have e : (k ||| 2 ^ 0).testBit 0 = true := by
      rw [Nat.testBit_or, Nat.testBit_two_pow]
      simp
    rw [Nat.testBit_zero] at e
    exact of_decide_eq_true e
theorem pc_set : ∀ (i k : Nat), k.testBit i = false → pc (k ||| 2 ^ i) = pc k + 1
  | 0, k, h => by
    obtain ⟨e1, e2⟩ := half_or_one k
    rw [Nat.testBit_zero] at h
    have h' := of_decide_eq_false h
    rw [pc_rec (k ||| 2 ^ 0), e1, e2, pc_rec k]
    omega
  | i + 1, k, h => by
    obtain ⟨e1, e2⟩ := half_or_pow k i
    rw [Nat.testBit_add_one] at h
    rw [pc_rec (k ||| 2 ^ (i + 1)), e1, e2, pc_set i (k / 2) h, pc_rec k]
    omega
theorem pc_or_pow (i k : Nat) : pc (k ||| 2 ^ i) ≤ pc k + 1 := by
  cases h : k.testBit i with
  | false => rw [pc_set i k h]; exact Nat.le_refl _
  | true =>
    have e : k ||| 2 ^ i = k := by
      apply Nat.eq_of_testBit_eq
      intro j
      rw [Nat.testBit_or, Nat.testBit_two_pow]
      by_cases hj : i = j
      · subst hj; rw [h]; rfl
      · rw [decide_eq_false hj, Bool.or_false]
    rw [e]
    omega
/-- the mask of numbers -/
def maskOf (g : List Nat) : Nat := g.foldl (fun m i => m ||| 2 ^ i) 0
theorem foldl_or_bit : ∀ (g : List Nat) (m i : Nat), (g.foldl (fun m i => m ||| 2 ^ i) m).testBit i = (m.testBit i || decide (i ∈ g))
  | [], m, i => by simp
  | a :: g, m, i => by
    rw [List.foldl_cons, foldl_or_bit g, Nat.testBit_or, Nat.testBit_two_pow, Bool.or_assoc]
    congr 1
    rw [← Bool.decide_or]
    apply decide_eq_decide.mpr
    rw [List.mem_cons, eq_comm]
theorem maskOf_bit (g : List Nat) (i : Nat) : (maskOf g).testBit i = decide (i ∈ g) := by
  unfold maskOf
  rw [foldl_or_bit, Nat.zero_testBit, Bool.false_or]
theorem foldl_pc : ∀ (g : List Nat) (m : Nat), pc (g.foldl (fun m i => m ||| 2 ^ i) m) ≤ pc m + g.length
  | [], m => Nat.le_refl _
  | a :: g, m => by
    rw [List.foldl_cons, List.length_cons]
    have h1 := foldl_pc g (m ||| 2 ^ a)
    have h2 := pc_or_pow a m
    omega
theorem maskOf_pc (g : List Nat) : pc (maskOf g) ≤ g.length := by
  have := foldl_pc g 0
  rw [pc_zero] at this
  unfold maskOf
  omega
theorem foldl_or_lt : ∀ (g : List Nat) (m n : Nat), m < 2 ^ n → (∀ i ∈ g, i < n) → g.foldl (fun m i => m ||| 2 ^ i) m < 2 ^ n
  | [], m, n, h, _ => h
  | a :: g, m, n, h, k => foldl_or_lt g _ n (Nat.or_lt_two_pow h (Nat.pow_lt_pow_right (by decide) (k a List.mem_cons_self))) fun i hi => k i (List.mem_cons_of_mem _ hi)
theorem maskOf_lt {g : List Nat} {n : Nat} (h : ∀ i ∈ g, i < n) : maskOf g < 2 ^ n := foldl_or_lt g 0 n (Nat.pow_pos (by decide)) h
theorem or_add : ∀ (a b n : Nat), a ≤ n → a &&& b = 0 → a ||| b = a + b
  | a, b, 0, h, _ => by
    have e : a = 0 := by omega
    subst e
    rw [Nat.zero_or, Nat.zero_add]
  | a, b, n + 1, h, e => by
    by_cases h0 : a = 0
    · subst h0
      rw [Nat.zero_or, Nat.zero_add]
    have e1 : a / 2 &&& b / 2 = 0 := by rw [← Nat.and_div_two, e]
    have ih := or_add (a / 2) (b / 2) n (by omega) e1
    have e2 : (a ||| b) / 2 = a / 2 ||| b / 2 := by
      apply Nat.eq_of_testBit_eq
      intro j
      rw [← Nat.testBit_add_one, Nat.testBit_or, Nat.testBit_or, Nat.testBit_add_one, Nat.testBit_add_one]
    have e3 : ¬ (a % 2 = 1 ∧ b % 2 = 1) := fun z => by
      have := Nat.and_mod_two_eq_one.mpr z
      omega
    have e4 : (a ||| b).testBit 0 = (a.testBit 0 || b.testBit 0) := Nat.testBit_or a b 0
    rw [Nat.testBit_zero, Nat.testBit_zero, Nat.testBit_zero, ← Bool.decide_or, decide_eq_decide] at e4
    omega
theorem or_and_xor (a b : Nat) : a ||| b = (a ^^^ b) + (a &&& b) := by
  rw [← or_add (a ^^^ b) (a &&& b) _ (Nat.le_refl _)]
  · apply Nat.eq_of_testBit_eq
    intro i
    rw [Nat.testBit_or, Nat.testBit_or, Nat.testBit_xor, Nat.testBit_and]
    cases a.testBit i <;> cases b.testBit i <;> rfl
  · apply Nat.eq_of_testBit_eq
    intro i
    rw [Nat.testBit_and, Nat.testBit_xor, Nat.testBit_and, Nat.zero_testBit]
    cases a.testBit i <;> cases b.testBit i <;> rfl
theorem or_disj {a b : Nat} (h : ∀ i, a.testBit i = true → b.testBit i = true → False) : a ||| b = a + b := by
  have e : a &&& b = 0 := Classical.byContradiction fun ne => by
    obtain ⟨i, h1, h2⟩ := and_ne.mp ne
    exact h i h1 h2
  exact or_add a b a (Nat.le_refl _) e
theorem foldl_or_sum : ∀ (g : List Nat) (m : Nat), g.Nodup → (∀ i ∈ g, m.testBit i = false) → g.foldl (fun m i => m ||| 2 ^ i) m = m + (g.map (2 ^ ·)).sum
  | [], m, _, _ => by simp
  | a :: g, m, hn, h => by
    obtain ⟨h1, h2⟩ := List.nodup_cons.mp hn
    have e : m ||| 2 ^ a = m + 2 ^ a := or_disj fun i x y => by
      rw [Nat.testBit_two_pow] at y
      have := of_decide_eq_true y
      subst this
      rw [h a List.mem_cons_self] at x
      cases x
    rw [List.foldl_cons, foldl_or_sum g _ h2 (fun i hi => ?_), e, List.map_cons, List.sum_cons]
    · omega
    · rw [Nat.testBit_or, h i (List.mem_cons_of_mem _ hi), Nat.testBit_two_pow, Bool.false_or, decide_eq_false]
      rintro rfl
      exact h1 hi
theorem maskOf_sum {g : List Nat} (h : g.Nodup) : (g.map (2 ^ ·)).sum = maskOf g := by
  unfold maskOf
  rw [foldl_or_sum g 0 h fun i _ => Nat.zero_testBit i]
  omega
/-- one of each group -/
def due1 (due g : List Nat) : List Nat := due.flatMap fun m => g.map fun i => m ||| 2 ^ i
def dueOf (gs : List (List Nat)) : List Nat := gs.foldl due1 [0]
structure Due (gs : List (List Nat)) (n many : Nat) (due : List Nat) : Prop where
  nd : due.Nodup
  pcs : ∀ x ∈ due, pc x = n
  inn : ∀ x ∈ due, ∀ i, x.testBit i = true → i ∈ gs.flatten
  mem : ∀ x, x ∈ due ↔ MinOf (Tr (gs.map maskOf) many) x
theorem due_step {gs : List (List Nat)} {n many : Nat} {due g : List Nat} (D : Due gs n many due) (hg : g.Nodup) (hd : ∀ i ∈ g, i ∉ gs.flatten) (hl : ∀ i ∈ g, i < many) : Due (gs ++ [g]) (n + 1) many (due1 due g) := by
  have off : ∀ x ∈ due, ∀ i ∈ g, x.testBit i = false := fun x hx i hi => by
    cases h : x.testBit i with
    | false => rfl
    | true => exact absurd (D.inn x hx i h) (hd i hi)
  have pcs : ∀ x ∈ due1 due g, pc x = n + 1 := fun x hx => by
    obtain ⟨k, hk, hx⟩ := List.mem_flatMap.mp hx
    obtain ⟨i, hi, rfl⟩ := List.mem_map.mp hx
    rw [pc_set i k (off k hk i hi), D.pcs k hk]
  refine ⟨?_, pcs, fun x hx i hb => ?_, fun x => ?_⟩
  · show (due.flatMap _).Pairwise _
    rw [List.pairwise_flatMap]
    refine ⟨fun k hk => ?_, D.nd.imp_of_mem fun {a b} ha hb ne x hx y hy e => ?_⟩
    · rw [List.pairwise_map]
      refine hg.imp_of_mem fun {i j} hi hj ne e => ?_
      have h1 : (k ||| 2 ^ i).testBit i = true := by rw [Nat.testBit_or, Nat.testBit_two_pow]; simp
      rw [e, Nat.testBit_or, off k hk i hi, Bool.false_or, Nat.testBit_two_pow] at h1
      exact ne (of_decide_eq_true h1).symm
    · obtain ⟨i, hi, rfl⟩ := List.mem_map.mp hx
      obtain ⟨j, hj, rfl⟩ := List.mem_map.mp hy
      apply ne
      apply Nat.eq_of_testBit_eq
      intro l
      by_cases hl : l ∈ g
      · rw [off a ha l hl, off b hb l hl]
      · have h1 : (a ||| 2 ^ i).testBit l = (b ||| 2 ^ j).testBit l := by rw [e]
        rw [Nat.testBit_or, Nat.testBit_or, Nat.testBit_two_pow, Nat.testBit_two_pow, decide_eq_false (fun (z : i = l) => hl (z ▸ hi)), decide_eq_false (fun (z : j = l) => hl (z ▸ hj)), Bool.or_false, Bool.or_false] at h1
        exact h1
  · obtain ⟨k, hk, hx⟩ := List.mem_flatMap.mp hx
    obtain ⟨j, hj, rfl⟩ := List.mem_map.mp hx
    rw [Nat.testBit_or, Bool.or_eq_true, Nat.testBit_two_pow, decide_eq_true_eq] at hb
    rw [List.flatten_append, List.mem_append]
    rcases hb with hb | hb
    · exact .inl (D.inn k hk i hb)
    · subst hb
      exact .inr (by simpa using hj)
  · have key : ∀ y, y ∈ due1 due g ↔ y ∈ grow (maskOf g) many due := fun y => by
      unfold due1 grow
      rw [List.mem_flatMap, List.mem_flatMap]
      refine exists_congr fun k => and_congr_right fun hk => ?_
      unfold grow1
      have z : k &&& maskOf g = 0 := Classical.byContradiction fun ne => by
        obtain ⟨i, h1, h2⟩ := and_ne.mp ne
        rw [maskOf_bit, decide_eq_true_eq] at h2
        rw [off k hk i h2] at h1
        cases h1
      rw [if_neg (fun ne => ne z), List.mem_map, List.mem_map]
      refine exists_congr fun i => and_congr_left fun _ => ?_
      rw [mem_bitsOf, maskOf_bit, decide_eq_true_eq]
      exact ⟨fun h => ⟨hl i h, h⟩, fun h => h.2⟩
    rw [List.map_append]
    have := grow_min (m := maskOf g) D.mem x
    rw [List.map_singleton, ← this, ← MinOf.congr key x]
    constructor
    · intro hx
      exact ⟨hx, fun k hk hs => pc_inj hs (by rw [pcs k hk, pcs x hx]; exact Nat.le_refl _)⟩
    · exact fun h => h.1
theorem due_nil (many : Nat) : Due [] 0 many [0] := by
  refine ⟨List.pairwise_singleton _ _, fun x hx => ?_, fun x hx i hi => ?_, fun x => tr_nil many x⟩
  · rw [List.mem_singleton.mp hx]; rfl
  · rw [List.mem_singleton.mp hx, Nat.zero_testBit] at hi
    cases hi
/-- the masks of the groups are apart -/
theorem mask_anti {gs : List (List Nat)} (hn : gs.flatten.Nodup) (h0 : ∀ g ∈ gs, g ≠ []) : (gs.map maskOf).Nodup ∧ ∀ x, MinOf (· ∈ gs.map maskOf) x ↔ x ∈ gs.map maskOf := by
  have fl : ∀ gs : List (List Nat), gs.flatten.Nodup → (∀ g ∈ gs, g ≠ []) → gs.Pairwise (fun a b => ∀ i, i ∈ a → i ∉ b) := by
    intro gs
    induction gs with
    | nil => intro _ _; exact List.Pairwise.nil
    | cons g gs ih =>
      intro h h0
      rw [List.flatten_cons] at h
      obtain ⟨h1, h2, h3⟩ := List.nodup_append.mp h
      refine List.pairwise_cons.mpr ⟨fun b hb i hi hib => ?_, ih h2 fun x hx => h0 x (List.mem_cons_of_mem _ hx)⟩
      exact h3 i hi i (List.mem_flatten.mpr ⟨b, hb, hib⟩) rfl
  have pw := fl gs hn h0
  have sub_no : ∀ a b : List Nat, a ≠ [] → (∀ i, i ∈ a → i ∉ b) → ¬ sub (maskOf a) (maskOf b) := fun a b ha hab hs => by
    obtain ⟨i, hi⟩ := List.exists_mem_of_ne_nil a ha
    have h1 := sub_iff.mp hs i (by rw [maskOf_bit, decide_eq_true_eq]; exact hi)
    rw [maskOf_bit, decide_eq_true_eq] at h1
    exact hab i hi h1
  constructor
  · show (gs.map maskOf).Pairwise _
    rw [List.pairwise_map]
    refine pw.imp_of_mem fun {a b} ha hb hab e => sub_no a b (h0 a ha) hab ?_
    rw [e]
    exact sub_refl _
  · intro x
    refine ⟨fun h => h.1, fun h => ⟨h, fun k hk hs => ?_⟩⟩
    obtain ⟨b, hb, rfl⟩ := List.mem_map.mp h
    obtain ⟨a, ha, rfl⟩ := List.mem_map.mp hk
    obtain ⟨i, hi⟩ := List.getElem?_of_mem ha
    obtain ⟨j, hj⟩ := List.getElem?_of_mem hb
    have at_ : ∀ {i j : Nat} {a b : List Nat}, gs[i]? = some a → gs[j]? = some b → i < j → ∀ l, l ∈ a → l ∉ b := fun {i j a b} hi hj hij => by
      obtain ⟨hi', e1⟩ := List.getElem?_eq_some_iff.mp hi
      obtain ⟨hj', e2⟩ := List.getElem?_eq_some_iff.mp hj
      rw [← e1, ← e2]
      exact List.pairwise_iff_getElem.mp pw i j hi' hj' hij
    rcases Nat.lt_trichotomy i j with z | z | z
    · exact absurd hs (sub_no a b (h0 a ha) (at_ hi hj z))
    · subst z
      rw [hi] at hj
      rw [Option.some.inj hj]
    · exact absurd hs (sub_no a b (h0 a ha) fun l hl hlb => at_ hj hi z l hlb hl)
/-- supersets of masks that stand there add nothing -/
theorem tr_more {ms more : List Nat} {many : Nat} (h : ∀ m ∈ more, ∃ k ∈ ms, sub k m) (t : Nat) : Tr (ms ++ more) many t ↔ Tr ms many t := by
  constructor
  · exact fun a => ⟨a.1, fun m hm => a.2 m (List.mem_append_left _ hm)⟩
  · refine fun a => ⟨a.1, fun m hm => ?_⟩
    rcases List.mem_append.mp hm with hm | hm
    · exact a.2 m hm
    · obtain ⟨k, hk, hs⟩ := h m hm
      rw [Nat.and_comm]
      refine meet_mono hs ?_
      rw [Nat.and_comm]
      exact a.2 k hk
theorem tr_perm {ms ns : List Nat} {many : Nat} (h : ∀ x, x ∈ ms ↔ x ∈ ns) (t : Nat) : Tr ms many t ↔ Tr ns many t := by
  unfold Tr
  refine and_congr_right fun _ => ⟨fun f m hm => f m ((h m).mpr hm), fun f m hm => f m ((h m).mp hm)⟩
end MK
/-! KBase: rules of our own beside the hand layer: sorted by a def as key, the items of a list op=. -/
namespace L2.KK
open PySem PySem.Spec PyProof.Rows
section
variable {X : Cx} {pins : List (Addr × Obj)} {σ : St} {H H' : Hp} {s : Shared} {h' : Heap} {a : Addr} {o : HO}
/-- an object of ours that nobody tracked is changed and tracked from now on -/
theorem adopt {t' : Nat} (I : Inv X pins σ H s) (f : FpOk X pins H a) (k : ∀ b u, b ≠ a → s.heap.get? b = some u → h'.get? b = some u) (new : ObjOk X.prog X.w (upd H a o) h' a o) :
    Inv X pins σ (upd H a o) { s with heap := h', toks := t' } := by
  obtain ⟨f0, f1, f2, f3, f4, f5⟩ := f
  have nb : ∀ b u, H b = some u → b ≠ a := fun b u e => ne_of_none e f0
  refine I.step (g' := s.gens) (d' := s.drawn) (ch := [a]) (fun b hb => ?_) (fun b u _ _ hc e _ => k b u (fun z => hc (by rw [z]; exact List.mem_singleton.mpr rfl)) e)
    (fun b u _ _ hc e _ => ⟨u.slots, k b u (fun z => hc (by rw [z]; exact List.mem_singleton.mpr rfl)) e⟩) (fun b u hc e n => ?_) (fun b u hc e => ⟨u, k b u (fun z => hc (by rw [z]; exact List.mem_singleton.mpr rfl)) e⟩)
    (fun b xs e => by rw [upd_ne (nb b _ e)]; exact e) (fun b u xs e => by rw [upd_ne (nb b _ e)]; exact e) (fun b ps e => ⟨#[], by rw [upd_ne (nb b _ e), e]; simp⟩) (fun m hm => ?_) (fun b u e => ?_) I.bare
  · rw [List.mem_singleton.mp hb]
    exact ⟨f3, f1, f4, f5⟩
  · rw [upd_ne (fun z => hc (by rw [z]; exact List.mem_singleton.mpr rfl))]
    exact n
  · obtain ⟨u, es, ep, ho, r⟩ := hm
    exact ⟨u, es, ep, k _ u f1.symm ho, r⟩
  · by_cases hb : b = a
    · subst hb
      rw [upd_same] at e
      cases e
      exact new
    · rw [upd_ne hb] at e
      refine (I.hok b u e).stay (fun c v hc q => k c v ?_ q) (fun c q => by rw [upd_ne (nb c _ q)]; exact q) fun c xs q => by rw [upd_ne (nb c _ q)]; exact q
      rcases hc with z | z
      · rw [z]; exact hb
      · exact nb c _ z
variable {k : Nat} {f : Addr} {fd : FuncData} {ps : List Str} {sp : Sp}
/-- a def called from within the frames of a built-in -/
theorem run_in {A : Around} {Q : VK} {E : Value → Shared → Prop} {us : List Value} {vs : List V} (F : FnOk X.prog X.w X.K X.mg X.base CX0 k f fd ps sp) (hA : A.frames = some X.stack) (hr : Room k A) (hb : Binds X.K fd ps [])
    (I : Inv X pins σ H s) (r : Vals vs us) (h : sp vs H Q E0) : wpAny (model X.prog X.w) A (call (.ref f) us) (fun u s' => CE X.stack X.prog X.w H s Q u s') E s := by
  have hl : us.length = ps.length := by
    rw [← r.length]
    exact F.len _ _ _ _ h
  have e := I.env0
  have bt := hb s us I.kIn (by simpa using hl)
  rw [List.append_nil] at bt
  refine wpAny_call (codeAny_mono (F.run A X.stack s H ⟨us, []⟩ us vs Q E0 hr ⟨by rw [hA], e.mod, e.bs, e.bsz, e.funs, e.frf, e.hok, e.bare⟩ bt r h) fun q s' hq => ?_)
  cases q with
  | error e => exact hq.elim
  | ok fl =>
    cases fl with
    | ret u => exact hq
    | next => exact hq.elim
    | brk => exact hq.elim
    | cont => exact hq.elim
theorem ce_inv {Q : VK} {u : Value} {s' : Shared} (I : Inv X pins σ H s) (h : CE X.stack X.prog X.w H s Q u s') :
    ∃ v H', Inv X pins σ H' s' ∧ RelV v u ∧ Q v H' ∧ Un (frs X.stack) [] H H' s.heap s'.heap := by
  obtain ⟨v, H', os, bare, un, hok, r, q⟩ := h
  exact ⟨v, H', I.call' os un hok bare (fun b hb => nomatch hb), r, q, un⟩
theorem notStk {b : Addr} (I : Inv X pins σ H s) (f : FpOk X pins H b) : b ∉ frs X.stack := fun hb => by
  rcases List.mem_cons.mp (I.stkSub b hb) with z | z
  · exact f.2.1 z
  · exact f.2.2.1 z

/-! ### sorted(xs, key=f), f a def of the program -/

theorem paired_append {α β : Type} {F : α → β → Prop} : ∀ {a c : List α} {b d : List β}, Paired F a b → Paired F c d → Paired F (a ++ c) (b ++ d)
  | _, _, _, _, .nil, h => h
  | _, _, _, _, .cons r t, h => .cons r (paired_append t h)
theorem paired_left {α β : Type} {F : α → β → Prop} : ∀ {a : List α} {b : List β}, Paired F a b → ∀ y ∈ a, ∃ x, F y x
  | _, _, .cons r t, y, h => by
    rcases List.mem_cons.mp h with h | h
    · exact ⟨_, h ▸ r⟩
    · exact paired_left t y h
theorem paired_zip {α β : Type} {F : α → β → Prop} : ∀ {a : List α} {b : List β}, Paired F a b → ∀ p ∈ a.zip b, F p.1 p.2
  | _, _, .nil, p, h => by simp at h
  | _, _, .cons r t, p, h => by
    rw [List.zip_cons_cons] at h
    rcases List.mem_cons.mp h with h | h
    · rw [h]; exact r
    · exact paired_zip t p h
instance : Nonempty V := ⟨.non⟩
/-- the value of the machine, as the layer has it -/
def vOf (u : Value) : V := (absV u).getD .non
theorem vOf_eq {x : V} {u : Value} (r : RelV x u) : vOf u = x := by
  unfold vOf
  rw [r.abs]
  rfl
theorem vals_vOf : ∀ {xs : List V} {us : List Value}, Vals xs us → us.map vOf = xs
  | _, _, .nil => rfl
  | _, _, .cons r t => by rw [List.map_cons, vOf_eq r, vals_vOf t]
theorem rel_vOf : ∀ {xs : List V} {us : List Value}, Vals xs us → ∀ u ∈ us, RelV (vOf u) u
  | _, _, .cons r t, u, h => by
    rcases List.mem_cons.mp h with h | h
    · rw [h, vOf_eq r]; exact r
    · exact rel_vOf t u h
theorem vals_of_rel : ∀ {us : List Value}, (∀ u ∈ us, RelV (vOf u) u) → Vals (us.map vOf) us
  | [], _ => .nil
  | u :: us, h => .cons (h u List.mem_cons_self) (vals_of_rel fun v hv => h v (List.mem_cons_of_mem _ hv))
/-- how keys compare: kv x y H: y is the key of x; rk x: its rank -/
structure KeyKind (X : Cx) {R : Type} (rk : V → R) (kv : V → V → Hp → Prop) (ltr : R → R → Bool) : Prop where
  grow : ∀ x y H H', Same H H' → kv x y H → kv x y H'
  one : ∀ x x' y H, kv x y H → kv x' y H → rk x = rk x'
  swo : SrtO.Swo ltr
  cmp : ∀ (pins : List (Addr × Obj)) (σ : St) (H : Hp) (s : Shared) (A : Around) (us : List Value) (ρ : V → R), Room 6 A → Inv X pins σ H s → 2 ≤ us.length → (∀ u ∈ us, RelV (vOf u) u ∧ ∃ x, kv x (vOf u) H ∧ rk x = ρ (vOf u)) →
    ∃ κ, (∀ (Q : SortKind → Shared → Prop) (E : Value → Shared → Prop), Q κ s → wpAny (model X.prog X.w) A (keyKind' us.toArray) Q E s) ∧
      SrtO.Cmp X.prog X.w A s κ (fun p => p.1 ∈ us) (fun p q => ltr (ρ (vOf p.1)) (ρ (vOf q.1)))
theorem zip_toList (k : Array Value) (vs : List Value) : (k.zip vs.toArray).toList = k.toList.zip vs := by simp
theorem pw_map {α β : Type} {R : β → β → Prop} {S : α → α → Prop} {g : α → β} {l : List α} (h : l.Pairwise S) (k : ∀ a b, S a b → R (g a) (g b)) : (l.map g).Pairwise R := by
  rw [List.pairwise_map]
  exact h.imp fun {a b} => k a b
variable {kS a : Addr} {e1 : Nat} {xs : List V} {vs : List Value} {R : Type} {rk : V → R} {kv : V → V → Hp → Prop} {ltr : R → R → Bool} {P : PySem.Fin → Shared → Prop} {E : Value → Shared → Prop}
theorem key_end {A : Around} {kA : Array Value} {e : Nat} {ks : List V} (K : KeyKind X rk kv ltr) (hr : Room 6 A) (I : Inv X pins σ H' s) (h1 : s.heap.get? kS = some (seqObj "list" kA e)) (h2 : s.heap.get? a = some (seqObj "list" #[] e1)) (hne : kS ≠ a)
    (f1 : FpOk X pins H' kS) (f2 : FpOk X pins H' a) (rv : Vals ks kA.toList) (rx : Vals xs vs) (hl : ks.length = xs.length) (hz : xs.length ≤ sizeLine) (ρ : V → R) (hk : ∀ y ∈ ks, ∃ x, kv x y H' ∧ rk x = ρ y)
    (h : ∀ (qs : List (V × V)) (s' : Shared), qs.Perm (ks.zip xs) → qs.Pairwise (fun p q => ltr (ρ q.1) (ρ p.1) = false) → Inv X pins σ (upd H' a (.lst (qs.map Prod.snd))) s' → P (.done (.ret .none)) s') :
    wpAny (model X.prog X.w) A (ksk_end a false vs.toArray e1 (.ref kS) kA) P E s := by
  have lk : kA.size = ks.length := by
    have := rv.length
    rw [Array.length_toList] at this
    exact this.symm
  have lv : vs.length = xs.length := rx.length.symm
  have zs : (kA.zip vs.toArray).size = xs.length := by rw [Array.size_zip, lk, List.size_toArray, lv, hl, Nat.min_self]
  -- what is left to do once the items are in order
  have fin : ∀ st : SortSt, SrtO.Srtd (fun p q : Keyed => ltr (ρ (vOf p.1)) (ρ (vOf q.1))) (arrOf st).toList → (arrOf st).toList.Perm (kA.toList.zip vs) → failedOf st = none →
      wpAny (model X.prog X.w) A (ksk_tail a false e1 (.ref kS) st) P E s := fun st hs hp hf => by
    have hp2 : ((arrOf st).toList.map fun p : Keyed => (vOf p.1, vOf p.2)).Perm (ks.zip xs) := by
      have q := hp.map fun p : Keyed => (vOf p.1, vOf p.2)
      have ez : (kA.toList.zip vs).map (fun p : Keyed => (vOf p.1, vOf p.2)) = ks.zip xs := by
        rw [← vals_vOf rv, ← vals_vOf rx, List.zip_map]
        rfl
      rw [ez] at q
      exact q
    have so : (((arrOf st).map (·.2)).toList) = (arrOf st).toList.map Prod.snd := by rw [Array.toList_map]
    have ln : ((arrOf st).map (·.2)).size = xs.length := by
      have q := hp.length_eq
      rw [Array.length_toList, List.length_zip, Array.length_toList, lk, lv, hl, Nat.min_self] at q
      rw [Array.size_map, q]
    obtain ⟨c1, g1⟩ : ∃ c, (s.heap.update kS (Obj.mapSeq fun _ => (#[] : Array Value))).get? kS = some (seqObj "list" #[] c) := ⟨_, get?_update_seq h1 fun _ => #[]⟩
    have s1 := Heap.SameBut.update s.heap kS (Obj.mapSeq fun _ => (#[] : Array Value))
    have g2 : (s.heap.update kS (Obj.mapSeq fun _ => (#[] : Array Value))).get? a = some (seqObj "list" #[] e1) := (s1.2 a hne.symm).trans h2
    have I1 : Inv X pins σ H' { s with heap := s.heap.update kS (Obj.mapSeq fun _ => (#[] : Array Value)) } :=
      I.turned (t' := s.toks) (fun b u hb e => (s1.2 b hb).trans e) f1.1 f1.2.1 f1.2.2.2.1 f1.2.2.2.2.1 f1.2.2.2.2.2
    have s2 := Heap.SameBut.update (s.heap.update kS (Obj.mapSeq fun _ => (#[] : Array Value))) a (Obj.mapSeq fun _ => (arrOf st).map (·.2))
    obtain ⟨c2, g3⟩ : ∃ c, ((s.heap.update kS (Obj.mapSeq fun _ => (#[] : Array Value))).update a (Obj.mapSeq fun _ => (arrOf st).map (·.2))).get? a = some (seqObj "list" ((arrOf st).map (·.2)) c) :=
      ⟨_, get?_update_seq g2 fun _ => (arrOf st).map (·.2)⟩
    unfold ksk_tail
    try dsimp only
    refine wpAny_bind (listUpdate_at h1 rfl ?_ (by rw [lk, hl]; exact hz) (Nat.zero_le _))
    refine wpAny_bind (wpAny_letGo ?_)
    refine wpAny_bind (seqEpoch_at g2 rfl ?_)
    simp only [Bool.false_eq_true, if_false]
    refine wpAny_bind (listUpdate_at g2 rfl ?_ (Nat.zero_le _) (Nat.le_succ_of_le (by rw [ln]; exact hz)))
    rw [hf]
    simp only [bne_self_eq_false, Bool.false_eq_true, if_false]
    have rel2 : ∀ u ∈ (arrOf st).toList.map Prod.snd, RelV (vOf u) u := fun u hu => by
      obtain ⟨p, hp', rfl⟩ := List.mem_map.mp hu
      exact rel_vOf rx _ (List.of_mem_zip (hp.mem_iff.mp hp')).2
    have em : ((arrOf st).toList.map fun p : Keyed => (vOf p.1, vOf p.2)).map Prod.snd = ((arrOf st).toList.map Prod.snd).map vOf := by
      rw [List.map_map, List.map_map]
      rfl
    refine wpAny_pure (h ((arrOf st).toList.map fun p : Keyed => (vOf p.1, vOf p.2)) _ hp2 (pw_map hs fun p q z => z) ?_)
    refine adopt (o := .lst (((arrOf st).toList.map fun p : Keyed => (vOf p.1, vOf p.2)).map Prod.snd)) (h' := (s.heap.update kS (Obj.mapSeq fun _ => (#[] : Array Value))).update a (Obj.mapSeq fun _ => (arrOf st).map (·.2))) (t' := s.toks) I1 f2 (fun b u hb e => (s2.2 b hb).trans e) ⟨?_, (arrOf st).toList.map Prod.snd, c2, ?_, ?_⟩
    · rw [List.length_map, hp2.length_eq, List.length_zip, hl, Nat.min_self]
      exact hz
    · rw [em]
      exact vals_of_rel rel2
    · rw [← so, Array.toArray_toList]
      exact g3
  unfold ksk_end
  try dsimp only
  simp only [Bool.false_eq_true, if_false]
  by_cases h2' : vs.toArray.size < 2
  · rw [if_pos h2', if_pos h2']
    refine wpAny_bind (wpAny_pure ?_)
    rw [StateT.run_pure]
    refine wpAny_bind (wpAny_pure ?_)
    try dsimp only
    refine fin (SortSt.mk' general' (kA.zip vs.toArray) #[] 7 none) ?_ (by show (kA.zip vs.toArray).toList.Perm _; rw [zip_toList]) rfl
    show List.Pairwise _ (kA.zip vs.toArray).toList
    have : (kA.zip vs.toArray).toList.length < 2 := by
      rw [Array.length_toList, zs, ← lv, ← List.size_toArray]
      exact h2'
    match (kA.zip vs.toArray).toList, this with
    | [], _ => exact List.Pairwise.nil
    | [p], _ => exact List.pairwise_singleton _ _
  · rw [if_neg h2', if_neg h2']
    rw [List.size_toArray] at h2'
    have rk' := rel_vOf rv
    obtain ⟨κ, hkind, hT⟩ := K.cmp pins σ H' s A kA.toList ρ hr I (by rw [Array.length_toList, lk, hl, ← lv]; omega) (fun u hu => ⟨rk' u hu, hk _ (by rw [← vals_vOf rv]; exact List.mem_map.mpr ⟨u, hu, rfl⟩)⟩)
    rw [Array.toArray_toList] at hkind
    refine wpAny_bind (hkind _ _ ?_)
    have swo : SrtO.Swo (fun p q : Keyed => ltr (ρ (vOf p.1)) (ρ (vOf q.1))) := ⟨fun x y => K.swo.asym _ _, fun x y z => K.swo.tr _ _ _⟩
    refine wpAny_bind (wpAny_mono (SrtO.wpS_sortO (st0 := SortSt.mk' κ (kA.zip vs.toArray) #[] 7 none)
      (Q := fun _ st' => SrtO.Srtd (fun p q : Keyed => ltr (ρ (vOf p.1)) (ρ (vOf q.1))) (arrOf st').toList ∧ (arrOf st').toList.Perm (kA.toList.zip vs) ∧ failedOf st' = none) swo hT rfl (fun p hp => ?_) rfl rfl fun st' a1 a2 a3 => ⟨a1, ?_, a3⟩) ?_ fun _ _ e => e)
    · have hp' : p ∈ (kA.zip vs.toArray).toList := hp
      rw [zip_toList] at hp'
      obtain ⟨u, v⟩ := p
      exact (List.of_mem_zip hp').1
    · have q : (arrOf st').toList.Perm (kA.zip vs.toArray).toList := a2.perm
      rw [zip_toList] at q
      exact q
    · rintro ⟨⟨⟩, st'⟩ s' ⟨rfl, q1, q2, q3⟩
      try dsimp only
      exact fin st' q1 q2 q3
theorem key_rest {A : Around} {f : Addr} {fd : FuncData} {ps : List Str} {sp : Sp} {k : Nat} (F : FnOk X.prog X.w X.K X.mg X.base CX0 k f fd ps sp) (hA : A.frames = some X.stack) (hrk : Room k A) (hb : Binds X.K fd ps []) (K : KeyKind X rk kv ltr) (hr : Room 6 A)
    (I : Inv X pins σ H s) (h1 : s.heap.get? kS = some (seqObj "list" #[] 0)) (h2 : s.heap.get? a = some (seqObj "list" #[] e1)) (hne : kS ≠ a) (f1 : ∀ H', H' kS = none → FpOk X pins H' kS) (f2 : ∀ H', H' a = none → FpOk X pins H' a) (n1 : H kS = none) (n2 : H a = none)
    (rx : Vals xs vs) (hz : xs.length ≤ sizeLine) (hsp : ∀ x ∈ xs, ∀ H', Same H H' → ∀ Q : VK, (∀ y H'', Same H' H'' → kv x y H'' → Q y H'') → sp [x] H' Q E0)
    (h : ∀ (ys : List V) (H' : Hp) (s' : Shared), Same H H' → H' a = none → ys.Perm xs → ys.Pairwise (fun x y => ltr (rk y) (rk x) = false) → Inv X pins σ (upd H' a (.lst ys)) s' → P (.done (.ret .none)) s') :
    wpAny (model X.prog X.w) A (ksk_rest a (.ref f) false vs.toArray e1 (.ref kS)) P E s := by
  have lv : vs.length = xs.length := rx.length.symm
  unfold ksk_rest
  refine wpAny_bind (wpAny_rule ?_)
  rw [List.forIn_toArray]
  refine wpAny_bind (ksk_fold (fun i s' => ∃ (H' : Hp) (kA : Array Value) (e : Nat) (ks : List V), Inv X pins σ H' s' ∧ Same H H' ∧ s'.heap.get? kS = some (seqObj "list" kA e) ∧ s'.heap.get? a = some (seqObj "list" #[] e1) ∧
    H' kS = none ∧ H' a = none ∧ Vals ks kA.toList ∧ Paired (fun y x => kv x y H') ks (xs.take i)) vs 0 s ⟨H, #[], 0, [], I, Same.refl H, h1, h2, n1, n2, .nil, by rw [List.take_zero]; exact .nil⟩ ?step ?done)
  case step =>
    rintro j u s1 hu ⟨H1, kA, e, ks, I1, sm, g1, g2, m1, m2, rv, pk⟩
    rw [Nat.zero_add] at pk ⊢
    obtain ⟨hj, _⟩ := List.getElem?_eq_some_iff.mp hu
    have hjx : j < xs.length := by rw [← lv]; exact hj
    obtain ⟨u', hu', ru⟩ := rx.get (List.getElem?_eq_getElem hjx)
    rw [hu] at hu'
    cases hu'
    have lks : ks.length = j := by
      have q := pk.length
      rw [List.length_take] at q
      omega
    refine wpAny_bind (wpAny_attempt (wpAny_mono (run_in F hA hrk hb I1 (.cons ru .nil) (hsp _ (List.getElem_mem hjx) H1 sm (fun y H'' => Same H1 H'' ∧ kv xs[j] y H'') fun y H'' a b => ⟨a, b⟩)) (fun v s2 hc => ?_) fun _ _ z => z))
    obtain ⟨y, H2, I2, ry, ⟨sm2, ky⟩, un⟩ := ce_inv I1 hc
    try dsimp only
    have k1 := un.keep kS _ g1 m1 (notStk I1 (f1 _ m1)) (fun z => nomatch z)
    have k2 := un.keep a _ g2 m2 (notStk I1 (f2 _ m2)) (fun z => nomatch z)
    have p1 := un.free kS _ g1 m1 (fun z => nomatch z)
    have p2 := un.free a _ g2 m2 (fun z => nomatch z)
    have sk : kA.size = j := by
      have q : ks.length = kA.toList.length := Paired.length rv
      rw [Array.length_toList] at q
      exact q.symm.trans lks
    have sb := Heap.SameBut.update s2.heap kS (Obj.mapSeq (·.push v))
    obtain ⟨c, hc⟩ : ∃ c, (s2.heap.update kS (Obj.mapSeq (·.push v))).get? kS = some (seqObj "list" (kA.push v) c) := ⟨_, get?_update_seq k1 (·.push v)⟩
    have fk := f1 _ p1
    refine wpAny_bind (listUpdate_at k1 rfl ?_ (by rw [sk]; omega) (by rw [Array.size_push, sk]; omega))
    refine wpAny_pure ⟨rfl, H2, kA.push v, c, ks ++ [y], I2.turned (t' := s2.toks) (fun b o hb e => (sb.2 b hb).trans e) p1 fk.2.1 fk.2.2.2.1 fk.2.2.2.2.1 fk.2.2.2.2.2, sm.trans sm2, hc, (sb.2 a hne.symm).trans k2, p1, p2, ?_, ?_⟩
    · rw [Array.toList_push]
      exact rv.append (.cons ry .nil)
    · rw [List.take_add_one, List.getElem?_eq_getElem hjx]
      exact paired_append (Paired.mapP pk fun a b z => K.grow _ _ _ _ sm2 z) (.cons ky .nil)
  case done =>
    rintro s1 ⟨H1, kA, e, ks, I1, sm, g1, g2, m1, m2, rv, pk⟩
    have et : xs.take (0 + vs.length) = xs := List.take_of_length_le (by omega)
    rw [et] at pk
    try dsimp only
    refine wpAny_bind (listItems_at g1 rfl ?_)
    have rho : ∀ y x, kv x y H1 → rk x = rk (Classical.epsilon fun x => kv x y H1) := fun y x hx => K.one _ _ _ _ hx (Classical.epsilon_spec (p := fun x => kv x y H1) ⟨x, hx⟩)
    refine key_end K hr I1 g1 g2 hne (f1 _ m1) (f2 _ m2) rv rx pk.length hz (fun y => rk (Classical.epsilon fun x => kv x y H1)) (fun y hy => ?_) fun qs s' a1 a2 a3 => h (qs.map Prod.snd) H1 s' sm m2 ?_ ?_ a3
    · obtain ⟨x, hx⟩ := paired_left pk y hy
      exact ⟨x, hx, rho y x hx⟩
    · have q := a1.map Prod.snd
      rw [List.map_snd_zip (by rw [pk.length]; exact Nat.le_refl _)] at q
      exact q
    · rw [List.pairwise_map]
      refine a2.imp_of_mem fun {p q} hp hq z => ?_
      rw [rho _ _ (paired_zip pk _ (a1.mem_iff.mp hp)), rho _ _ (paired_zip pk _ (a1.mem_iff.mp hq))]
      exact z
/-- sorted(xs, key=f) -/
def rSortedF (K : PySem.W.Frag) (f : Addr) (sp : Sp) {R : Type} (rk : V → R) (kv : V → V → Hp → Prop) (ltr : R → R → Bool) : List V → List V → Hp → VK → Prop := fun vs zs H Q => ∃ (a : Addr) (xs : List V), vs = [.ref a] ∧ zs = [.ref f] ∧ SqL K H a xs ∧
  (∀ x ∈ xs, ∀ H', Same H H' → ∀ Q : VK, (∀ y H'', Same H' H'' → kv x y H'' → Q y H'') → sp [x] H' Q E0) ∧
  ∀ (ys : List V) (p : Addr) (H' : Hp), Same H H' → H' p = none → ys.Perm xs → ys.Pairwise (fun x y => ltr (rk y) (rk x) = false) → Q (.ref p) (upd H' p (.lst ys))
theorem cr_sortedF {f : Addr} {fd : FuncData} {ps : List Str} {sp : Sp} {k : Nat} (F : FnOk X.prog X.w X.K X.mg X.base CX0 k f fd ps sp) (hb : Binds X.K fd ps []) (hr : Room (k + 8) X.A) (K : KeyKind X rk kv ltr) : CallRK X (.builtin "sorted") [Str.ofString "key"] (rSortedF X.K f sp rk kv ltr) := by
  intro pins s σ H ws zs us ts Q I r rz h
  obtain ⟨l, xs, rfl, rfl, hl, hsp, q⟩ := h
  obtain rfl := Vals.ref1 r
  obtain ⟨w1, rfl, ew⟩ := vals1 rz
  obtain rfl : w1 = Value.ref f := ew
  obtain ⟨vs, rx, pl, hz⟩ := I.list hl
  have lv : vs.length = xs.length := rx.length.symm
  have r2 : Room (k + 6) X.A.in1.in1 := (show Room (k + 6 + 1) X.A.in1 from Room.in1 hr).in1
  refine call_function_entry_kw kind_sorted plain_sorted entry_sorted (ksk_s1 _ _) ?_
  unfold Builtin.«sorted»
  refine wpAny_bind (m := checkCount "sorted" 1 1 _) (wpAny_pure ?_)
  refine wpAny_bind (collect_list pl.isList ?_ (by rw [lv]; exact hz))
  refine wpAny_bind (wpAny_newList ?_ (by rw [lv]; exact hz))
  generalize hg : (s.heap.push (seqObj "list" #[] 0)).update s.heap.objs.size (Obj.mapSeq (· ++ vs.toArray)) = g
  have gs : g.objs.size = s.heap.objs.size + 1 := by rw [← hg, Heap.size_update, size_push']
  have keep : ∀ b o, s.heap.get? b = some o → g.get? b = some o := fun b o e => by
    rw [← hg, Heap.get?_update_ne _ _ _ _ (Nat.ne_of_lt (Heap.lt_size e))]
    exact Heap.get?_push_of_some _ e
  have I1 : Inv X pins σ H { s with heap := g } := I.kept (t' := s.toks) keep
  have ho : (g.push (seqObj "list" vs.toArray 0)).get? g.objs.size = some (seqObj "list" vs.toArray 0) := Heap.get?_push_size _ rfl
  have I2 : Inv X pins σ H { s with heap := g.push (seqObj "list" vs.toArray 0) } := I1.kept (t' := s.toks) fun b o e => Heap.get?_push_of_some _ e
  have f2 : ∀ H', H' g.objs.size = none → FpOk X pins H' g.objs.size := fun H' n => I1.fpOk (s := { s with heap := g }) (Nat.le_refl _) n
  have n2 : H g.objs.size = none := I1.hok.fresh (Nat.le_refl _)
  refine wpAny_bind (wpAny_holding (wpAny_call_entry_kw (T := "list") (s := { s with heap := g.push (seqObj "list" vs.toArray 0) }) slot_list_sort ⟨_, ho, rfl⟩ entry_list_sort ?body (ksk_l1 _ _)))
  case body =>
    show wpAny _ X.A.in1.in1 (Builtin.«list.sort» ⟨[.ref g.objs.size], [(Str.ofString "key", .ref f)]⟩) _ _ _
    rw [ksk_t1]
    unfold ksk_tree
    have s1 := Heap.SameBut.update (g.push (seqObj "list" vs.toArray 0)) g.objs.size (Obj.mapSeq fun _ => (#[] : Array Value))
    obtain ⟨e1, g1⟩ : ∃ e1, ((g.push (seqObj "list" vs.toArray 0)).update g.objs.size (Obj.mapSeq fun _ => (#[] : Array Value))).get? g.objs.size = some (seqObj "list" #[] e1) := ⟨_, get?_update_seq ho fun _ => #[]⟩
    generalize hg2 : (g.push (seqObj "list" vs.toArray 0)).update g.objs.size (Obj.mapSeq fun _ => (#[] : Array Value)) = g2 at s1 g1
    have gs2 : g2.objs.size = g.objs.size + 1 := by rw [← hg2, Heap.size_update, size_push']
    have fa := f2 H n2
    have I3 : Inv X pins σ H { s with heap := g2 } := I2.turned (t' := s.toks) (fun b o hb e => (s1.2 b hb).trans e) fa.1 fa.2.1 fa.2.2.2.1 fa.2.2.2.2.1 fa.2.2.2.2.2
    refine wpAny_bind (listItems_at ho rfl ?_)
    refine wpAny_bind (listUpdate_at ho rfl ?_ (by rw [List.size_toArray, lv]; exact hz) (Nat.zero_le _))
    rw [hg2]
    refine wpAny_bind (seqEpoch_at g1 rfl ?_)
    refine wpAny_bind (wpAny_newTuple ?_ (by show vs.length ≤ _; rw [lv]; exact hz))
    have I4 : Inv X pins σ H { s with heap := g2.push (seqObj "tuple" vs.toArray 0) } := I3.kept (t' := s.toks) fun b o e => Heap.get?_push_of_some _ e
    generalize hg3 : g2.push (seqObj "tuple" vs.toArray 0) = g3 at I4
    have gs3 : g3.objs.size = g2.objs.size + 1 := by rw [← hg3, size_push']
    have e3 : g3.get? g.objs.size = some (seqObj "list" #[] e1) := by rw [← hg3]; exact Heap.get?_push_of_some _ g1
    refine wpAny_bind (wpAny_newList ?_ (Nat.zero_le _))
    refine wpAny_holding ?_
    have I5 : Inv X pins σ H { s with heap := g3.push (seqObj "list" #[] 0) } := I4.kept (t' := s.toks) fun b o e => Heap.get?_push_of_some _ e
    have f1 : ∀ H', H' g3.objs.size = none → FpOk X pins H' g3.objs.size := fun H' n => I4.fpOk (s := { s with heap := g3 }) (Nat.le_refl _) n
    have hX := I.ok.frames
    refine key_rest F (by rw [← hX]) (r2.mono (by omega)) hb K (r2.mono (by omega)) I5 (Heap.get?_push_size _ rfl) (Heap.get?_push_of_some _ e3) (fun z => by have z' : (g3.objs.size : Nat) = g.objs.size := z; omega) f1 f2 (I4.hok.fresh (Nat.le_refl _)) n2 rx hz hsp fun ys H' s' a1 a2 a3 a4 a5 => ?_
    refine ⟨_, rfl, ?_⟩
    exact wpAny_pure ⟨_, rfl, .ref g.objs.size, _, a5, rfl, q ys _ H' a1 a2 a3 a4⟩
end
end L2.KK
namespace L2.KK
open PySem PySem.Spec PyProof.Rows
section
variable {X : Cx}
/-! ### o[i] of a list, for o[i] op= e -/
/-- o[j], 0 ≤ j, of a list -/
def rGetL (K : PySem.W.Frag) : V → V → Hp → VK → Prop := fun x y H Q => ∃ (p : Addr) (xs : List V) (j : Nat) (v : V), x = .ref p ∧ y = .int (j : Int) ∧ SqL K H p xs ∧ xs[j]? = some v ∧ j < 1000 ∧ Q v H
theorem get_list : PGet X (rGetL X.K) := by
  intro pins s σ H o i ov iv Q I ro ri h
  obtain ⟨p, xs, j, v, rfl, rfl, hl, hj, hb, q⟩ := h
  obtain rfl : ov = Value.ref p := ro
  obtain ⟨t, rfl⟩ := ri
  obtain ⟨its, rv, pl, hz⟩ := I.list hl
  obtain ⟨u, hu, ru⟩ := rv.get hj
  have hlt : j < its.length := (List.getElem?_eq_some_iff.mp hu).1
  refine wpAny_getItem_list (x := u) pl.isList (by omega) (by omega) ?_ ?_ 
  all_goals first
    | exact ⟨v, H, I, ru, q⟩
    | (simp; omega)
    | simpa using hu
/-! ### keys that are ints -/
def kInt (g : V → Int) : V → V → Hp → Prop := fun x y _ => y = .int (g x)
theorem key_int (g : V → Int) : KeyKind X g (kInt g) (fun i j => decide (i < j)) where
  grow := fun _ _ _ _ _ h => h
  one := fun x x' y H h h' => by
    have a : y = .int (g x) := h
    have b : y = .int (g x') := h'
    rw [a] at b
    injection b
  swo := ⟨fun x y h => by
    have := of_decide_eq_true h
    exact decide_eq_false (by omega), fun x y z h1 h2 => by
    have a := of_decide_eq_false h1
    have b := of_decide_eq_false h2
    exact decide_eq_false (by omega)⟩
  cmp := fun pins σ H s A us ρ hr I h2 hu => by
    have ex : ∀ u ∈ us, ∃ t, u = .int (ρ (vOf u)) t := fun u m => by
      obtain ⟨r, x, hx, e⟩ := hu u m
      have e2 : vOf u = .int (g x) := hx
      rw [e2] at r
      obtain ⟨t, et⟩ := r
      exact ⟨t, by rw [← e]; exact et⟩
    have all : ∀ l : List Value, (∀ u ∈ l, ∃ t, u = .int (ρ (vOf u)) t) → IntsAre l (l.map fun u => ρ (vOf u)) := by
      intro l
      induction l with
      | nil => intro _; exact .nil
      | cons u l ih =>
        intro h
        rw [List.map_cons]
        obtain ⟨t, e⟩ := h u List.mem_cons_self
        have q : IntsAre (.int (ρ (vOf u)) t :: l) (ρ (vOf u) :: l.map fun u => ρ (vOf u)) := .cons _ _ (ih fun v hv => h v (List.mem_cons_of_mem _ hv))
        rw [← e] at q
        exact q
    obtain ⟨κ, k1, k2⟩ := SrtO.ints_sortable (prog := X.prog) (w := X.w) (A := A) (s := s) (a := 0) (all us ex) h2 s.heap fun _ _ _ e => e
    refine ⟨κ, k1, fun p q hp hq => ?_⟩
    have q1 := k2 p q hp hq
    have ip : ∀ u ∈ us, SrtO.iv u = ρ (vOf u) := fun u m => by
      obtain ⟨t, e⟩ := ex u m
      have q : SrtO.iv (.int (ρ (vOf u)) t) = ρ (vOf u) := rfl
      rw [← e] at q
      exact q
    have el : SrtO.lt2 SrtO.ltIv p q = decide (ρ (vOf p.1) < ρ (vOf q.1)) := by
      show decide (SrtO.iv p.1 < SrtO.iv q.1) = _
      rw [ip _ hp, ip _ hq]
    rw [el] at q1
    exact q1

/-! ### keys (len(lot), lot), lot a tuple of ints -/
def ltLot (a b : List Int) : Bool := if a.length = b.length then HT.lexLt a b else decide (a.length < b.length)
def kLot (K : PySem.W.Frag) (rk : V → List Int) : V → V → Hp → Prop := fun x y H => ∃ t p, x = .ref t ∧ y = .ref p ∧ SqT K H t ((rk x).map V.int) ∧ H p = some (.tup [.int ((rk x).length : Int), .ref t])
theorem lexLt_self : ∀ l : List Int, HT.lexLt l l = false
  | [] => rfl
  | x :: l => by rw [HT.lexLt_cons, if_pos rfl, lexLt_self l]
theorem same_seqT {K : PySem.W.Frag} {H H' : Hp} {a : Addr} {xs : List V} (e : Same H H') (h : SqT K H a xs) : SqT K H' a xs := by
  rcases h with (h | ⟨o, h⟩) | h
  · exact .inl (.inl (e _ _ h))
  · exact .inl (.inr ⟨o, e _ _ h⟩)
  · exact .inr h
theorem swo_lot : SrtO.Swo ltLot := by
  refine ⟨fun x y h => ?_, fun x y z h1 h2 => ?_⟩
  · unfold ltLot at h ⊢
    by_cases e : x.length = y.length
    · rw [if_pos e] at h
      rw [if_pos e.symm]
      exact NtL.lex_asym _ _ h
    · rw [if_neg e] at h
      rw [if_neg (Ne.symm e)]
      have := of_decide_eq_true h
      exact decide_eq_false (by omega)
  · unfold ltLot at h1 h2 ⊢
    by_cases e1 : y.length = x.length
    · rw [if_pos e1] at h1
      by_cases e2 : z.length = y.length
      · rw [if_pos e2] at h2
        rw [if_pos (e2.trans e1)]
        exact NtL.lex_tr _ _ _ h1 h2
      · rw [if_neg e2] at h2
        have := of_decide_eq_false h2
        rw [if_neg (by omega)]
        exact decide_eq_false (by omega)
    · rw [if_neg e1] at h1
      have := of_decide_eq_false h1
      by_cases e2 : z.length = y.length
      · rw [if_neg (by omega)]
        exact decide_eq_false (by omega)
      · rw [if_neg e2] at h2
        have := of_decide_eq_false h2
        rw [if_neg (by omega)]
        exact decide_eq_false (by omega)
theorem ltLot_anti {a b : List Int} (h1 : ltLot a b = false) (h2 : ltLot b a = false) : a = b := by
  have key : ∀ a b : List Int, a.length = b.length → HT.lexLt a b = false → HT.lexLt b a = false → a = b := by
    intro a
    induction a with
    | nil => intro b h _ _; cases b with
      | nil => rfl
      | cons _ _ => simp at h
    | cons x a ih =>
      intro b h h1 h2
      cases b with
      | nil => simp at h
      | cons y b =>
        rw [HT.lexLt_cons] at h1 h2
        by_cases e : x = y
        · subst e
          rw [if_pos rfl] at h1 h2
          rw [ih b (by simpa using h) h1 h2]
        · rw [if_neg e] at h1
          rw [if_neg (Ne.symm e)] at h2
          have := of_decide_eq_false h1
          have := of_decide_eq_false h2
          exact absurd (by omega) e
  unfold ltLot at h1 h2
  by_cases e : a.length = b.length
  · rw [if_pos e] at h1
    rw [if_pos e.symm] at h2
    exact key a b e h1 h2
  · rw [if_neg e] at h1
    rw [if_neg (Ne.symm e)] at h2
    have := of_decide_eq_false h1
    have := of_decide_eq_false h2
    omega
theorem readsAll_ints {h : Heap} : ∀ {its : List Value} {ns : List Int}, IntsAre its ns → ∃ as, ReadsAll h its (ns.map PyData.int) as
  | _, _, .nil => ⟨_, .nil⟩
  | _, _, .cons n t r => by
    obtain ⟨as, q⟩ := readsAll_ints (h := h) r
    exact ⟨_, .cons (.int n t) q⟩
theorem shaped_ints (ns : List Int) : SeqAt.shaped (.tuple (ns.map PyData.int)) = true := by
  have h := PySem.W.plainAll_map (α := Int) ns
  have d := PySem.W.depthAll_map (α := Int) ns
  have c : PyData.canLayAll0 (ns.map PyData.int) = true := by
    induction ns with
    | nil => rfl
    | cons n ns ih =>
      rw [List.map_cons]
      unfold PyData.canLayAll0
      rw [ih (PySem.W.plainAll_map (α := Int) ns) (PySem.W.depthAll_map (α := Int) ns)]
      rfl
  unfold SeqAt.shaped
  rw [Bool.and_eq_true]
  refine ⟨?_, decide_eq_true ?_⟩
  · unfold PyData.canLay0
    exact c
  · unfold PyData.depth
    have e : PySem.W.Datum.depth Int = 0 := rfl
    rw [e] at d
    have d' : PyData.depthAll (ns.map PyData.int) ≤ 0 := d
    omega
theorem key_lot (rk : V → List Int) : KeyKind X rk (kLot X.K rk) ltLot where
  grow := fun x y H H' e ⟨t, p, h1, h2, h3, h4⟩ => ⟨t, p, h1, h2, same_seqT e h3, e _ _ h4⟩
  one := fun x x' y H ⟨t, p, h1, h2, h3, h4⟩ ⟨t', p', k1, k2, k3, k4⟩ => by
    subst h2
    injection k2 with e
    subst e
    rw [h4] at k4
    injection k4 with e
    injection e with e
    injection e with _ e
    injection e with e _
    rw [h1, k1, e]
  swo := swo_lot
  cmp := fun pins σ H s A us ρ hr I h2 hu => by
    -- what each key is
    have at_ : ∀ u ∈ us, ∃ (p : Addr) (o : Obj) (t : Addr) (tk : Tok) (n : Nat) (its : List Value), u = .ref p ∧ s.heap.get? p = some o ∧ o.cls = .type "tuple" ∧ o.data = .seq (List.toArray [.int ((ρ (vOf u)).length : Int) tk, .ref t]) n ∧
        IsTup s.heap t its.toArray ∧ IntsAre its (ρ (vOf u)) := fun u m => by
      obtain ⟨r, x, ⟨t, p, e1, e2, h3, h4⟩, e⟩ := hu u m
      rw [e2] at r
      obtain ⟨its, rv, pt, _⟩ := I.tuple h3
      obtain ⟨_, its2, rv2, o, ho, hc, n, hd⟩ := I.hok _ _ h4
      obtain ⟨u1, u2, rfl, r1, r2⟩ := vals2 rv2
      obtain ⟨tk, rfl⟩ := r1
      obtain rfl : u2 = Value.ref t := r2
      have er : u = Value.ref p := r
      refine ⟨p, o, t, tk, n, its, er, ho, hc, ?_, pt, ?_⟩
      · rw [← e]
        exact hd
      · rw [← e]
        have q := intsAre_of rv
        simpa using q
    have firsts : ∀ l : List Value, (∀ u ∈ l, u ∈ us) → ∃ fs : List Value, PySem.W.KatTups s.heap l fs ∧ fs.length = l.length ∧ ∀ f ∈ fs, ∃ i t, f = Value.int i t := by
      intro l
      induction l with
      | nil => intro _; exact ⟨[], PySem.W.KatTups.nil, rfl, fun _ h => nomatch h⟩
      | cons u l ih =>
        intro h
        obtain ⟨fs, k1, k2, k3⟩ := ih fun v hv => h v (List.mem_cons_of_mem _ hv)
        obtain ⟨p, o, t, tk, n, its, rfl, ho, hc, hd, _, _⟩ := at_ u (h u List.mem_cons_self)
        refine ⟨_ :: fs, PySem.W.KatTups.cons ho hc hd rfl k1, by rw [List.length_cons, List.length_cons, k2], fun f hf => ?_⟩
        rcases List.mem_cons.mp hf with hf | hf
        · exact ⟨_, _, hf⟩
        · exact k3 f hf
    obtain ⟨fs, k1, k2, k3⟩ := firsts us fun _ h => h
    refine ⟨tuples' true, fun Q E hq => ?_, fun p q hp hq => ?_⟩
    · refine PySem.W.kat_kind (T := .type "int") k1 (by omega) (fun f hm => ?_) (by rfl) ?_
      · obtain ⟨x, t, rfl⟩ := k3 f hm
        exact PySem.W.Looks.now
      · have e : (Value.type "int" != Value.type "tuple") = true := by first | decide +kernel | rfl | decide
        rw [e]
        exact hq
    · obtain ⟨p1, o1, t1, tk1, n1, its1, e1, ho1, hc1, hd1, pt1, ia1⟩ := at_ _ hp
      obtain ⟨p2, o2, t2, tk2, n2, its2, e2, ho2, hc2, hd2, pt2, ia2⟩ := at_ _ hq
      show wpAny _ _ (keyLt' (tuples' true) p.1 q.1) (fun r s' => s' = s ∧ r = ltLot (ρ (vOf p.1)) (ρ (vOf q.1))) _ s
      generalize ρ (vOf p.1) = a at *
      generalize ρ (vOf q.1) = b at *
      rw [e1, e2]
      have un := hr.un
      refine PySem.W.kat_lt ho1 hd1 ho2 hd2 ?_
      show PySem.W.KatLex X.prog X.w A true (decide (2 < 2)) _ [(.int (a.length : Int) tk1, .int (b.length : Int) tk2), (.ref t1, .ref t2)] 0 s
      refine PySem.W.kat_cons (SeqAt.EqAt.int_int _ tk1 _ tk2 X.prog X.w _ _ ?_)
      refine PySem.W.kat_go (fun x1 => ?_) (fun x1 => ?_)
      · have el : a.length = b.length := by
          have := eq_of_beq x1
          omega
        refine PySem.W.kat_yes (PySem.W.kat_cons ?_)
        obtain ⟨as, ra⟩ := readsAll_ints (h := s.heap) ia1
        obtain ⟨bs, rb⟩ := readsAll_ints (h := s.heap) ia2
        obtain ⟨o3, g3, c3, m3, d3⟩ := id pt1
        obtain ⟨o4, g4, c4, m4, d4⟩ := id pt2
        have R1 : Reads s.heap (.ref t1) (.tuple (a.map PyData.int)) as := .tuple g3 c3 d3 (by simpa using ra)
        have R2 : Reads s.heap (.ref t2) (.tuple (b.map PyData.int)) bs := .tuple g4 c4 d4 (by simpa using rb)
        refine SeqAt.eqAt_reads _ _ A s _ _ _ _ R1 R2 (SeqAt.canLay_of_shaped (shaped_ints a)) (SeqAt.canLay_of_shaped (shaped_ints b)) (SeqAt.room_of_shaped (shaped_ints a) (by omega)) X.prog X.w _ _ ?_
        have ev : PyData.eqv (.tuple (a.map PyData.int)) (.tuple (b.map PyData.int)) = decide (a = b) := by
          show PyData.eqvAll _ _ = _
          exact PySem.W.ked_eqvAll a b
        rw [ev]
        refine PySem.W.kat_go (fun x2 => ?_) (fun x2 => ?_)
        · have eab : a = b := of_decide_eq_true x2
          refine PySem.W.kat_yes (PySem.W.kat_nil ⟨rfl, ?_⟩)
          unfold ltLot
          rw [if_pos el, eab, lexLt_self]
          rfl
        · refine PySem.W.kat_no (PySem.W.kat_one _ _ ?_)
          refine HT.lt_tupInts pt1 pt2 (by simpa using ia1) (by simpa using ia2) (by omega) ⟨rfl, ?_⟩
          unfold ltLot
          rw [if_pos el]
      · have el : ¬ a.length = b.length := fun z => by
          have : ¬ ((a.length : Int) == (b.length : Int)) = true := by rw [x1]; exact Bool.false_ne_true
          exact this (by rw [z]; exact beq_self_eq_true _)
        refine PySem.W.kat_no ?_
        show wpAny _ _ (oneLt' true _ _) _ _ _
        refine oneLt_int ⟨rfl, ?_⟩
        unfold ltLot
        rw [if_neg el]
        exact decide_eq_decide.mpr (by omega)
end
end L2.KK
namespace L2.KK
open PySem PySem.Spec PyProof.Rows
abbrev emptySet (w : World) : Obj := { cls := .type "set", dict := none, data := .set #[] 0 (.fresh 0 0 (!w.params.followText "set-order")) }
section
variable {P : Program} {w : World} {A : Around} {E : Value → Shared → Prop} {s : Shared}
/-- set(xs), xs a list of ints -/
theorem set_of_ints {l : Addr} {items : Array Value} (ns : List Int) {Q : Value → Shared → Prop} (hh : A.handled = none) (hl : s.heap.IsList l items) (hit : IntsAre items.toList ns) (hb : ns.length + 1 < scanBound)
    (h : ∀ (h' : Heap) (tk c : Nat), SetR w h' s.heap.objs.size (fun j => decide (j ∈ ns)) c → c ≤ ns.length → (∀ b o, s.heap.get? b = some o → h'.get? b = some o) → Q (.ref s.heap.objs.size) { s with heap := h', toks := tk }) :
    wpAny (model P w) A (call (.type "set") [.ref l]) Q E s := by
  have hisz : items.size = ns.length := by
    have q := IntsAre.length hit
    rw [Array.length_toList] at q
    exact q
  obtain ⟨c, tl, hmro⟩ := PySem.F.called_set.mro
  have hmade := PySem.F.called_set.made
  have hsub := PySem.F.called_set.sub
  refine wpAny_call (codeAny_of_tree ?_)
  show wpAny _ _ (callAny (.type "set") _) _ _ _
  refine wpAny_pure ⟨Code.quiet_builtin _ (by decide +kernel), codeAny_builtin PySem.F.entry_type_call ?_⟩
  rw [Around.under_plain (weight_type_call_type "set" [.ref l] []) rfl]
  have h1 := PySem.F.called_set.notType
  have h2 := PySem.F.called_set.canCreate
  have hct := PySem.F.typeCall_set_1 (.ref l)
  repeat (any_goals (first | assumption | wp_step))
  refine codeAny_mono (code_set_led1 (.ref l) (E := E) (Q₁ := fun obj s₁ => obj = .ref s.heap.objs.size ∧ s₁ = { s with heap := s.heap.push (emptySet w) }) ⟨rfl, rfl⟩) fun r s₁ hr => ?_
  cases r with
  | error e => exact hr
  | ok fl =>
    cases fl with
    | ret obj =>
      obtain ⟨rfl, rfl⟩ := hr
      have hS : (s.heap.push (emptySet w)).get? s.heap.objs.size = some (emptySet w) := Heap.get?_push_size _ rfl
      have hT : Shared.TypeIs { s with heap := s.heap.push (emptySet w) } (.ref s.heap.objs.size) "set" := ⟨_, hS, rfl⟩
      have hli := PySem.F.called_set.init.lookup
      have hbi := PySem.F.called_set.init.bind (.ref s.heap.objs.size)
      repeat (any_goals (first | assumption | wp_step))
      refine codeAny_mono (codeAny_call_builtin (R := wants (fun r s₂ => r = .none ∧ ∃ h' tk c, s₂ = { s with heap := h', toks := tk } ∧ SetR w h' s.heap.objs.size (fun j => decide (j ∈ ns)) c ∧ c ≤ ns.length ∧
          (∀ b o, s.heap.get? b = some o → h'.get? b = some o)) E) PySem.F.called_set.init.plain PySem.F.entry_set_init (PySem.check_set_init_1 hT ?_)) fun r₂ s₂ hr₂ => ?_
      · obtain ⟨ol, hol, hcl, nl, hdl⟩ := id hl
        obtain ⟨ocls, odict, odata, oslots⟩ := ol
        simp only at hcl hdl
        subst hcl; subst hdl
        have hol' : (s.heap.push (emptySet w)).get? l = some { cls := .type "list", dict := odict, data := .seq items nl, slots := oslots } := Heap.get?_push_of_some _ hol
        have hsls := PySem.F.sub_list_set
        have hslf := PySem.F.sub_list_frozenset
        have hne : (Value.type "list" == Value.type "dict") = false := by decide
        have hl1 : (s.heap.push (emptySet w)).IsList l items := hl.push _
        unfold Builtin.«set.__init__» noKeywords Builtin.Frozenset.updateFrom
        generalize hPI : pyIter = PI
        wp_walk
        subst hPI
        refine wpAny_pyIter_list hl1 ?_
        refine wpAny_bind (wpAny_runValue ?_)
        have hlS : l < s.heap.objs.size := Heap.lt_size hol
        have hh3 : A.in1.in1.in1.handled = none := by simp [hh]
        have hz1 : (s.heap.push (emptySet w)).objs.size = s.heap.objs.size + 1 := Heap.size_push ..
        have hneI : l ≠ (s.heap.push (emptySet w)).objs.size := by
          rw [hz1]; exact Nat.ne_of_lt (Nat.lt_succ_of_lt hlS)
        have hSf : s.heap.objs.size ∉ [(s.heap.push (emptySet w)).objs.size, l] := by
          rw [hz1]; simp only [List.mem_cons, List.not_mem_nil, or_false, not_or]
          exact ⟨Nat.ne_of_lt (Nat.lt_succ_self _), Nat.ne_of_gt hlS⟩
        have hval : ∀ (i : Nat) (v : Value), items[i]? = some v → ∃ k t, ns[i]? = some k ∧ v = .int k t := fun i v hv => by
          have hi : i < ns.length := by rw [← hisz]; exact (Array.getElem?_eq_some_iff.mp hv).1
          obtain ⟨t, e⟩ := IntsAre.int_at hit i v (by rw [Array.getElem?_toList]; exact hv)
          exact ⟨ns[i], t, List.getElem?_eq_getElem hi, by rw [e, List.getD_eq_getElem?_getD, List.getElem?_eq_getElem hi]; rfl⟩
        refine set_update_ints ((Walks.list hh3 _ l hneI items).toS) s.heap.objs.size hSf ns hisz hb hval (items.size - 0) 0 _ (by omega) (Nat.zero_le _) ⟨⟨_, Heap.get?_push_size _ rfl, rfl, rfl⟩, (hl1.push _)⟩ ?hS0 ?hR
        case hS0 => exact ⟨0, Nat.le_refl 0, setR_new_at (Heap.get?_push_of_some _ hS)⟩
        case hR =>
          intro s' c' hm hc' hS'
          obtain ⟨h', g2, d', tk', os'⟩ := s'
          have eg : g2 = s.gens := hm.gens
          have ed : d' = s.drawn := hm.drawn
          have eo : os' = s.os := hm.os
          subst eg; subst ed; subst eo
          show wpAny _ _ _ _ _ _
          refine wpAny_pure ?_
          show wpAny _ _ (ret Value.none) _ _ _
          rw [hisz] at hc'
          refine wpAny_pure ⟨rfl, h', tk', c', rfl, hS', hc', fun b o e => ?_⟩
          have hb0 : b < s.heap.objs.size := Heap.lt_size e
          refine hm.heap b o (fun hmem => ?_) (Heap.get?_push_of_some _ (Heap.get?_push_of_some _ e))
          rcases List.mem_cons.mp hmem with z | z
          · exact Nat.ne_of_lt hb0 z
          · have e1 : b = s.heap.objs.size + 1 := (List.mem_singleton.mp z).trans hz1
            exact absurd hb0 (by rw [e1]; exact Nat.not_lt.mpr (Nat.le_succ _))
      · cases r₂ with
        | error e => exact hr₂
        | ok fl₂ =>
          cases fl₂ with
          | ret r =>
            obtain ⟨rfl, h', tk, c', rfl, hS', hc', hk'⟩ := hr₂
            repeat (any_goals (first | assumption | wp_step))
            exact h _ _ _ hS' hc' hk'
          | _ => exact hr₂.elim
    | _ => exact hr.elim
end
section
variable {X : Cx}
def rSetL (K : PySem.W.Frag) (w : World) : List V → Hp → VK → Prop := fun vs H Q => ∃ (a : Addr) (ns : List Int), vs = [.ref a] ∧ SqL K H a (ns.map V.int) ∧ ns.length ≤ 4000 ∧
  ∀ (p : Addr) (c : Nat), H p = none → c ≤ ns.length → Q (.ref p) (upd H p (SetO w p (fun j => decide (j ∈ ns)) c))
theorem cr_setL (hc : X.calm = true) : CallR X (.type "set") (rSetL X.K X.w) := by
  intro pins s σ H vs us Q I r h
  obtain ⟨a, ns, rfl, hs, hz, q⟩ := h
  obtain rfl := Vals.ref1 r
  obtain ⟨its, rv, pl, _⟩ := I.list hs
  have hi : IntsAre its ns := rv.ints
  have hn : H s.heap.objs.size = none := I.hok.fresh (Nat.le_refl _)
  refine set_of_ints (P := X.prog) ns (I.ok.hd hc) pl.isList (by simpa using hi) (Nat.lt_of_le_of_lt (Nat.succ_le_succ hz) (by decide)) fun h' tk c R hcl k => ?_
  exact ⟨.ref s.heap.objs.size, _, I.laid (t' := tk) k (Nat.le_refl _) (setO_new R), rfl, q _ c hn hcl⟩
end
end L2.KK
/-! whole numbers that are not negative; lists made by a comprehension; sorted by a def, two ways -/
namespace L2.KK
open PySem PySem.Spec PyProof.Rows
abbrev nV (n : Nat) : V := .int (n : Int)
def rN (g : Nat → Nat → V) : R2 := fun x y H Q => ∃ a b : Nat, x = nV a ∧ y = nV b ∧ Q (g a b) H
def rNC (C : Nat → Nat → Prop) (g : Nat → Nat → V) : R2 := fun x y H Q => ∃ a b : Nat, x = nV a ∧ y = nV b ∧ C a b ∧ Q (g a b) H
section
variable {X : Cx}
theorem op_andN : OpR X (binaryOp .BitAnd) (rN fun a b => nV (a &&& b)) := by
  intro pins s σ H x y v u Q I rx ry ⟨a, b, e1, e2, q⟩
  refine op_and pins s σ H x y v u Q I rx ry ⟨_, _, e1, e2, ?_⟩
  show Q (V.int (Builtin.bitAnd (a : Int) (b : Int))) H
  rw [PySem.W.os_band]
  exact q
theorem op_orN : OpR X (binaryOp .BitOr) (rN fun a b => nV (a ||| b)) := by
  intro pins s σ H x y v u Q I rx ry ⟨a, b, e1, e2, q⟩
  refine op_or pins s σ H x y v u Q I rx ry ⟨_, _, e1, e2, ?_⟩
  show Q (V.int (Builtin.bitOr (a : Int) (b : Int))) H
  rw [bitOr_nn (Int.natCast_nonneg a) (Int.natCast_nonneg b), Int.toNat_natCast, Int.toNat_natCast]
  exact q
theorem op_xorN : OpR X (binaryOp .BitXor) (rN fun a b => nV (a ^^^ b)) := by
  intro pins s σ H x y v u Q I rx ry ⟨a, b, e1, e2, q⟩
  refine op_xor pins s σ H x y v u Q I rx ry ⟨_, _, e1, e2, ?_⟩
  have e : Builtin.bitXor (a : Int) (b : Int) = ((a ^^^ b : Nat) : Int) := by
    show Builtin.bitOr (a : Int) (b : Int) - Builtin.bitAnd (a : Int) (b : Int) = _
    rw [bitOr_nn (Int.natCast_nonneg a) (Int.natCast_nonneg b), Int.toNat_natCast, Int.toNat_natCast, PySem.W.os_band]
    have := MK.or_and_xor a b
    omega
  show Q (V.int (Builtin.bitXor (a : Int) (b : Int))) H
  rw [e]
  exact q
theorem op_addNN : OpR X (binaryOp .Add) (rN fun a b => nV (a + b)) := by
  intro pins s σ H x y v u Q I rx ry ⟨a, b, e1, e2, q⟩
  refine op_add pins s σ H x y v u Q I rx ry ⟨_, _, e1, e2, ?_⟩
  show Q (V.int ((a : Int) + (b : Int))) H
  rw [← Int.natCast_add]
  exact q
theorem op_subNN : OpR X (binaryOp .Sub) (rNC (fun a b => b ≤ a) fun a b => nV (a - b)) := by
  intro pins s σ H x y v u Q I rx ry ⟨a, b, e1, e2, c, q⟩
  refine op_sub pins s σ H x y v u Q I rx ry ⟨_, _, e1, e2, ?_⟩
  show Q (V.int ((a : Int) - (b : Int))) H
  rw [show (a : Int) - (b : Int) = ((a - b : Nat) : Int) by omega]
  exact q
theorem op_shrNN : OpR X (binaryOp .RShift) (rN fun a b => nV (a >>> b)) := by
  intro pins s σ H x y v u Q I rx ry ⟨a, b, e1, e2, q⟩
  refine op_shr pins s σ H x y v u Q I rx ry ⟨_, _, e1, e2, Int.natCast_nonneg b, ?_⟩
  show Q (V.int ((a : Int) / (2 : Int) ^ (b : Int).toNat)) H
  rw [Int.toNat_natCast, show (a : Int) / (2 : Int) ^ b = ((a >>> b : Nat) : Int) by rw [Nat.shiftRight_eq_div_pow, Int.natCast_ediv, Int.natCast_pow]; rfl]
  exact q
/-- 1 << k -/
theorem op_shlNN : OpR X (binaryOp .LShift) (rNC (fun a b => b ≤ 1000000 ∧ a < 18446744073709551616) fun a b => nV (a * 2 ^ b)) := by
  intro pins s σ H x y v u Q I rx ry ⟨a, b, e1, e2, ⟨c1, c2⟩, q⟩
  refine op_shl pins s σ H x y v u Q I rx ry ⟨_, _, e1, e2, ⟨Int.natCast_nonneg b, by omega, by omega⟩, ?_⟩
  show Q (V.int ((a : Int) * (2 : Int) ^ (b : Int).toNat)) H
  rw [Int.toNat_natCast, show (a : Int) * (2 : Int) ^ b = ((a * 2 ^ b : Nat) : Int) by rw [Int.natCast_mul, Int.natCast_pow]; rfl]
  exact q

/-! ### comprehensions whose turns change nothing that stood -/
variable {K : PySem.W.Frag} {H H1 : Hp} {D : Addr} {σ : St} {k : Nat} {tt : TT} {te : TE} {Qd : Hp → Prop}
theorem paired_snoc {α β : Type} {F : α → β → Prop} {a : List α} {b : List β} {x : α} {y : β} (h : Paired F a b) (r : F x y) : Paired F (a ++ [x]) (b ++ [y]) := paired_append h (.cons r .nil)
theorem same_fresh {H H' : Hp} {p : Addr} {o : HO} (e : Same H H') (h : H p = none) : Same H (upd H' p o) := fun b u q => by
  rw [upd_ne (ne_of_none q h)]
  exact e b u q
theorem same_new {H : Hp} {p : Addr} {o : HO} (h : H p = none) : Same H (upd H p o) := same_fresh (Same.refl H) h
def NotL : HO → Prop
  | .lst _ => False
  | _ => True
/-- all but lists is as it was -/
def SameT (H H' : Hp) : Prop := ∀ b o, H b = some o → NotL o → H' b = some o
theorem sameT_of {H H' : Hp} (e : Same H H') : SameT H H' := fun b o q _ => e b o q
theorem sameT_lst {H : Hp} {D : Addr} {xs ys : List V} (h : H D = some (.lst xs)) : SameT H (upd H D (.lst ys)) := fun b o q n => by
  have nb : b ≠ D := fun z => by
    rw [z, h] at q
    cases q
    exact n
  rw [upd_ne nb]
  exact q
/-- the turns of a comprehension: sel: which are kept; P i y H: y is what turn i makes -/
structure Turns (H : Hp) (σ : St) (k : Nat) (item : Nat → V) (n : Nat) (tt : TT) (te : TE) (sel : Nat → Bool) (P : Nat → V → Hp → Prop) : Prop where
  mono : ∀ i y H H', SameT H H' → P i y H → P i y H'
  test : ∀ i H', i < n → Same H H' → ∀ Q : Bool → Hp → Prop, (∀ H'', Same H' H'' → Q (sel i) H'') → tt ((σ.set k none).set k (some (item i))) H' Q
  elt : ∀ i H', i < n → sel i = true → Same H H' → ∀ Q : VK, (∀ y H'', Same H' H'' → P i y H'' → Q y H'') → te ((σ.set k none).set k (some (item i))) H' Q
variable {item : Nat → V} {n : Nat} {sel : Nat → Bool} {P : Nat → V → Hp → Prop}
def Made (H : Hp) (D : Addr) (sel : Nat → Bool) (P : Nat → V → Hp → Prop) (i : Nat) (H' : Hp) : Prop := Same H H' ∧ ∃ ys, H' D = some (.lst ys) ∧ ys.length ≤ i ∧ Paired (fun y j => P j y H') ys ((List.range i).filter sel)
theorem Turns.go (T : Turns H σ k item n tt te sel P) (hD : H D = none) (hz : n ≤ sizeLine) {i : Nat} {H' : Hp} (hi : i < n) (M : Made H D sel P i H') :
    gName k (item i) (wipe σ [k]) H' fun σ2 H2 => wipe σ2 [k] = wipe σ [k] ∧ tt σ2 H2 fun b H3 =>
      if b = true then te σ2 H3 fun y H4 => ∃ acc, H4 D = some (.lst acc) ∧ acc.length < sizeLine ∧ Made H D sel P (i + 1) (upd H4 D (.lst (acc ++ [y]))) else Made H D sel P (i + 1) H3 := by
  obtain ⟨sm, ys, hd, hl, pr⟩ := M
  show wipe ((σ.set k none).set k (some (item i))) [k] = wipe σ [k] ∧ tt ((σ.set k none).set k (some (item i))) H' _
  refine ⟨by show ((σ.set k none).set k (some (item i))).set k none = σ.set k none; rw [List.set_set, List.set_set], ?_⟩
  refine T.test i H' hi sm _ fun H3 s3 => ?_
  have rs : (List.range (i + 1)).filter sel = (List.range i).filter sel ++ (if sel i = true then [i] else []) := by
    rw [List.range_succ, List.filter_append]
    rw [List.filter_cons, List.filter_nil]
  cases hsel : sel i with
  | true =>
    refine iteT ?_
    refine T.elt i H3 hi hsel (sm.trans s3) _ fun y H4 s4 p => ?_
    refine ⟨ys, s4 _ _ (s3 _ _ hd), by omega, same_fresh ((sm.trans s3).trans s4) hD, ys ++ [y], upd_same, by rw [List.length_append]; show ys.length + 1 ≤ i + 1; omega, ?_⟩
    rw [rs, hsel, if_pos rfl]
    have s5 := sameT_lst (ys := ys ++ [y]) (s4 _ _ (s3 _ _ hd))
    exact paired_snoc (Paired.mapP pr fun y j q => T.mono _ _ _ _ s5 (T.mono _ _ _ _ (sameT_of (s3.trans s4)) q)) (T.mono _ _ _ _ s5 p)
  | false =>
    refine iteF ?_
    exact ⟨sm.trans s3, ys, s3 _ _ hd, by omega, by rw [rs, hsel, if_neg Bool.false_ne_true, List.append_nil]; exact Paired.mapP pr fun y j q => T.mono _ _ _ _ (sameT_of s3) q⟩
theorem Turns.start (hD : H D = none) : Made H D sel P 0 (upd H D (.lst [])) := ⟨same_new hD, [], upd_same, Nat.zero_le _, .nil⟩
theorem lc_rangeT {lo : Int} (T : Turns H σ k (fun i => .int (lo + i)) n tt te sel P) (hD : H D = none) (hz : n ≤ sizeLine) (hd : ∀ H' ys, Same H H' → H' D = some (.lst ys) → ys.length ≤ n → Paired (fun y j => P j y H') ys ((List.range n).filter sel) → Qd H') :
    ∃ W : Nat → Nat → Hp → Prop, (∃ m, W 0 m (upd H D (.lst []))) ∧ ∀ i m H, W i m H →
      ((Itr lo n).stop i H ∧ Qd H) ∨ ((Itr lo n).go i H ∧ ∃ Nx : Hp → Prop, (∀ H', Nx H' → ∃ m', m' < m ∧ W (i + 1) m' H') ∧ ∀ x H', (Itr lo n).yld i H x H' → gName k x (wipe σ [k]) H' fun σ2 H2 => wipe σ2 [k] = wipe σ [k] ∧ tt σ2 H2 fun b H3 =>
        if b = true then te σ2 H3 fun y H4 => ∃ acc, H4 D = some (.lst acc) ∧ acc.length < sizeLine ∧ Nx (upd H4 D (.lst (acc ++ [y]))) else Nx H3) :=
  lc_range (lo := lo) (n := n) (Made H D sel P) (Turns.start hD) (fun i H' hi M => T.go hD hz hi M) fun H' ⟨a, ys, b, c, d⟩ => hd H' ys a b c d
theorem lc_listT {a : Addr} {xs : List V} (hx : SqL K H a xs) (T : Turns H σ k (fun i => xs.getD i .non) xs.length tt te sel P) (hD : H D = none) (hz : xs.length ≤ sizeLine)
    (hd : ∀ H' ys, Same H H' → H' D = some (.lst ys) → ys.length ≤ xs.length → Paired (fun y j => P j y H') ys ((List.range xs.length).filter sel) → Qd H') :
    ∃ W : Nat → Nat → Hp → Prop, (∃ m, W 0 m (upd H D (.lst []))) ∧ ∀ i m H, W i m H →
      ((Itl K a).stop i H ∧ Qd H) ∨ ((Itl K a).go i H ∧ ∃ Nx : Hp → Prop, (∀ H', Nx H' → ∃ m', m' < m ∧ W (i + 1) m' H') ∧ ∀ x H', (Itl K a).yld i H x H' → gName k x (wipe σ [k]) H' fun σ2 H2 => wipe σ2 [k] = wipe σ [k] ∧ tt σ2 H2 fun b H3 =>
        if b = true then te σ2 H3 fun y H4 => ∃ acc, H4 D = some (.lst acc) ∧ acc.length < sizeLine ∧ Nx (upd H4 D (.lst (acc ++ [y]))) else Nx H3) :=
  lc_list (K := K) (a := a) (xs := xs) (Made H D sel P) (Turns.start hD) (fun i H' _ M => M.1.seq hx) (fun i x H' hi M => by
    obtain ⟨hl, e⟩ := List.getElem?_eq_some_iff.mp hi
    have q := T.go hD hz hl M
    rw [List.getD_eq_getElem?_getD, hi] at q
    exact q) fun H' ⟨a, ys, b, c, d⟩ => hd H' ys a b c d
theorem paired_map_eq {α β : Type} {g : β → α} : ∀ {ys : List α} {l : List β}, Paired (fun y j => y = g j) ys l → ys = l.map g
  | _, _, .nil => rfl
  | _, _, .cons r t => by rw [List.map_cons, ← r, ← paired_map_eq t]
theorem filter_yes (n : Nat) : (List.range n).filter (fun _ => true) = List.range n := List.filter_eq_self.mpr fun _ _ => rfl
theorem map_range_get {α : Type} (xs : List α) (d : α) : (List.range xs.length).map (fun i => xs.getD i d) = xs := by
  apply List.ext_getElem
  · rw [List.length_map, List.length_range]
  · intro i h1 h2
    rw [List.getElem_map, List.getElem_range, List.getD_eq_getElem?_getD, List.getElem?_eq_getElem h2]
    rfl
/-! ### sorted by a def, whatever the ranks -/
variable {f : Addr} {fd : FuncData} {ps : List Str} {sp : Sp} {j : Nat}
def rSortedI (K : PySem.W.Frag) (f : Addr) (sp : Sp) : List V → List V → Hp → VK → Prop := fun vs zs H Q => ∃ g : V → Int, rSortedF K f sp g (kInt g) (fun i j => decide (i < j)) vs zs H Q
def rSortedLot (K : PySem.W.Frag) (f : Addr) (sp : Sp) : List V → List V → Hp → VK → Prop := fun vs zs H Q => ∃ g : V → List Int, rSortedF K f sp g (kLot K g) ltLot vs zs H Q
theorem cr_sortedBy (F : FnOk X.prog X.w X.K X.mg X.base CX0 j f fd ps sp) (hb : Binds X.K fd ps []) (hr : Room (j + 8) X.A) : CallRK X (.builtin "sorted") [Str.ofString "key"] (rSortedI X.K f sp) :=
  fun pins s σ H xs zs us ws Q I r rz ⟨g, h⟩ => cr_sortedF F hb hr (key_int g) pins s σ H xs zs us ws Q I r rz h
theorem cr_sortedLot (F : FnOk X.prog X.w X.K X.mg X.base CX0 j f fd ps sp) (hb : Binds X.K fd ps []) (hr : Room (j + 8) X.A) : CallRK X (.builtin "sorted") [Str.ofString "key"] (rSortedLot X.K f sp) :=
  fun pins s σ H xs zs us ws Q I r rz ⟨g, h⟩ => cr_sortedF F hb hr (key_lot g) pins s σ H xs zs us ws Q I r rz h
/-! ### the state that the law's draws hang on -/
structure Dr (H : Hp) (d c : Addr) : Prop where
  ex : ∃ (ns : List Int) (i r z : Int), H d = some (.lst [.ref c, .int i, .int r, .int z]) ∧ H c = some (.lst (ns.map V.int)) ∧ 0 ≤ i ∧ ns.length ≤ 1000
/-- all but the object at d is as it was -/
def Kp (d : Addr) (H H' : Hp) : Prop := ∀ b o, H b = some o → b ≠ d → H' b = some o
theorem Kp.refl (d : Addr) (H : Hp) : Kp d H H := fun _ _ h _ => h
theorem Kp.trans {d : Addr} {H H1 H2 : Hp} (a : Kp d H H1) (b : Kp d H1 H2) : Kp d H H2 := fun c o h n => b c o (a c o h n) n
theorem Kp.of {d : Addr} {H H' : Hp} (e : Same H H') : Kp d H H' := fun b o h _ => e b o h
theorem Kp.new {d p : Addr} {H H' : Hp} {o : HO} (e : Kp d H H') (h : H p = none) : Kp d H (upd H' p o) := fun b u q n => by
  rw [upd_ne (ne_of_none q h)]
  exact e b u q n
theorem Dr.keep {H H' : Hp} {d c : Addr} (D : Dr H d c) (k : Same H H') : Dr H' d c := by
  obtain ⟨ns, i, r, z, h1, h2, h3, h4⟩ := D.ex
  exact ⟨ns, i, r, z, k _ _ h1, k _ _ h2, h3, h4⟩
theorem Dr.ne {H : Hp} {d c p : Addr} (D : Dr H d c) (h : H p = none) : p ≠ d ∧ p ≠ c := by
  obtain ⟨ns, i, r, z, h1, h2, h3, h4⟩ := D.ex
  exact ⟨(ne_of_none h1 h).symm, (ne_of_none h2 h).symm⟩
/-- another object changes -/
theorem Dr.put {H : Hp} {d c p : Addr} {o : HO} (D : Dr H d c) (h1 : p ≠ d) (h2 : p ≠ c) : Dr (upd H p o) d c := by
  obtain ⟨ns, i, r, z, e1, e2, e3, e4⟩ := D.ex
  exact ⟨ns, i, r, z, by rw [upd_ne h1.symm]; exact e1, by rw [upd_ne h2.symm]; exact e2, e3, e4⟩
theorem Dr.cd {H : Hp} {d c : Addr} (D : Dr H d c) : c ≠ d := by
  obtain ⟨ns, i, r, z, hd, hc, _, _⟩ := D.ex
  rintro rfl
  rw [hd] at hc
  injection hc with e
  injection e with e
  cases ns with
  | nil => cases e
  | cons x l => injection e with e _; cases e
end
end L2.KK
namespace L2.KK
open PySem PySem.Spec PyProof.Rows C8
section
variable {P : Program} {w : World} {K : PySem.W.Frag} {mg : Str → Option Value} {base : Heap}
abbrev FnP (K : PySem.W.Frag) (x qual : Str) (st : Stmt) (f : Addr) (fd : FuncData) : Prop := FunD K x qual (defArgs st) (defBody st) (defScope st) [] [] f fd
/-- the def st stands in the module under its name -/
structure FnAt (K : PySem.W.Frag) (mg : Str → Option Value) (x : Str) (st : Stmt) : Prop where
  ex : ∃ f fd, FnP K x x st f fd ∧ mg x = some (.ref f)
theorem calOf {x : Str} {st : Stmt} {N ps : List Str} {sp : Sp} {k : Nat} (D : FnAt K mg x st) (S : FnScope N ps (defScope st))
    (bn : ∀ (kV doc pm : Value) (an : Option Addr) (cdv ct : Value) (us : List Value), us.length = ps.length → bindArgs (PySem.W.fnOf x x (defArgs st) (defBody st) (defScope st) .none kV doc pm an cdv ct) ⟨us, []⟩ = pure (ps.zip us))
    (len : ∀ vs H Q E, sp vs H Q E → vs.length = ps.length)
    (body : ∀ (f : Addr) (cdv : Value) (A : Around) (outer : List Env) (s : Shared) (H : Hp) (vs : List V) (Q : VK) (E : XK), Room k (A.deeper (envOfC x (defScope st) s.heap.objs.size f cdv)) → sp vs H Q E →
      ∃ t, PSs (cxOf CX0 P w K mg base N x (defScope st) f cdv A outer s H E).nox (defBody st) t ∧ t { nx := fun _ H' => Q .non H', rt := Q } (start N vs) H) : Cal P w K mg base (k + 1) x sp [] := by
  obtain ⟨f, fd, F, m⟩ := D.ex
  refine ⟨f, fd, ps, [], ?_, m, F.kp, F.bindsN bn, .nil⟩
  refine F.ok S len fun cdv A outer s H vs Q E hr hsp => ?_
  obtain ⟨t, h, q⟩ := body f cdv A outer s H vs Q E hr hsp
  exact ⟨t, h.nox, q⟩
/-- the parts of a def that is handed on as a key -/
theorem cal_parts {k : Nat} {x : Str} {sp : Sp} (c : Cal P w K mg base k x sp []) : ∃ (f : Addr) (fd : FuncData) (ps : List Str), FnOk P w K mg base CX0 k f fd ps sp ∧ mg x = some (.ref f) ∧ Binds K fd ps [] := by
  obtain ⟨f, fd, ps, ds, F, m, _, b, d⟩ := c.ex
  cases d
  exact ⟨f, fd, ps, F, m, b⟩
end
end L2.KK
/-! rules whose reading names the written part by a letter: they stand within comprehensions too -/
namespace L2.KK
open PySem PySem.Spec PyProof.Rows C8
section
variable (K : PySem.W.Frag) {X : Cx}
def rLenQ (K : PySem.W.Frag) : List V → Hp → VK → Prop := fun xs H Q => ∃ p ys, xs = [.ref p] ∧ (SqL K H p ys ∨ SqT K H p ys) ∧ Q (.int ys.length) H
def rListQ (K : PySem.W.Frag) : List V → Hp → VK → Prop := fun xs H Q => ∃ p ys, xs = [.ref p] ∧ (SqL K H p ys ∨ SqT K H p ys) ∧ ∀ l, H l = none → Q (.ref l) (upd H l (.lst ys))
def rTupQ (K : PySem.W.Frag) : List V → Hp → VK → Prop := fun xs H Q => ∃ p ys, xs = [.ref p] ∧ ((SqL K H p ys ∧ ∀ l, H l = none → Q (.ref l) (upd H l (.tup ys))) ∨ (SqT K H p ys ∧ Q (.ref p) H))
def tTruQ (K : PySem.W.Frag) (ta : TE) : TT := fun σ H Q => ta σ H fun x H' => ∃ k, TruV K x H' k ∧ Q k H'
theorem ixL (h : X.K = K := by rfl) : IxR X (rIxL K) := by subst h; exact ix_list
theorem ixT (h : X.K = K := by rfl) : IxR X (rIxT K) := by subst h; exact ix_tup
theorem eqD (hu : X.A.units + 64 < cLine) (h : X.K = K := by rfl) : OpR X (compareOp .Eq) (rEqD K) := by subst h; exact op_eqD hu
theorem neD (hu : X.A.units + 64 < cLine) (h : X.K = K := by rfl) : OpR X (compareOp .NotEq) (rNeD K) := by subst h; exact op_neD hu
theorem inSeq (h : X.K = K := by rfl) : OpR X (compareOp .In) (rIn K false) := by subst h; exact op_in_seq
theorem notInSeq (h : X.K = K := by rfl) : OpR X (compareOp .NotIn) (rIn K true) := by subst h; exact op_notIn_seq
theorem catA (h : X.K = K := by rfl) : OpR X (binaryOp .Add) (rCatA K) := by subst h; exact op_catA
theorem slL (h : X.K = K := by rfl) : SlR X (rSlL K) := by subst h; exact sl_list
theorem slT (h : X.K = K := by rfl) : SlR X (rSlA K) := by subst h; exact sl_tupA
theorem crLen (h : X.K = K := by rfl) : CallR X (.builtin "len") (rLenQ K) := by subst h; exact call_len_seq
theorem crList (h : X.K = K := by rfl) : CallR X (.type "list") (rListQ K) := by subst h; exact call_list_of
theorem crTup (h : X.K = K := by rfl) : CallR X (.type "tuple") (rTupQ K) := by subst h; exact call_tuple_of
theorem crSum (h : X.K = K := by rfl) (hc : X.calm = true := by rfl) : CallR X (.builtin "sum") (rSum K) := by subst h; exact cr_sum hc
theorem crMax (h : X.K = K := by rfl) (hc : X.calm = true := by rfl) : CallR X (.builtin "max") (rMax K) := by subst h; exact cr_max hc
theorem crMin (h : X.K = K := by rfl) (hc : X.calm = true := by rfl) : CallR X (.builtin "min") (rMin K) := by subst h; exact cr_min hc
theorem crAny (h : X.K = K := by rfl) (hc : X.calm = true := by rfl) : CallR X (.builtin "any") (rAny K) := by subst h; exact cr_any hc
theorem crAll (h : X.K = K := by rfl) (hc : X.calm = true := by rfl) : CallR X (.builtin "all") (rAll K) := by subst h; exact cr_all hc
theorem crSortI (h : X.K = K := by rfl) : CallR X (.builtin "sorted") (L2.rSortedI K) := by subst h; exact cr_sortedI
theorem crSortP (h : X.K = K := by rfl) : CallR X (.builtin "sorted") (rSortedPO K) := by subst h; exact cr_sortedPO
theorem crIsi (h : X.K = K := by rfl) : CallR X (.builtin "isinstance") (rIsi K) := by subst h; exact call_isi
theorem crSetL (h : X.K = K := by rfl) (hc : X.calm = true := by rfl) : CallR X (.type "set") (rSetL K X.w) := by subst h; exact cr_setL hc
variable {f : Addr} {fd : FuncData} {ps : List Str} {sp : Sp} {j : Nat}
theorem crSortBy (F : FnOk X.prog X.w X.K X.mg X.base CX0 j f fd ps sp) (hb : Binds X.K fd ps []) (hr : Room (j + 8) X.A) (h : X.K = K := by rfl) : CallRK X (.builtin "sorted") [Str.ofString "key"] (rSortedI K f sp) := by subst h; exact cr_sortedBy F hb hr
theorem crSortLot (F : FnOk X.prog X.w X.K X.mg X.base CX0 j f fd ps sp) (hb : Binds X.K fd ps []) (hr : Room (j + 8) X.A) (h : X.K = K := by rfl) : CallRK X (.builtin "sorted") [Str.ofString "key"] (rSortedLot K f sp) := by subst h; exact cr_sortedLot F hb hr
variable {e o : Expr} {es : List Expr} {ta to : TE} {t : TA} {pos apos cpos p : Pos} {name : Str} {T id : String} {r : V → List V → Hp → VK → Prop}
theorem ptTru (ha : PE X e ta) (he : ∀ whole, isTrue e X.env whole = (do let v ← whole; standAt e.pos; holding [v] (truthy v)) := by intro _; rfl) (h : X.K = K := by rfl) : PT X e (tTruQ K ta) := by subst h; exact pt_truth ha he
theorem peFld (ha : PE X e ta) {f : Str} (hb : attributeBase e f X.env (eval e X.env) = eval e X.env := by rfl) (h : X.K = K := by rfl) : PE X (.Attribute e f pos) (tFld K ta f) := by subst h; exact pe_fld ha hb
theorem peBm (pa : PlainAttrs T) (slot : Slot T name id) (hty : typeOf (.builtin id) = pure (.type "method_descriptor")) (hm : MtR X id r) (ho : PE X o to) (ha : PA X (e :: es) t)
    (hx : PA X (e :: es) t → PE X o to → PE X (.Call (.Attribute o name apos) (e :: es) [] cpos) (tBM X.K T r to t)) (h : X.K = K := by rfl) : PE X (.Call (.Attribute o name apos) (e :: es) [] cpos) (tBM K T r to t) := by
  subst h
  exact hx ha ho
theorem piList (ha : PE X e ta) {tg : Expr} (h : X.K = K := by rfl) : PI X tg e (iList K ta) := by subst h; exact pi_list ha
theorem piTup (ha : PE X e ta) {tg : Expr} (h : X.K = K := by rfl) : PI X tg e (iTup K ta) := by subst h; exact pi_tup ha
theorem pgTup {es : List Expr} {k : Nat} {t : TGs} {n : Nat} (hc : X.calm = true) (hp : PGs X es t) (hn : (assignEach es X.env).length = n := by rfl) (hst : (assignEach es X.env).findIdx? (·.1) = none := by rfl) (h : X.K = K := by rfl) : PG X (.Tuple es k pos) (gTup K n t) := by
  subst h
  exact pg_tup hc hp hn hst
theorem getL (h : X.K = K := by rfl) : PGet X (rGetL K) := by subst h; exact get_list
end
end L2.KK
namespace L2.KK
open PySem PySem.Spec PyProof.Rows C8
section
variable {P : Program} {w : World} {K : PySem.W.Frag} {mg : Str → Option Value} {base : Heap}
/-- calOf for the def that the statement calls: its function object is known -/
theorem okOf {x : Str} {st : Stmt} {N ps : List Str} {sp : Sp} {k : Nat} {f : Addr} {fd : FuncData} (F : FnP K x x st f fd) (S : FnScope N ps (defScope st))
    (len : ∀ vs H Q E, sp vs H Q E → vs.length = ps.length)
    (body : ∀ (f : Addr) (cdv : Value) (A : Around) (outer : List Env) (s : Shared) (H : Hp) (vs : List V) (Q : VK) (E : XK), Room k (A.deeper (envOfC x (defScope st) s.heap.objs.size f cdv)) → sp vs H Q E →
      ∃ t, PSs (cxOf CX0 P w K mg base N x (defScope st) f cdv A outer s H E).nox (defBody st) t ∧ t { nx := fun _ H' => Q .non H', rt := Q } (start N vs) H) : FnOk P w K mg base CX0 (k + 1) f fd ps sp := by
  refine F.ok S len fun cdv A outer s H vs Q E hr hsp => ?_
  obtain ⟨t, h, q⟩ := body f cdv A outer s H vs Q E hr hsp
  exact ⟨t, h.nox, q⟩
end
end L2.KK
/-! own exceptions with an own __init__ that calls its base's; own == of instances; facts of one's own in the head -/
namespace L2.KK
open PySem PySem.Spec PyProof.Rows C8
section
variable {P : Program} {w : World} {K : PySem.W.Frag} {mg : Str → Option Value} {base : Heap}
/-! ### defs that may let an exception out -/
structure CalX (P : Program) (w : World) (K : PySem.W.Frag) (mg : Str → Option Value) (base : Heap) (k : Nat) (x : Str) (sp : Sp) : Prop where
  ex : ∃ (f : Addr) (fd : FuncData) (ps : List Str), FnOk P w K mg base (L2.CX P w) k f fd ps sp ∧ mg x = some (.ref f) ∧ PySem.W.keepIn K (.ref f) = true ∧ Binds K fd ps []
theorem fnok_calm {k : Nat} {f : Addr} {fd : FuncData} {ps : List Str} {sp : Sp} (F : FnOk P w K mg base (L2.CX P w) k f fd ps sp) : FnOk P w K mg base CX0 k f fd ps (fun vs H Q _ => sp vs H Q E0) :=
  ⟨fun vs H Q E h => F.len vs H Q E0 h, fun A outer s H args us vs Q E hr he hb hv hs => codeAny_mono (F.run A outer s H args us vs Q E0 hr he hb hv hs) fun r s' h => by
    cases r with
    | ok fl => cases fl <;> exact h
    | error e =>
      obtain ⟨_, _, _, _, _, _, _, _, _, _, _, _, z⟩ := h
      exact z.elim⟩
theorem CalX.calm {k : Nat} {x : Str} {sp : Sp} (c : CalX P w K mg base k x sp) : Cal P w K mg base k x (fun vs H Q _ => sp vs H Q E0) [] := by
  obtain ⟨f, fd, ps, F, m, kp, b⟩ := c.ex
  exact ⟨f, fd, ps, [], fnok_calm F, m, kp, b, .nil⟩
theorem Cal.weak {k : Nat} {x : Str} {sp sp' : Sp} (c : Cal P w K mg base k x sp []) (h : ∀ vs H Q E, sp' vs H Q E → sp vs H Q E) : Cal P w K mg base k x sp' [] := by
  obtain ⟨f, fd, ps, ds, F, m, kp, b, d⟩ := c.ex
  exact ⟨f, fd, ps, ds, F.imp h, m, kp, b, d⟩
theorem calOfX {x : Str} {st : Stmt} {N ps : List Str} {sp : Sp} {k : Nat} (D : FnAt K mg x st) (S : FnScope N ps (defScope st))
    (bn : ∀ (kV doc pm : Value) (an : Option Addr) (cdv ct : Value) (us : List Value), us.length = ps.length → bindArgs (PySem.W.fnOf x x (defArgs st) (defBody st) (defScope st) .none kV doc pm an cdv ct) ⟨us, []⟩ = pure (ps.zip us))
    (len : ∀ vs H Q E, sp vs H Q E → vs.length = ps.length)
    (body : ∀ (f : Addr) (cdv : Value) (A : Around) (outer : List Env) (s : Shared) (H : Hp) (vs : List V) (Q : VK) (E : XK), Room k (A.deeper (envOfC x (defScope st) s.heap.objs.size f cdv)) → sp vs H Q E →
      ∃ t, PSs (cxOf (L2.CX P w) P w K mg base N x (defScope st) f cdv A outer s H E) (defBody st) t ∧ t { nx := fun _ H' => Q .non H', rt := Q } (start N vs) H) : CalX P w K mg base (k + 1) x sp := by
  obtain ⟨f, fd, F, m⟩ := D.ex
  refine ⟨f, fd, ps, ?_, m, F.kp, F.bindsN bn⟩
  exact F.ok S len fun cdv A outer s H vs Q E hr hsp => body f cdv A outer s H vs Q E hr hsp
/-! ### methods -/
/-- the method m of the class named c stands under its qualified name -/
structure MtAt (K : PySem.W.Frag) (C : Addr) (m q : Str) (st : Stmt) : Prop where
  ex : ∃ f fd, FnP K m q st f fd ∧ Meth K C m f
structure InAt (K : PySem.W.Frag) (C : Addr) (q : Str) (st : Stmt) : Prop where
  ex : ∃ f fd, FnP K "__init__" q st f fd ∧ Mk K C f
theorem metOf {m q : Str} {C : Addr} {st : Stmt} {N ps : List Str} {sp : Sp} {k : Nat} (c : Cls K C) (D : MtAt K C m q st) (S : FnScope N ps (defScope st))
    (bn : ∀ (kV doc pm : Value) (an : Option Addr) (cdv ct : Value) (us : List Value), us.length = ps.length → bindArgs (PySem.W.fnOf m q (defArgs st) (defBody st) (defScope st) .none kV doc pm an cdv ct) ⟨us, []⟩ = pure (ps.zip us))
    (len : ∀ vs H Q E, sp vs H Q E → vs.length = ps.length)
    (body : ∀ (f : Addr) (cdv : Value) (A : Around) (outer : List Env) (s : Shared) (H : Hp) (vs : List V) (Q : VK) (E : XK), Room k (A.deeper (envOfC q (defScope st) s.heap.objs.size f cdv)) → sp vs H Q E →
      ∃ t, PSs (cxOf CX0 P w K mg base N q (defScope st) f cdv A outer s H E).nox (defBody st) t ∧ t { nx := fun _ H' => Q .non H', rt := Q } (start N vs) H) : Met P w K mg base (k + 1) C m sp [] := by
  obtain ⟨f, fd, F, me⟩ := D.ex
  refine ⟨f, fd, ps, [], c, me, ?_, F.bindsN bn, .nil⟩
  refine F.ok S len fun cdv A outer s H vs Q E hr hsp => ?_
  obtain ⟨t, h, q⟩ := body f cdv A outer s H vs Q E hr hsp
  exact ⟨t, h.nox, q⟩
theorem makOf {x q : Str} {C : Addr} {st : Stmt} {N ps : List Str} {sp : Sp} {k : Nat} (hm : mg x = some (.ref C)) (D : InAt K C q st) (S : FnScope N ps (defScope st))
    (bn : ∀ (kV doc pm : Value) (an : Option Addr) (cdv ct : Value) (us : List Value), us.length = ps.length → bindArgs (PySem.W.fnOf "__init__" q (defArgs st) (defBody st) (defScope st) .none kV doc pm an cdv ct) ⟨us, []⟩ = pure (ps.zip us))
    (len : ∀ vs H Q E, sp vs H Q E → vs.length = ps.length)
    (body : ∀ (f : Addr) (cdv : Value) (A : Around) (outer : List Env) (s : Shared) (H : Hp) (vs : List V) (Q : VK) (E : XK), Room k (A.deeper (envOfC q (defScope st) s.heap.objs.size f cdv)) → sp vs H Q E →
      ∃ t, PSs (cxOf CX0 P w K mg base N q (defScope st) f cdv A outer s H E).nox (defBody st) t ∧ t { nx := fun _ H' => Q .non H', rt := Q } (start N vs) H) : Mak P w K mg base (k + 1) x C sp [] := by
  obtain ⟨f, fd, F, me⟩ := D.ex
  refine ⟨f, fd, ps, [], me, ?_, hm, F.bindsN bn, .nil⟩
  refine F.ok S len fun cdv A outer s H vs Q E hr hsp => ?_
  obtain ⟨t, h, q⟩ := body f cdv A outer s H vs Q E hr hsp
  exact ⟨t, h.nox, q⟩
/-! ### own exceptions -/
/-- what the written part says of an own exception class with an own __init__ (its def at fI) -/
structure OwnX (K : PySem.W.Frag) (C fI : Addr) : Prop where
  oex : OexC K C
  init : PySem.W.findIn K (.ref C) "__init__" = some (some (.ref fI))
  ty : PySem.W.typeIn K (.ref fI) = some (.type "function")
  xf : XfC K C
/-- a base whose __init__ is ValueError's -/
structure BaseX (K : PySem.W.Frag) (C : Addr) : Prop where
  rd : ClX.CRead K C (.type "type")
  at_ : PySem.W.findCls K (.ref C) (.type "type") "__init__" = some (.val (.builtin "ValueError.__init__"))
end
section
variable {X : Cx} {e : Expr} {es : List Expr} {ta : TA} {p1 p2 pos : Pos} {B x : Str} {C0 C fI : Addr}
/-- Base.__init__(self, ..), Base an own class over ValueError -/
theorem pe_pinit {pl : Sem Bool} (T : BaseX X.K C0) (hm : X.mg B = some (.ref C0)) (hg : Gl X B) (ha : PA X (e :: es) ta)
    (hc : eval (.Call (.Attribute (.Name B p1) "__init__" p2) (e :: es) [] pos) X.env = (do
      let ov ← eval (.Name B p1) X.env
      standAt p2.atName
      let (f, first) ← holding [ov] (getMethod ov "__init__" pl)
      callWith pos f first (backTo pos (starEach (e :: es) X.env)) (backToKw pos (keywordEach [] X.env))) := by rfl) (hdb : (B == ("__debug__" : Str)) = false := by decide)
    (he : starEach (e :: es) X.env = (false, eval e X.env) :: starEach es X.env := by rfl) (hpl : (backTo pos (starEach es X.env)).any (·.1) = false := by rfl) :
    PE X (.Call (.Attribute (.Name B p1) "__init__" p2) (e :: es) [] pos) (tVeI X.K ta) := by
  refine ⟨fun pins s σ H Q I h => ?_⟩
  refine PySem.W.methodCall_KW (ld_glob I hg hm ?_ hdb) hc
  refine PySem.W.method_cls I.kIn T.rd.ga (PySem.W.cls_value I.kIn T.rd.rd T.at_ (by decide +kernel) ?_)
  show wpAny _ _ (callWith pos (Value.builtin "ValueError.__init__") [] (backTo pos (starEach (e :: es) X.env)) []) _ _ _
  refine PyProof.Rows.callWith_method1 (thn (ha.run pos pins _ σ H _ (I.tok _) h) fun us s1 ⟨vs, H1, I1, r1, a, C, ws, ev, hl, T, ea, q⟩ => ?_) he hpl
  subst ev
  cases r1 with
  | @cons _ u0 _ ur ra rw' =>
    obtain rfl : u0 = Value.ref a := ra
    have hlen : ur.length ≤ sizeLine := by
      rw [← Paired.length rw', sizeLine_eq]
      omega
    exact oinit_ok T I1 ea hlen fun s' J => ⟨.non, H1, J, rfl, q⟩
/-- a call that may let an exception out -/
theorem pe_cx {k j : Nat} {sp : Sp} {W : WX} (c : CalX X.prog X.w X.K X.mg X.base k x sp) (hr : Room j X.A) (hk : k ≤ j) (hg : Gl X x) (tk : Takes X W) (ha : PA X (e :: es) ta)
    (hdb : (x == ("__debug__" : Str)) = false := by decide) (he : starEach (e :: es) X.env = (false, eval e X.env) :: starEach es X.env := by rfl) (hpl : (backTo pos (starEach es X.env)).any (·.1) = false := by rfl) :
    PE X (.Call (.Name x p1) (e :: es) [] pos) (tCallS sp (WE W) ta) := by
  obtain ⟨f, fd, ps, F, m, kp, b⟩ := c.ex
  exact pe_callS F (hr.mono hk) hg m kp b (fun σ => passAt tk σ) ha hdb he hpl
/-- an own exception made: its __init__ keeps sp -/
structure MakX (P : Program) (w : World) (K : PySem.W.Frag) (mg : Str → Option Value) (base : Heap) (k : Nat) (x : Str) (C : Addr) (sp : Sp) : Prop where
  ex : ∃ (f : Addr) (fd : FuncData) (ps : List Str), OwnX K C f ∧ FnOk P w K mg base CX0 k f fd ps sp ∧ mg x = some (.ref C) ∧ Binds K fd ps []
theorem pmk_x {k j : Nat} {sp : Sp} (M : MakX X.prog X.w X.K X.mg X.base k x C sp) (hr : Room j X.A) (hk : k + 1 ≤ j) (hg : Gl X x) (ha : PA X (e :: es) ta)
    (hdb : (x == ("__debug__" : Str)) = false := by decide) (he : starEach (e :: es) X.env = (false, eval e X.env) :: starEach es X.env := by rfl) (hpl : (backTo pos (starEach es X.env)).any (·.1) = false := by rfl) :
    PMk X (.Call (.Name x p1) (e :: es) [] pos) (tMkO C sp [] ta) := by
  obtain ⟨f, fd, ps, T, F, m, b⟩ := M.ex
  exact pmk_oex T.oex T.init T.ty F (hr.mono hk) b .nil pass0 hg m ha hdb he hpl
/-- raise Own(..), out of the def -/
theorem ps_rx {k j : Nat} {sp : Sp} {W : WX} (M : MakX X.prog X.w X.K X.mg X.base k x C sp) (hr : Room j X.A) (hk : k + 1 ≤ j) (hg : Gl X x) (hc : X.calm = true) (tk : Takes X W) (ha : PA X (e :: es) ta)
    (hdb : (x == ("__debug__" : Str)) = false := by decide) (he : starEach (e :: es) X.env = (false, eval e X.env) :: starEach es X.env := by rfl) (hpl : (backTo pos (starEach es X.env)).any (·.1) = false := by rfl) :
    PS X (.Raise (some (.Call (.Name x p1) (e :: es) [] pos)) none p2) (fun _ σ H => tMkO C sp [] ta σ H fun cls d H' => W cls d σ H') :=
  ps_raise hc tk (pmk_x M hr hk hg ha hdb he hpl)
end
section
variable {P : Program} {w : World} {K : PySem.W.Frag} {mg : Str → Option Value} {base : Heap}
theorem makXOf {x q : Str} {C f : Addr} {st : Stmt} {N ps : List Str} {sp : Sp} {k : Nat} (hm : mg x = some (.ref C)) (O : OwnX K C f) (D : ∃ fd, FnP K "__init__" q st f fd) (S : FnScope N ps (defScope st))
    (bn : ∀ (kV doc pm : Value) (an : Option Addr) (cdv ct : Value) (us : List Value), us.length = ps.length → bindArgs (PySem.W.fnOf "__init__" q (defArgs st) (defBody st) (defScope st) .none kV doc pm an cdv ct) ⟨us, []⟩ = pure (ps.zip us))
    (len : ∀ vs H Q E, sp vs H Q E → vs.length = ps.length)
    (body : ∀ (f : Addr) (cdv : Value) (A : Around) (outer : List Env) (s : Shared) (H : Hp) (vs : List V) (Q : VK) (E : XK), Room k (A.deeper (envOfC q (defScope st) s.heap.objs.size f cdv)) → sp vs H Q E →
      ∃ t, PSs (cxOf CX0 P w K mg base N q (defScope st) f cdv A outer s H E).nox (defBody st) t ∧ t { nx := fun _ H' => Q .non H', rt := Q } (start N vs) H) : MakX P w K mg base (k + 1) x C sp := by
  obtain ⟨fd, F⟩ := D
  refine ⟨f, fd, ps, O, ?_, hm, F.bindsN bn⟩
  refine F.ok S len fun cdv A outer s H vs Q E hr hsp => ?_
  obtain ⟨t, h, q⟩ := body f cdv A outer s H vs Q E hr hsp
  exact ⟨t, h.nox, q⟩
/-- __init__(self, x): the base's, then one field -/
def spX1 (K : PySem.W.Frag) (C : Addr) (fld : Str) : Sp := fun vs H Q _ => ∃ (a : Addr) (v : V), vs = [.ref a, v] ∧ H a = some (exo a C none) ∧ ∀ dx, H dx = none → dx ≠ a → Q .non (upd (upd H dx (exd dx [(fld, v)])) a (exo a C (some dx)))
/-- what such an exception leaves -/
theorem mkO_1 {C : Addr} {fld : Str} {H : Hp} {v : V} {Q : XK} (k : ∀ (d : Addr) (H' : Hp), Same H H' → H d = none → H' d = some (.xd [(fld, v)]) → Q (.ref C) (some d) H') : ∀ a, H a = none → spX1 K C fld (.ref a :: ([v] ++ [])) (upd H a (exo a C none))
    (fun u H2 => u = .non ∧ ∃ (d : Addr) (fs : List (Str × V)), H2 a = some (exo a C (some d)) ∧ H2 d = some (exd d fs) ∧ H d = none ∧ Q (.ref C) (some d) (upd (del H2 a) d (.xd fs))) (fun _ _ _ => False) := fun a ha => by
  refine ⟨a, v, rfl, upd_same, fun dx hd ne => ⟨rfl, dx, [(fld, v)], upd_same, by rw [upd_ne ne, upd_same], ?_, ?_⟩⟩
  · rw [upd_ne ne] at hd
    exact hd
  · rw [upd_ne ne] at hd
    refine k dx _ (fun b o e => ?_) hd upd_same
    have n1 : b ≠ dx := ne_of_none e hd
    have n2 : b ≠ a := ne_of_none e ha
    rw [upd_ne n1, del_ne n2, upd_ne n2, upd_ne n1, upd_ne n2]
    exact e
end
section
variable {X : Cx} {e : Expr} {es : List Expr} {ta : TA} {p1 p2 pos : Pos} {B x : Str} {C0 C fI : Addr}
/-! ### own == -/
theorem rel_bl {v : V} {u : Value} {k : Bool} (e : v = .bl k) (r : RelV v u) : u = .bool k := by
  subst e
  exact r
theorem op_eqOwn {n : Nat} {f : Addr} {fd : FuncData} {ps : List Str} {sp : Sp} (F : FnOk X.prog X.w X.K X.mg X.base CX0 n f fd ps sp) (me : Meth X.K C "__eq__" f) (hb : Binds X.K fd ps []) (hr : Room n X.A) (hu : X.A.units < cLine) :
    OpR X (compareOp .Eq) (fun x y H Q => ∃ a b dx dy fs gs, x = .ref a ∧ y = .ref b ∧ H a = some (.ins C dx fs) ∧ H b = some (.ins C dy gs) ∧ sp [.ref a, .ref b] H (fun v H' => ∃ k, v = .bl k ∧ Q v H') E0) := by
  intro pins s σ H x y v u Q I rx ry h
  obtain ⟨a, b, dx, dy, fs, gs, rfl, rfl, ha, hb', hsp⟩ := h
  cases rx
  cases ry
  obtain ⟨mA, J, _⟩ := ins_get I.hok ha
  obtain ⟨mB, J', _⟩ := ins_get I.hok hb'
  obtain ⟨od, J, _⟩ := J.look
  obtain ⟨od', J', _⟩ := J'.look
  obtain ⟨m, hF⟩ := I.fr
  show wpAny (model X.prog X.w) X.A (richCompare .Eq (.ref a) (.ref b)) (EP X pins σ Q) X.xe s
  refine PySem.W.cmp_K (op := .Eq) (tb := .ref C) hu hF I.ok.mod.kin J J'.type (by simp [PySem.W.notFirst]) me.at_ me.fn ?_
  have hl := F.len _ _ _ _ hsp
  have r2 : Vals [V.ref a, V.ref b] [Value.ref a, Value.ref b] := .cons rfl (.cons rfl .nil)
  have z := run_fn (Q := fun v H' => ∃ k, v = V.bl k ∧ Q v H') F hr hb (dvs := []) Paired.nil (E := E0) pass0 I r2 (by simpa using hsp)
  refine wpAny_mono z (fun r s' q => ?_) fun _ _ x => x
  obtain ⟨v, H', I', rv, k, ev, q⟩ := q
  subst ev
  have er : r = .bool k := rv
  subst er
  exact ⟨.bl k, H', I', rfl, q⟩
end
/-! ### facts of one's own -/
def eqOV (a b : Option (Option Value)) : Bool := decide (a = b)
def oexB (K : PySem.W.Frag) (C : Addr) : Bool := (match K.lookup C with
  | some ⟨.type t, _, .cls cd, ⟨[_, _, _, _, some (.builtin n), _]⟩⟩ => decide (t = "type") && (decide (n = "ValueError.__new__") && (cd.hasDict && (!cd.hasDel && (match cd.mro with
    | .ref C' :: bm => decide (C' = C) && PySem.HandSPX.refsVE bm
    | _ => false))))
  | _ => false) && (eqOV (PySem.W.findIn K (.ref C) "__setattr__") (some (some (.builtin "object.__setattr__"))) && (decide (PySem.W.subIn K (.ref C) (.type "BaseException") = some true) && (decide (PySem.W.typeIn K (.ref C) = some (.type "type")) && PySem.W.keepIn K (.ref C))))
theorem oexB_ok {K : PySem.W.Frag} {C : Addr} (h : oexB K C = true) : OexC K C := by
  obtain ⟨h1, h⟩ := He.ba h
  obtain ⟨h2, h⟩ := He.ba h
  obtain ⟨h3, h⟩ := He.ba h
  obtain ⟨h4, h5⟩ := He.ba h
  refine ⟨?_, of_decide_eq_true h2, of_decide_eq_true h3, of_decide_eq_true h4, h5⟩
  split at h1
  · rename_i t dd cd k0 k1 k2 k3 n k5 e
    obtain ⟨g1, h1⟩ := He.ba h1
    obtain ⟨g2, h1⟩ := He.ba h1
    obtain ⟨g3, h1⟩ := He.ba h1
    obtain ⟨g4, h1⟩ := He.ba h1
    obtain ⟨nm, bs, mro, ns, qn, hd, sn, sub, ab, col, del⟩ := cd
    dsimp only at g3 g4 h1
    cases mro with
    | nil => cases h1
    | cons c0 bm =>
      cases c0 with
      | ref C' =>
        obtain ⟨g5, g6⟩ := He.ba h1
        have a1 : t = "type" := of_decide_eq_true g1
        have a2 : n = "ValueError.__new__" := of_decide_eq_true g2
        have a3 : C' = C := of_decide_eq_true g5
        have a4 : del = false := by simpa using g4
        subst a1 a2 a3 a4 g3
        exact ⟨nm, qn, ns, bs, bm, sn, sub, ab, col, dd, k0, k1, k2, k3, k5, e, g6⟩
      | _ => cases h1
  · cases h1
def ownB (x : Str) (K : PySem.W.Frag) : Bool := oexB K (He.ga K x) && (eqOV (PySem.W.findIn K (.ref (He.ga K x)) "__init__") (some (some (.ref (He.ma K (He.ga K x) "__init__")))) && (decide (PySem.W.typeIn K (.ref (He.ma K (He.ga K x) "__init__")) = some (.type "function")) && xfB K (He.ga K x)))
theorem ownB_ok {K : PySem.W.Frag} {x : Str} (h : ownB x K = true) : OwnX K (He.ga K x) (He.ma K (He.ga K x) "__init__") := by
  obtain ⟨h1, h⟩ := He.ba h
  obtain ⟨h2, h⟩ := He.ba h
  obtain ⟨h3, h4⟩ := He.ba h
  exact ⟨oexB_ok h1, of_decide_eq_true h2, of_decide_eq_true h3, xfB_ok h4⟩
def basB (x : Str) (K : PySem.W.Frag) : Bool := PySem.W.readsIn K (He.ga K x) (.type "type") && (eqOV (PySem.W.specialIn K (.ref (He.ga K x)) "__getattribute__") (some (some (.builtin "type.__getattribute__"))) && (match PySem.W.findCls K (.ref (He.ga K x)) (.type "type") "__init__" with
  | some (.val (.builtin n)) => decide (n = "ValueError.__init__")
  | _ => false))
theorem basB_ok {K : PySem.W.Frag} {x : Str} (h : basB x K = true) : BaseX K (He.ga K x) := by
  obtain ⟨h1, h⟩ := He.ba h
  obtain ⟨h2, h3⟩ := He.ba h
  refine ⟨⟨h1, of_decide_eq_true h2⟩, ?_⟩
  split at h3
  · rename_i n e
    have a : n = "ValueError.__init__" := of_decide_eq_true h3
    rw [e, a]
  · cases h3
/-- isinstance(instance of x, y) -/
def isiB (x y : Str) (b : Bool) (K : PySem.W.Frag) : Bool := decide (PySem.W.kitOne K (.ref (He.ga K x)) (.ref (He.ga K y)) = some b)
def tyiB (t : String) (y : Str) (b : Bool) (K : PySem.W.Frag) : Bool := decide (PySem.W.kitOne K (.type t) (.ref (He.ga K y)) = some b)
def frK (n : Nat) (g : Addr → Option Obj) : PySem.W.Frag := He.frG g (cStatics :: He.asD g n)
abbrev AlK : Type := He.AlD × List Bool
def obsK (n : Nat) (fa : List He.Fa) (fn : List He.DefD) (my : List (PySem.W.Frag → Bool)) (g : Addr → Option Obj) : AlK := (He.obsD fa fn (frK n g), my.map fun f => f (frK n g))
def SaysK (fa : List He.Fa) (fn : List He.DefD) (my : List (PySem.W.Frag → Bool)) (K : PySem.W.Frag) : Prop := He.SaysD fa fn K ∧ my.map (fun f => f K) = my.map fun _ => true
theorem SaysK.own {fa : List He.Fa} {fn : List He.DefD} {my : List (PySem.W.Frag → Bool)} {K : PySem.W.Frag} (c : SaysK fa fn my K) (i : Nat) {f : PySem.W.Frag → Bool} (h : my[i]? = some f := by rfl) : f K = true := by
  have q : (my.map fun f => f K)[i]? = (my.map fun _ => true)[i]? := by rw [c.2]
  rw [List.getElem?_map, List.getElem?_map, h] at q
  exact Option.some.inj q
def hookK (n : Nat) (fa : List He.Fa) (fn : List He.DefD) (my : List (PySem.W.Frag → Bool)) : PySem.W.Hook where
  α := AlK
  obs := fun s => obsK n fa fn my s.heap.get?
  val := fun _ => (He.valD fn, my.map fun _ => true)
  says := fun _ h => ∃ K : PySem.W.Frag, K.In h ∧ SaysK fa fn my K
  of := fun _ s e => ⟨frK n s.heap.get?, He.frG_in, congrArg Prod.fst e, congrArg Prod.snd e⟩
  keeps := fun _ _ _ ⟨K, hK, c⟩ k => ⟨K, PySem.W.Frag.In.keeps hK k, c⟩
theorem obsK_eq {n : Nat} {fa : List He.Fa} {fn : List He.DefD} {my : List (PySem.W.Frag → Bool)} {g : Addr → Option Obj} {s : Shared} (h : ∀ a, g a = s.heap.get? a) : obsK n fa fn my g = (hookK n fa fn my).obs s := by
  have e : g = s.heap.get? := funext h
  rw [e]
  rfl
end L2.KK
/-! tuple.index of flat values -/
namespace L2.KK
open PySem PySem.Spec PyProof.Rows C8
def rTupIdx (K : PySem.W.Frag) : V → List V → Hp → VK → Prop := fun x xs H Q => ∃ (p : Addr) (ys : List V) (y : V) (j : Nat) (z : V), x = V.ref p ∧ xs = [y] ∧ SqT K H p ys ∧ flatV y = true ∧ ys.all flatV = true ∧ ys[j]? = some z ∧ eqV z y = true ∧
  (∀ (m : Nat) (z' : V), m < j → ys[m]? = some z' → eqV z' y = false) ∧ Q (.int (j : Nat)) H
theorem mtTupIdx {X : Cx} (K : PySem.W.Frag) (hK : X.K = K := by rfl) : MtR X "tuple.index" (rTupIdx K) := by
  subst hK
  intro pins s σ H x xs v us Q I rx rxs h
  obtain ⟨p, ys, y, j, z, rfl, rfl, hs, fy, fys, hz, hzj, hno, q⟩ := h
  cases rx
  cases rxs with
  | cons ry rt =>
    rename_i uy ut
    cases rt
    obtain ⟨its, rv, pl, hlen⟩ := I.tuple hs
    obtain ⟨⟨cls, dd, dt, sl⟩, ho, hc, n, hd⟩ := pl
    simp only at hc hd
    subst hc hd
    have all : ∀ (m : Nat) (hm : m < its.toArray.size), ∃ z', ys[m]? = some z' ∧ eqU y its.toArray[m] = eqV z' y := fun m hm => by
      have hml : m < its.length := by simpa using hm
      have hmy : m < ys.length := by rw [rv.length]; exact hml
      obtain ⟨u2, hu2, ru2⟩ := rv.get (List.getElem?_eq_getElem hmy)
      refine ⟨ys[m], List.getElem?_eq_getElem hmy, ?_⟩
      have e1 : its.toArray[m] = u2 := by simpa using (List.getElem?_eq_some_iff.mp hu2).2
      rw [e1]
      exact eqU_of ru2 (flat_at fys (List.getElem?_eq_getElem hmy))
    have hj : j < its.toArray.size := by
      have := (List.getElem?_eq_some_iff.mp hz).1
      rw [rv.length] at this
      simpa using this
    refine call_meets PySem.F.slot_tuple_index ⟨_, ho, rfl⟩ PySem.F.entry_tuple_index (PySem.F.args_tuple_index_2 _ _) (TI.tuple_indexAt p its.toArray n dd sl uy (eqU y) j hj ?_ ?_)
      ⟨ho, fun u' hu' => mem_eqAt ry fy rv fys u' (by simpa using hu'), ⟨.int (j : Nat), H, I.tok _, ⟨_, rfl⟩, q⟩⟩
    · obtain ⟨z', h1, h2⟩ := all j hj
      rw [hz] at h1
      cases h1
      rw [h2]
      exact hzj
    · intro m hm hmj
      obtain ⟨z', h1, h2⟩ := all m hm
      rw [h2]
      exact hno m z' hmj h1
/-- a tuple whose object is known to be a bare one -/
def BareT (H : Hp) (p : Addr) (xs : List V) : Prop := ∃ o : Obj, H p = some (.frz o (.tup xs)) ∧ o.cls = .type "tuple" ∧ o.dict = none
theorem BareT.seq {K : PySem.W.Frag} {H : Hp} {p : Addr} {xs : List V} (h : BareT H p xs) : SqT K H p xs := by
  obtain ⟨o, h, _⟩ := h
  exact .inl (.inr ⟨o, h⟩)
theorem BareT.grow {H H' : Hp} {p : Addr} {xs : List V} (h : BareT H p xs) (e : Same H H') : BareT H' p xs := by
  obtain ⟨o, h, c⟩ := h
  exact ⟨o, e _ _ h, c⟩
section
variable {X : Cx} {K : PySem.W.Frag}
/-- tuple(a list): a new bare tuple -/
theorem crTupF (K : PySem.W.Frag) (hK : X.K = K := by rfl) : CallR X (.type "tuple") (fun xs H Q => ∃ p ys, xs = [.ref p] ∧ SqL K H p ys ∧ ∀ l H', H l = none → Same H H' → BareT H' l ys → Q (.ref l) H') := by
  subst hK
  intro pins s σ H xs us Q I r h
  obtain ⟨p, ys, rfl, hq, q⟩ := h
  obtain ⟨u, rfl, rx⟩ := vals1 r
  cases rx
  obtain ⟨its, r', pl, hz⟩ := I.list hq
  have hlen := r'.length
  refine call_tuple_list pl.isList (fun h' kp => ?_) (by simp only [List.size_toArray] <;> omega)
  have I1 : Inv X pins σ H { s with heap := h' } := I.kept (t' := s.toks) kp
  have n0 : H h'.objs.size = none := I1.hok.fresh (Nat.le_refl _)
  have I2 : Inv X pins σ (upd H h'.objs.size (.frz { cls := .type "tuple", data := .seq its.toArray } (.tup ys))) { s with heap := h'.push { cls := .type "tuple", data := .seq its.toArray } } :=
    I1.laid (t' := s.toks) (fun b o e => Heap.get?_push_of_some _ e) (Nat.le_refl _) ⟨Heap.get?_push_size _ rfl, hz, its, r', IsTup.new _ _⟩
  exact ⟨.ref h'.objs.size, _, I2, rfl, q _ _ n0 (same_new n0) ⟨_, upd_same, rfl, rfl⟩⟩
variable {o e : Expr} {es : List Expr} {to : TE} {t : TA} {apos cpos : Pos}
def tTidx (K : PySem.W.Frag) (to : TE) (t : TA) : TE := fun σ H Q => to σ H fun x H1 => (∃ p xs, x = .ref p ∧ BareT H1 p xs) ∧ t σ H1 fun vs H2 => rTupIdx K x vs H2 Q
/-- t.index(x), t a bare tuple -/
theorem pe_tidx (hm : MtR X "tuple.index" (rTupIdx K)) (ho : PE X o to) (ha : PA X (e :: es) t) (hbase : attributeBase o "index" X.env (eval o X.env) = eval o X.env := by rfl)
    (hfew : ((backTo cpos (starEach (e :: es) X.env)).all (fun x => !x.1) && (backToKw cpos (keywordEach [] X.env)).all (fun x => x.1.isSome) && decide ((e :: es).length + ([] : List Keyword).length + (if ([] : List Keyword).isEmpty then 0 else 1) < 30)) = true := by rfl)
    (hline : (apos.endLine == cpos.line) = true := by rfl) (hs : starEach (e :: es) X.env = (false, eval e X.env) :: starEach es X.env := by rfl) (hplain : (backTo cpos (starEach es X.env)).any (·.1) = false := by rfl) :
    PE X (.Call (.Attribute o "index" apos) (e :: es) [] cpos) (tTidx K to t) := by
  refine ⟨fun pins s σ H Q I h => ?_⟩
  refine wpAny_Call_method_late hbase hfew hline rfl (thn (ho.run pins s σ H _ I h) fun v s1 ⟨x, H1, I1, r1, ⟨p, xs, ex, ob, hb, hc, hd⟩, q1⟩ => ?_)
  subst ex
  obtain rfl : v = Value.ref p := r1
  have g : s1.heap.get? p = some ob := (show ObjOk X.prog X.w H1 s1.heap p (.frz ob (.tup xs)) from I1.hok p _ hb).1
  refine ⟨"tuple", "tuple.index", PySem.F.plainAttrs_tuple, PySem.F.slot_tuple_index, PySem.F.type_tuple_index, ⟨ob, g, hc⟩, fun a z => ⟨ob, by cases z; exact g, hd⟩, ?_⟩
  have hA := ha.run cpos pins s1 σ H1 _ I1 q1
  rw [hs] at hA ⊢
  refine Calls.callWith_builtin (by show (false || (backTo cpos (starEach es X.env)).any (·.1)) = false; rw [hplain] <;> rfl) (Calls.evalArgs_plain ?_)
  exact thn hA fun us s2 ⟨vs, H2, I2, r2, q2⟩ => hm pins s2 σ H2 (V.ref p) vs (Value.ref p) us Q I2 rfl r2 q2
end
end L2.KK
/-! more of numbers and of comprehensions -/
namespace L2.KK
open PySem PySem.Spec PyProof.Rows C8
section
variable {X : Cx}
theorem op_mulNN : OpR X (binaryOp .Mult) (rNC (fun a b => a < 18446744073709551616 ∨ b < 18446744073709551616) fun a b => nV (a * b)) := by
  intro pins s σ H x y v u Q I rx ry ⟨a, b, e1, e2, c, q⟩
  refine op_mul pins s σ H x y v u Q I rx ry ⟨_, _, e1, e2, ?_, ?_⟩
  · rcases c with c | c
    · exact .inl ⟨by omega, by omega⟩
    · exact .inr ⟨by omega, by omega⟩
  · show Q (V.int ((a : Int) * (b : Int))) H
    rw [← Int.natCast_mul]
    exact q
variable {K : PySem.W.Frag} {H H1 : Hp} {D : Addr} {σ : St} {k : Nat} {tt : TT} {te : TE} {Qd : Hp → Prop} {item : Nat → V} {n : Nat} {sel : Nat → Bool} {P : Nat → V → Hp → Prop} {J : It} {G : Hp → Prop} {Y : Nat → Hp → V → Hp → Prop}
/-- a comprehension over any walk that hands on what stands, its turns changing nothing that stood -/
theorem lc_itT (w : Walk J n G Y) (hY : ∀ i H x H', i < n → Y i H x H' → H' = H ∧ x = item i) (hG : ∀ H', Same H H' → G H') (T : Turns H σ k item n tt te sel P) (hD : H D = none) (hz : n ≤ sizeLine)
    (hd : ∀ H' ys, Same H H' → H' D = some (.lst ys) → ys.length ≤ n → Paired (fun y j => P j y H') ys ((List.range n).filter sel) → Qd H') :
    ∃ W : Nat → Nat → Hp → Prop, (∃ m, W 0 m (upd H D (.lst []))) ∧ ∀ i m H, W i m H →
      (J.stop i H ∧ Qd H) ∨ (J.go i H ∧ ∃ Nx : Hp → Prop, (∀ H', Nx H' → ∃ m', m' < m ∧ W (i + 1) m' H') ∧ ∀ x H', J.yld i H x H' → gName k x (wipe σ [k]) H' fun σ2 H2 => wipe σ2 [k] = wipe σ [k] ∧ tt σ2 H2 fun b H3 =>
        if b = true then te σ2 H3 fun y H4 => ∃ acc, H4 D = some (.lst acc) ∧ acc.length < sizeLine ∧ Nx (upd H4 D (.lst (acc ++ [y]))) else Nx H3) :=
  lc_it w (Made H D sel P) (Turns.start hD) (fun _ _ _ M => hG _ M.1) (fun i x H0 H' hi M y => by
    obtain ⟨rfl, rfl⟩ := hY i H0 x H' hi y
    exact T.go hD hz hi M) fun H' ⟨a, ys, b, c, d⟩ => hd H' ys a b c d
theorem yAt_item {xs : List V} {i : Nat} {H H' : Hp} {x : V} (y : YAt xs i H x H') : H' = H ∧ x = xs.getD i .non := ⟨y.1, by rw [List.getD_eq_getElem?_getD, y.2]; rfl⟩
theorem lc_tupT {a : Addr} {xs : List V} (hx : SqT K H a xs) (T : Turns H σ k (fun i => xs.getD i .non) xs.length tt te sel P) (hD : H D = none) (hz : xs.length ≤ sizeLine)
    (hd : ∀ H' ys, Same H H' → H' D = some (.lst ys) → ys.length ≤ xs.length → Paired (fun y j => P j y H') ys ((List.range xs.length).filter sel) → Qd H') :
    ∃ W : Nat → Nat → Hp → Prop, (∃ m, W 0 m (upd H D (.lst []))) ∧ ∀ i m H, W i m H →
      ((Itt K a).stop i H ∧ Qd H) ∨ ((Itt K a).go i H ∧ ∃ Nx : Hp → Prop, (∀ H', Nx H' → ∃ m', m' < m ∧ W (i + 1) m' H') ∧ ∀ x H', (Itt K a).yld i H x H' → gName k x (wipe σ [k]) H' fun σ2 H2 => wipe σ2 [k] = wipe σ [k] ∧ tt σ2 H2 fun b H3 =>
        if b = true then te σ2 H3 fun y H4 => ∃ acc, H4 D = some (.lst acc) ∧ acc.length < sizeLine ∧ Nx (upd H4 D (.lst (acc ++ [y]))) else Nx H3) :=
  lc_itT walk_tup (fun _ _ _ _ _ y => yAt_item y) (fun _ s => same_seqT s hx) T hD hz hd
/-- reversed(a tuple) -/
theorem walk_revT {a : Addr} {xs : List V} : Walk (RT.ItvT K a xs.length) xs.length (fun H => SqT K H a xs) (fun i H x H' => H' = H ∧ xs[xs.length - 1 - i]? = some x) :=
  ⟨fun i _ hi q => ⟨hi, xs, xs[xs.length - 1 - i]'(by omega), q, by simp [show xs.length - 1 - i < xs.length by omega]⟩, fun _ _ => Nat.le_refl _, fun _ _ _ _ _ q y => ⟨y.1, y.2 xs q⟩⟩
theorem lc_revT {a : Addr} {xs : List V} (hx : SqT K H a xs) (T : Turns H σ k (fun i => xs.getD (xs.length - 1 - i) .non) xs.length tt te sel P) (hD : H D = none) (hz : xs.length ≤ sizeLine)
    (hd : ∀ H' ys, Same H H' → H' D = some (.lst ys) → ys.length ≤ xs.length → Paired (fun y j => P j y H') ys ((List.range xs.length).filter sel) → Qd H') :
    ∃ W : Nat → Nat → Hp → Prop, (∃ m, W 0 m (upd H D (.lst []))) ∧ ∀ i m H, W i m H →
      ((RT.ItvT K a xs.length).stop i H ∧ Qd H) ∨ ((RT.ItvT K a xs.length).go i H ∧ ∃ Nx : Hp → Prop, (∀ H', Nx H' → ∃ m', m' < m ∧ W (i + 1) m' H') ∧ ∀ x H', (RT.ItvT K a xs.length).yld i H x H' → gName k x (wipe σ [k]) H' fun σ2 H2 => wipe σ2 [k] = wipe σ [k] ∧ tt σ2 H2 fun b H3 =>
        if b = true then te σ2 H3 fun y H4 => ∃ acc, H4 D = some (.lst acc) ∧ acc.length < sizeLine ∧ Nx (upd H4 D (.lst (acc ++ [y]))) else Nx H3) :=
  lc_itT walk_revT (fun i H x H' hi y => ⟨y.1, by rw [List.getD_eq_getElem?_getD, y.2]; rfl⟩) (fun _ s => same_seqT s hx) T hD hz hd
end
/-! ### values -/
/-- a price: a number, or none -/
def pV : Option Nat → V
  | none => .non
  | some n => nV n
theorem pV_none (o : Option Nat) : (pV o = .non) = (o = none) := by
  cases o with
  | none => simp [pV]
  | some n => simp [pV, nV]
/-- a new tuple is told -/
def NewT (H : Hp) (Q : VK) (xs : List V) : Prop := ∀ p H', Same H H' → H p = none → H' p = some (.tup xs) → Q (.ref p) H'
end L2.KK
/-! instances: what they are, what stands when one changes -/
namespace L2.KK
open PySem PySem.Spec PyProof.Rows C8
structure InsX (K : PySem.W.Frag) (C : Addr) : Prop where
  c : Cls K C
  ha : PySem.W.findIn K (.ref C) "__class__" = some (some (.builtin "object.__class__"))
  hn : PySem.W.specialIn K (.builtin "object.__class__") "__get__" = some (some (.builtin "getset_descriptor.__get__"))
  ht : PySem.W.takesIn K (.builtin "object.__class__") = some true
  hm : PySem.W.mroIn K C (.type "object") = some true
def insB (x : Str) (K : PySem.W.Frag) : Bool := (He.Fa.cls x).ok K && (eqOV (PySem.W.findIn K (.ref (He.ga K x)) "__class__") (some (some (.builtin "object.__class__"))) && (eqOV (PySem.W.specialIn K (.builtin "object.__class__") "__get__") (some (some (.builtin "getset_descriptor.__get__"))) &&
  (decide (PySem.W.takesIn K (.builtin "object.__class__") = some true) && decide (PySem.W.mroIn K (He.ga K x) (.type "object") = some true))))
theorem insB_ok {K : PySem.W.Frag} {x : Str} (h : insB x K = true) : InsX K (He.ga K x) := by
  obtain ⟨h1, h⟩ := He.ba h
  obtain ⟨h2, h⟩ := He.ba h
  obtain ⟨h3, h⟩ := He.ba h
  obtain ⟨h4, h5⟩ := He.ba h
  exact ⟨He.cls_ok h1, of_decide_eq_true h2, of_decide_eq_true h3, of_decide_eq_true h4, of_decide_eq_true h5⟩
section
variable {K : PySem.W.Frag} {H H' : Hp} {a x C dx : Addr} {xs : List V} {fs : List (Str × V)}
theorem InsX.ty (T : InsX K C) (e : H a = some (.ins C dx fs)) : TyX K H (.ref a) (.ref C) := .base (.ins e T.c T.ha T.hn T.ht T.hm)
theorem tyx_seqT (h : SqT K H a xs) : TyX K H (.ref a) (.type "tuple") := by
  rcases h with h | ⟨o, its, n, h1, h2, _⟩
  · rcases h with h | ⟨o, h⟩
    · exact .base (.tup h)
    · exact .fTuple h
  · exact .kTuple h1 h2
theorem tyx_seqL (h : SqL K H a xs) : TyX K H (.ref a) (.type "list") := by
  rcases h with h | ⟨o, its, n, h1, h2, _⟩
  · rcases h with h | ⟨o, h⟩
    · exact .base (.lst h)
    · exact .base (.frz h)
  · exact .kList h1 h2
/-- a tuple stands when an instance changes -/
theorem kp_seqT (k : Kp x H H') (hx : H x = some (.ins C dx fs)) (h : SqT K H a xs) : SqT K H' a xs := by
  rcases h with h | h
  · rcases h with h | ⟨o, h⟩
    · exact .inl (.inl (k _ _ h fun z => by rw [z, hx] at h; cases h))
    · exact .inl (.inr ⟨o, k _ _ h fun z => by rw [z, hx] at h; cases h⟩)
  · exact .inr h
theorem kp_upd {o : HO} : Kp x H (upd H x o) := fun b u e n => by rw [upd_ne n]; exact e
theorem kp_list {l : Addr} {ys : List V} {x' : Addr} (k : Kp x' H H') (h : H l = some (.lst ys)) (n : l ≠ x') : H' l = some (.lst ys) := k _ _ h n
end
end L2.KK
/-! isinstance of a caught exception of one's own that has fields -/
namespace PySem.W
open PySem PySem.Spec PySem.Calls PyProof.Rows
section
variable {prog : Program} {w : World} {A : Around} {E : Value → Shared → Prop} {s : Shared} {K : Frag} {x D : Addr} {ox : Obj} {od : Option Obj}
theorem findObj_any {C : Addr} {nm : Str} {a g : Value} (hc : (clsIn K C).isSome = true) (h1 : findIn K (.ref C) nm = some (some a)) (h2 : specialIn K a "__get__" = some (some g)) (h3 : takesIn K a = some true) : findObj K C od nm = some (.bind g a) := by
  obtain ⟨cd, e⟩ := Option.isSome_iff_exists.mp hc
  unfold findObj; rw [e, Option.bind_some, h1, Option.bind_some]; simp [h2, h3]
theorem cls_of_exc (C : L2.ExcC K D) (X : K.In s.heap) (I : InstAt s.heap x ox D od) {Q : Option Value → Shared → Prop} (h : Q (some (.ref D)) { s with toks := s.toks + 1 }) : wpAny (model prog w) A (getAttr? (.ref x) "__class__") Q E s := by
  have hf : findObj K D od "__class__" = some (.bind (.builtin "getset_descriptor.__get__") (.builtin "object.__class__")) := findObj_any (by obtain ⟨c0, q0, _⟩ := any_some C.hd; rw [q0]; rfl) C.ha C.hn C.ht
  obtain ⟨hp, gg, dr, tk, oo⟩ := s
  have T0 := I.type (M := model prog w)
  have T1 := looks_findIn (M := model prog w) X C.hg
  have T2 := looks_findIn (M := model prog w) X C.hk
  have T3 := looks_find (M := model prog w) X I hf
  have sb : Looks (model prog w) hp (isInstance (.ref x) (.type "BaseException")) true := T0.andThen (looks_subIn X C.hs)
  have n0 : (false && onTheHeap (Value.builtin "BaseException.__getattribute__")) = false := rfl
  have n1 : (onTheHeap (Value.ref D) && Value.builtin "BaseException.__getattribute__" == Value.builtin "object.__getattribute__") = false := by rw [show (Value.builtin "BaseException.__getattribute__" == Value.builtin "object.__getattribute__") = false from by decide +kernel]; rfl
  unfold getAttr? getAttrBy? getAttrBy; refine wpAny_bind (wpAny_mkText (wpAny_bind (wpAny_attempt (wpAny_holding (wpAny_bind (T0.at (wpAny_bind (T1.at ?_))))))))
  show wpAny _ _ (if (onTheHeap (Value.ref D) && Value.builtin "BaseException.__getattribute__" == Value.builtin "object.__getattribute__") = true then _ else _) _ _ _; rw [n1, if_neg Bool.false_ne_true]
  unfold getAttrByItsOwn hookBefore; refine wpAny_bind ?_
  rw [if_pos (show onTheHeap (Value.ref D) = true from rfl)]; refine T2.at (wpAny_bind (wpAny_attempt (wpAny_holding ?_)))
  unfold callGetattribute; rw [n0, if_neg Bool.false_ne_true]
  unfold boundAndCalled; rw [PySem.F.excAttr_ValueError.ga.bind (.ref x)]
  refine wpAny_bind (wpAny_pure ?_); show wpAny _ _ (call (.builtin "BaseException.__getattribute__") [.ref x, .str "__class__" tk]) _ _ _
  refine wpAny_call (codeAny_call_builtin PySem.F.excAttr_ValueError.ga.plain PySem.F.entry_bexc_ga (@check_slot (model prog w) _ _ ⟨hp, gg, dr, tk + 1, oo⟩ "BaseException.__getattribute__" "BaseException" "__getattribute__" (.ref x) [.str "__class__" tk] [] _ (by decide +kernel) (by decide +kernel) sb (PySem.F.args_bexc_ga (.ref x) (.str "__class__" tk)) ?_))
  unfold Builtin.«object.__getattribute__»; refine wpAny_bind (wpAny_of_eq (a := ((Value.ref x : Value), [Value.str "__class__" tk])) (by first | rfl | (simp only [slotArgs]; rfl)) ?_)
  refine wpAny_bind (wpAny_pure (wpAny_bind (T0.at (wpAny_bind (T3.at ?_))))); show wpAny _ _ (holding [Value.builtin "object.__class__"] (call (.builtin "getset_descriptor.__get__") [.builtin "object.__class__", .ref x, .ref D]) >>= ret) _ _ _
  refine wpAny_bind (wpAny_holding (wpAny_call (class_get (s := ⟨hp, gg, dr, tk + 1, oo⟩) (ox := ox) (od := od) X I C.hm (wpAny_pure ?_))))
  show wpAny _ _ (handedOut (.ref D)) _ _ _; rw [handedOut_of (v := .ref D) rfl]
  first | exact wpAny_pure (wpAny_pure h) | exact wpAny_pure h | exact wpAny_pure (wpAny_bind (wpAny_pure (wpAny_pure h)))
theorem kitx_oexc (C : L2.ExcC K D) : KitX K (.ref x) (.ref D) (fun h => InstAt h x ox D od) where
  ty := fun _ _ _ I => I.type
  it := fun _ _ X _ => by
    obtain ⟨c0, q0, _⟩ := any_some C.hd
    unfold clsIn at q0; split at q0
    · rename_i ho; intro A' Q' E' s' k q; unfold isType loadHead; exact wpAny_bind (wpAny_loadPart (k _ _ (X _ _ ho)) (wpAny_pure q))
    · cases q0
  ne := fun h tp dd its n sl X htp => by
    obtain ⟨c0, q0, _⟩ := any_some C.hd
    refine Bool.eq_false_iff.mpr fun q => ?_
    obtain rfl : D = tp := Value.ref.inj (beq_iff_eq.mp q)
    unfold clsIn at q0; split at q0
    · rename_i ho; cases (X _ _ ho).symm.trans htp
    · cases q0
  ca := fun X I k => cls_of_exc C X I k
end
end PySem.W
namespace L2.KK
open PySem PySem.Spec PyProof.Rows
/-- isinstance(error, c), the error of the class D and its fields at d -/
def rIsO (K : PySem.W.Frag) (D a : Addr) (d : Option Addr) : List V → Hp → VK → Prop := fun xs H Q => ∃ (c : V) (cv : Value) (b : Bool) (dd : Addr) (fs : List (Str × V)), xs = [.ref a, c] ∧ d = some dd ∧ H dd = some (.xd fs) ∧ (∀ u, RelV c u → u = cv) ∧ PySem.W.kitOne K (.ref D) cv = some b ∧ Q (.bl b) H
theorem call_isO {X : Cx} {a D : Addr} {oe : Obj} {cls : Value} {d : Option Addr} {pn : List (Addr × Obj)} (C : ExcC X.K D) (hz : Zc cls d oe) (hf : ∃ vs, oe.data = .fields vs) : CallR (X.suite a ((a, oe) :: pn)) (.builtin "isinstance") (fun xs H Q => cls = .ref D ∧ rIsO X.K D a d xs H Q) := by
  intro pins s σ H xs us Q I r ⟨hcls, h⟩
  obtain ⟨c, cv, b, dd, fs, rfl, rfl, hd, hcv, e, q⟩ := h
  cases r with
  | cons rx rr =>
    cases rr with
    | cons rt rr =>
      cases rr
      cases rx
      obtain rfl := hcv _ rt
      obtain ⟨hget, _⟩ := I.pin (a, oe) (List.mem_append.mpr (.inl List.mem_cons_self))
      obtain ⟨vs, hv⟩ := hf
      obtain ⟨mA, hns, _⟩ := (show ObjOk X.prog X.w H s.heap dd (.xd fs) from I.hok dd _ hd)
      obtain ⟨od, hod, _⟩ := lookIn_ns hns
      have J : PySem.W.InstAt s.heap a oe D (some od) := by
        obtain ⟨oc, odi, oda, osl⟩ := oe
        obtain ⟨h1, h2⟩ := hz
        dsimp only at h1 h2 hv
        subst h2 hv
        rw [hcls] at h1
        exact ⟨hget, h1, rfl, hod⟩
      exact PySem.W.kia_one (PySem.W.kitx_oexc C) I.kIn J e (fun z => nomatch z) fun tk => ⟨.bl b, H, I.kept (t' := tk) fun _ _ z => z, rfl, q⟩
def excB (x : Str) (K : PySem.W.Frag) : Bool := eqOV (PySem.W.findIn K (.ref (He.ga K x)) "__getattribute__") (some (some (.builtin "BaseException.__getattribute__"))) && (eqOV (PySem.W.findIn K (.ref (He.ga K x)) "__getattr__") (some none) && (decide (PySem.W.subIn K (.ref (He.ga K x)) (.type "BaseException") = some true) &&
  (PySem.W.hasDictIn K (He.ga K x) && (eqOV (PySem.W.findIn K (.ref (He.ga K x)) "__class__") (some (some (.builtin "object.__class__"))) && (eqOV (PySem.W.specialIn K (.builtin "object.__class__") "__get__") (some (some (.builtin "getset_descriptor.__get__"))) &&
  (decide (PySem.W.takesIn K (.builtin "object.__class__") = some true) && decide (PySem.W.mroIn K (He.ga K x) (.type "object") = some true)))))))
theorem excB_ok {K : PySem.W.Frag} {x : Str} (h : excB x K = true) : ExcC K (He.ga K x) := by
  obtain ⟨h1, h⟩ := He.ba h
  obtain ⟨h2, h⟩ := He.ba h
  obtain ⟨h3, h⟩ := He.ba h
  obtain ⟨h4, h⟩ := He.ba h
  obtain ⟨h5, h⟩ := He.ba h
  obtain ⟨h6, h⟩ := He.ba h
  obtain ⟨h7, h8⟩ := He.ba h
  exact ⟨of_decide_eq_true h1, of_decide_eq_true h2, of_decide_eq_true h3, h4, of_decide_eq_true h5, of_decide_eq_true h6, of_decide_eq_true h7, of_decide_eq_true h8⟩
/-- isinstance(instance of x, a built-in class) -/
def isiTB (x : Str) (T : String) (b : Bool) (K : PySem.W.Frag) : Bool := decide (PySem.W.kitOne K (.ref (He.ga K x)) (.type T) = some b)
end L2.KK
/-! a head's look that goes along the ways it needs alone: the module's names, what they name, a class's names, a def's code -/
namespace L2.KK
open PySem PySem.Spec PyProof.Rows C8
def refsF (o : Obj) : List Addr := match o.data with
  | .cls cd => [cd.ns]
  | .func fd => He.refV fd.code
  | .dict es _ => es.toList.flatMap fun e => He.refV e.val
  | _ => []
def lvlF (g : Addr → Option Obj) (as : List Addr) : List Addr := as.flatMap fun a => match g a with
  | some o => refsF o
  | none => []
def asF (g : Addr → Option Obj) : Nat → List Addr → List Addr
  | 0, as => as
  | n + 1, as => as ++ asF g n (lvlF g as)
def frF (n : Nat) (g : Addr → Option Obj) : PySem.W.Frag := He.frG g (cStatics :: asF g n [mainGlobals])
def obsF (n : Nat) (fa : List He.Fa) (fn : List He.DefD) (my : List (PySem.W.Frag → Bool)) (g : Addr → Option Obj) : AlK := (He.obsD fa fn (frF n g), my.map fun f => f (frF n g))
def hookF (n : Nat) (fa : List He.Fa) (fn : List He.DefD) (my : List (PySem.W.Frag → Bool)) : PySem.W.Hook where
  α := AlK
  obs := fun s => obsF n fa fn my s.heap.get?
  val := fun _ => (He.valD fn, my.map fun _ => true)
  says := fun _ h => ∃ K : PySem.W.Frag, K.In h ∧ SaysK fa fn my K
  of := fun _ s e => ⟨frF n s.heap.get?, He.frG_in, congrArg Prod.fst e, congrArg Prod.snd e⟩
  keeps := fun _ _ _ ⟨K, hK, c⟩ k => ⟨K, PySem.W.Frag.In.keeps hK k, c⟩
theorem obsF_eq {n : Nat} {fa : List He.Fa} {fn : List He.DefD} {my : List (PySem.W.Frag → Bool)} {g : Addr → Option Obj} {s : Shared} (h : ∀ a, g a = s.heap.get? a) : obsF n fa fn my g = (hookF n fa fn my).obs s := by
  have e : g = s.heap.get? := funext h
  rw [e]
  rfl
end L2.KK
/-! == of nested tuples and lists of numbers, texts, None -/
namespace L2.KK
open PySem PySem.Spec PyProof.Rows C8
mutual
def pln : PyData → Bool
  | .none => true
  | .int _ => true
  | .bool _ => false
  | .str x => PyData.strOk x
  | .list xs => plnAll xs
  | .tuple xs => plnAll xs
  | .dict _ => false
def plnAll : List PyData → Bool
  | [] => true
  | x :: xs => pln x && plnAll xs
end
mutual
theorem pln_lay : ∀ d : PyData, pln d = true → d.canLay0 = true
  | .none, _ => by simp only [PyData.canLay0]
  | .int _, _ => by simp only [PyData.canLay0]
  | .bool _, h => by simp [pln] at h
  | .str x, h => by simpa [pln, PyData.canLay0] using h
  | .list xs, h => by simp only [PyData.canLay0]; exact plnAll_lay xs (by simpa [pln] using h)
  | .tuple xs, h => by simp only [PyData.canLay0]; exact plnAll_lay xs (by simpa [pln] using h)
  | .dict _, h => by simp [pln] at h
theorem plnAll_lay : ∀ xs : List PyData, plnAll xs = true → PyData.canLayAll0 xs = true
  | [], _ => by simp only [PyData.canLayAll0]
  | x :: xs, h => by
    have h' : pln x = true ∧ plnAll xs = true := by simpa [plnAll] using h
    simp only [PyData.canLayAll0, pln_lay x h'.1, plnAll_lay xs h'.2, Bool.and_self]
end
mutual
theorem eqv_iff : ∀ a b : PyData, pln a = true → pln b = true → (PyData.eqv a b = true ↔ a = b)
  | .none, b, _, hb => by cases b <;> simp [PyData.eqv, pln] at hb ⊢
  | .int i, b, _, hb => by cases b <;> simp [PyData.eqv, pln] at hb ⊢
  | .bool _, _, h, _ => by simp [pln] at h
  | .dict _, _, h, _ => by simp [pln] at h
  | .str x, b, _, hb => by cases b <;> simp [PyData.eqv, pln] at hb ⊢
  | .list xs, b, ha, hb => by
    cases b with
    | list ys =>
      have := eqvAll_iff xs ys (by simpa [pln] using ha) (by simpa [pln] using hb)
      simp only [PyData.eqv, this, PyData.list.injEq]
    | _ => simp [PyData.eqv]
  | .tuple xs, b, ha, hb => by
    cases b with
    | tuple ys =>
      have := eqvAll_iff xs ys (by simpa [pln] using ha) (by simpa [pln] using hb)
      simp only [PyData.eqv, this, PyData.tuple.injEq]
    | _ => simp [PyData.eqv]
theorem eqvAll_iff : ∀ xs ys : List PyData, plnAll xs = true → plnAll ys = true → (PyData.eqvAll xs ys = true ↔ xs = ys)
  | [], ys, _, _ => by cases ys <;> simp [PyData.eqvAll]
  | x :: xs, [], _, _ => by simp [PyData.eqvAll]
  | x :: xs, y :: ys, ha, hb => by
    have h1 : pln x = true ∧ plnAll xs = true := by simpa [plnAll] using ha
    have h2 : pln y = true ∧ plnAll ys = true := by simpa [plnAll] using hb
    simp only [PyData.eqvAll, Bool.and_eq_true, eqv_iff x y h1.1 h2.1, eqvAll_iff xs ys h1.2 h2.2, List.cons.injEq]
end
theorem pln_shaped {d : PyData} (h : pln d = true) (hd : d.depth ≤ 64) : SeqAt.shaped d = true := Bool.and_eq_true_iff.mpr ⟨pln_lay d h, decide_eq_true hd⟩
theorem plnAll_of : ∀ {xs : List PyData}, (∀ x ∈ xs, pln x = true) → plnAll xs = true
  | [], _ => rfl
  | x :: xs, h => by
    show (pln x && plnAll xs) = true
    rw [h x List.mem_cons_self, plnAll_of fun y hy => h y (List.mem_cons_of_mem _ hy)]
    rfl
theorem depthAll_le {n : Nat} : ∀ {xs : List PyData}, (∀ x ∈ xs, x.depth ≤ n) → PyData.depthAll xs ≤ n
  | [], _ => by unfold PyData.depthAll; omega
  | x :: xs, h => by
    unfold PyData.depthAll
    have := h x List.mem_cons_self
    have := depthAll_le fun y hy => h y (List.mem_cons_of_mem _ hy)
    omega
theorem depth_tup {n : Nat} {xs : List PyData} (h : ∀ x ∈ xs, x.depth ≤ n) : (PyData.tuple xs).depth ≤ n + 1 := by
  have := depthAll_le h
  unfold PyData.depth
  omega
theorem depth_lst {n : Nat} {xs : List PyData} (h : ∀ x ∈ xs, x.depth ≤ n) : (PyData.list xs).depth ≤ n + 1 := by
  have := depthAll_le h
  unfold PyData.depth
  omega
theorem pln_tup {xs : List PyData} (h : ∀ x ∈ xs, pln x = true) : pln (.tuple xs) = true := by
  show plnAll xs = true
  exact plnAll_of h
section
variable {K : PySem.W.Frag} {H : Hp} {x y : V} {dx dy : PyData} {Q : VK}
theorem eqd_pln (hx : Dp K H x dx) (hy : Dp K H y dy) (px : pln dx = true) (py : pln dy = true) (lx : dx.depth ≤ 64) (ly : dy.depth ≤ 64) (q : ∀ k : Bool, (k = true ↔ dx = dy) → Q (.bl k) H) : rEqD K x y H Q :=
  ⟨_, _, hx, hy, pln_shaped px lx, pln_shaped py ly, q _ (eqv_iff dx dy px py)⟩
theorem ned_pln (hx : Dp K H x dx) (hy : Dp K H y dy) (px : pln dx = true) (py : pln dy = true) (lx : dx.depth ≤ 64) (ly : dy.depth ≤ 64) (q : ∀ k : Bool, (k = true ↔ dx = dy) → Q (.bl (!k)) H) : rNeD K x y H Q :=
  ⟨_, _, hx, hy, pln_shaped px lx, pln_shaped py ly, q _ (eqv_iff dx dy px py)⟩
end
/-! prices as data -/
def pD : Option Nat → PyData
  | none => .none
  | some n => .int n
theorem pD_inj {a b : Option Nat} (h : pD a = pD b) : a = b := by
  cases a <;> cases b <;> simp [pD] at h
  · rfl
  · congr 1
    omega
theorem pD_pln (p : Option Nat) : pln (pD p) = true := by cases p <;> rfl
theorem pD_depth (p : Option Nat) : (pD p).depth ≤ 0 := by cases p <;> exact Nat.le_refl 0
theorem dp_price {K : PySem.W.Frag} {H : Hp} (p : Option Nat) : Dp K H (pV p) (pD p) := by
  cases p with
  | none => exact .non
  | some n => exact .int n
theorem dp_prices {K : PySem.W.Frag} {H : Hp} : ∀ ps : List (Option Nat), DpAll K H (ps.map pV) (ps.map pD)
  | [] => .nil
  | p :: ps => .cons (dp_price p) (dp_prices ps)
theorem pDs_inj {a b : List (Option Nat)} (h : a.map pD = b.map pD) : a = b := by
  induction a generalizing b with
  | nil => cases b with
    | nil => rfl
    | cons => cases h
  | cons x a ih => cases b with
    | nil => cases h
    | cons y b =>
      rw [List.map_cons, List.map_cons] at h
      injection h with h1 h2
      rw [pD_inj h1, ih h2]
end L2.KK
/-! methods and classes that raise; == of tuples of instances with an own ==; what stands when lists and one kind of instance change -/
namespace GQ
open PySem PySem.SeqAt
open AutoSeq1 (wpAny_loadPart')
open MeetsSeq MeetsSeq2 MeetsSeq3 SeqRoads2
section
variable {prog : Program} {w : World} {A : Around} {R : Result → Shared → Prop}
/-- items compared one by one, up to the first that differs -/
theorem tuple_eqB (l b : Addr) (items items2 : Array Value) (n n2 : Nat) (dd dd2 : Option Addr) (sl sl2 : Array (Option Value)) (hsz : items.size = items2.size) (e : Nat → Bool) (I : Nat → Shared → Prop)
    (turn : ∀ i (h1 : i < items.size) (h2 : i < items2.size) s, I i s → wpAny (model prog w) A.in1 (eqBool items[i] items2[i]) (fun r s' => r = e i ∧ I (i + 1) s') (fun e s' => R (.error e) s') s)
    (fin : ∀ i s, I i s → i ≤ items.size → ∀ r : Bool, (r = true ↔ ∀ j, j < items.size → e j = true) → R (.ok (.ret (.bool r))) s) {s : Shared} (hl1 : s.heap.get? l = some { cls := .type "tuple", dict := dd, data := .seq items n, slots := sl }) (hb1 : s.heap.get? b = some { cls := .type "tuple", dict := dd2, data := .seq items2 n2, slots := sl2 }) (h : I 0 s) :
    wpAny (model prog w) A.in1 (Builtin.«tuple.__eq__» ⟨[.ref l, .ref b], []⟩) (FinOf prog w A R) (fun e s' => R (.error e) s') s := by
  have f2 := AutoSeq1.sub_tuple_tuple
  have hZ : (items.toList.zip items2.toList).length = items.size := by simp [hsz]
  have h0 := h
  obtain ⟨hp, g, d, tk, os⟩ := s
  wp_walk using wpAny_loadPart' hl1, wpAny_loadPart' hb1, wpAny_forIn_list _ (fun rest b s' => b.1 = none ∧ ∃ i, rest = (items.toList.zip items2.toList).drop i ∧ i ≤ items.size ∧ (∀ j, j < i → e j = true) ∧ I i s') _
  case turn =>
    rintro ⟨y, x⟩ rest b s' ⟨hb', i, hz, hi, hall, hI⟩
    have hlt : i < (items.toList.zip items2.toList).length := by
      rcases Nat.lt_or_ge i (items.toList.zip items2.toList).length with h' | h'
      · exact h'
      · rw [List.drop_of_length_le h'] at hz; cases hz
    have h1 : i < items.size := hZ ▸ hlt
    have h2 : i < items2.size := hsz ▸ h1
    rw [List.drop_eq_getElem_cons hlt] at hz
    injection hz with hyx hrest
    have hy : y = items[i] := by have := congrArg Prod.fst hyx; simpa using this
    have hx : x = items2[i] := by have := congrArg Prod.snd hyx; simpa using this
    subst hy hx
    refine wpAny_bind (wpAny_mono (turn i h1 h2 s' hI) (fun r s2 q2 => ?_) fun _ _ x => x)
    obtain ⟨hr, q2⟩ := q2
    cases hei : e i with
    | true =>
      rw [hei] at hr
      subst hr
      wp_walk
      refine ⟨rfl, i + 1, hrest, h1, fun j hj => ?_, q2⟩
      rcases Nat.lt_succ_iff_lt_or_eq.mp hj with q | q
      · exact hall j q
      · rw [q]; exact hei
    | false =>
      rw [hei] at hr
      subst hr
      wp_walk
      exact fin (i + 1) s2 q2 h1 false ⟨fun z => (nomatch z), fun z => by rw [z i h1] at hei; cases hei⟩
  case fin =>
    rintro ⟨b1, b2⟩ s' ⟨hb', i, hz, hi, hall, hI⟩
    simp only at hb'
    subst hb'
    have hge : items.size ≤ i := by
      rcases Nat.lt_or_ge i (items.toList.zip items2.toList).length with h' | h'
      · rw [List.drop_eq_getElem_cons h'] at hz; cases hz
      · exact hZ ▸ h'
    have hi' : i = items.size := by omega
    have hR : R (.ok (.ret (.bool true))) s' := fin i s' hI hi true ⟨fun _ j hj => hall j (by omega), fun _ => rfl⟩
    wp_walk
    simpa [Builtin.Tuple.tupleCompareSizes, hsz] using hR
  case h =>
    exact ⟨rfl, 0, rfl, Nat.zero_le _, fun j hj => absurd hj (Nat.not_lt_zero j), h0⟩
end
section
variable {prog : Program} {w : World} {A : Around} {E : Value → Shared → Prop} {s : Shared}
theorem rc_tupB {l b : Addr} {items items2 : Array Value} {Q : Value → Shared → Prop} (hsz : items.size = items2.size) (hu : A.units < cLine) (e : Nat → Bool) (I : Nat → Shared → Prop)
    (hl : s.heap.IsTuple l items) (hb : s.heap.IsTuple b items2)
    (turn : ∀ i (h1 : i < items.size) (h2 : i < items2.size) s, I i s → wpAny (model prog w) A.in1 (eqBool items[i] items2[i]) (fun r s' => r = e i ∧ I (i + 1) s') E s)
    (fin : ∀ i s, I i s → i ≤ items.size → ∀ r : Bool, (r = true ↔ ∀ j, j < items.size → e j = true) → Q (.bool r) s) (h : I 0 s) : wpAny (model prog w) A (richCompare .Eq (.ref l) (.ref b)) Q E s := by
  obtain ⟨⟨cls, dd, data, sl⟩, ho, hc, n, hd⟩ := id hl
  obtain ⟨⟨cls2, dd2, data2, sl2⟩, ho2, hc2, n2, hd2⟩ := id hb
  simp only at hc hd hc2 hd2
  subst hc hd hc2 hd2
  refine wpAny_richCompare_same_room (op := .Eq) ⟨_, ho, rfl⟩ ⟨_, ho2, rfl⟩ F.slot_tuple_eq (call_here F.slot_tuple_eq ⟨_, ho, rfl⟩ F.entry_tuple_eq (F.args_tuple_eq_2 _ _) ?_) hu
  exact tuple_eqB (R := wants (fun v s' => v ≠ .notImplemented ∧ Q v s') E) l b items items2 n n2 dd dd2 sl sl2 hsz e I turn (fun i s' q hi r hr => ⟨(fun x => nomatch x), fin i s' q hi r hr⟩) ho ho2 h
end
end GQ
namespace L2.KK
open PySem PySem.Spec PyProof.Rows C8
section
variable {X : Cx} {C : Addr}
/-- == of two tuples of instances with an own == that changes nothing: e i: the answer at the i-th pair -/
def rEqTI (K : PySem.W.Frag) (C : Addr) (sp : Sp) : R2 := fun x y H Q => ∃ (a b : Addr) (xs ys : List V) (e : Nat → Bool), x = .ref a ∧ y = .ref b ∧ SqT K H a xs ∧ SqT K H b ys ∧ xs.length = ys.length ∧
  (∀ i, i < xs.length → ∃ p q dx dy fs gs, xs[i]? = some (.ref p) ∧ ys[i]? = some (.ref q) ∧ H p = some (.ins C dx fs) ∧ H q = some (.ins C dy gs) ∧ (p = q → e i = true) ∧ (p ≠ q → sp [.ref p, .ref q] H (fun v H' => v = .bl (e i) ∧ H' = H) E0)) ∧
  ∀ r : Bool, (r = true ↔ ∀ i, i < xs.length → e i = true) → Q (.bl r) H
theorem op_eqTI {n : Nat} {f : Addr} {fd : FuncData} {ps : List Str} {sp : Sp} (F : FnOk X.prog X.w X.K X.mg X.base CX0 n f fd ps sp) (me : Meth X.K C "__eq__" f) (hb : Binds X.K fd ps []) (hr : Room (n + 1) X.A) : OpR X (compareOp .Eq) (rEqTI X.K C sp) := by
  intro pins s σ H x y v u Q I rx ry h
  obtain ⟨a, b, xs, ys, e, rfl, rfl, ha, hb', hl, items, q⟩ := h
  cases rx
  cases ry
  obtain ⟨its, r, e1, z⟩ := I.tuple ha
  obtain ⟨its2, r2, e2, z2⟩ := I.tuple hb'
  have hsz : its.toArray.size = its2.toArray.size := by rw [List.size_toArray, List.size_toArray, ← r.length, ← r2.length]; exact hl
  show wpAny (model X.prog X.w) X.A (richCompare .Eq (.ref a) (.ref b)) (EP X pins σ Q) X.xe s
  refine GQ.rc_tupB hsz hr.units0 e (fun _ s' => Inv X pins σ H s') e1 e2 (fun i h1 h2 s' I' => ?_) (fun i s' I' _ k hk => ⟨.bl k, H, I', rfl, q k ⟨fun z i hi => hk.mp z i (by rw [List.size_toArray, ← r.length]; exact hi), fun z => hk.mpr fun i hi => z i (by rw [List.size_toArray, ← r.length] at hi; exact hi)⟩⟩) I
  have k1 : i < xs.length := by rw [r.length]; simpa using h1
  have k2 : i < ys.length := by rw [← hl]; exact k1
  obtain ⟨p, p', dx, dy, fs, gs, g1, g2, hp, hp', same, hsp⟩ := items i k1
  have v1 : its.toArray[i] = .ref p := by
    obtain ⟨u, hu, ru⟩ := r.get g1
    cases ru
    have : its[i]? = some its.toArray[i] := by
      have h1' : i < its.length := by simpa using h1
      rw [List.getElem?_eq_getElem h1'] <;> simp
    rw [this] at hu
    exact Option.some.inj hu
  have v2 : its2.toArray[i] = .ref p' := by
    obtain ⟨u, hu, ru⟩ := r2.get g2
    cases ru
    have : its2[i]? = some its2.toArray[i] := by
      have h1' : i < its2.length := by simpa using h2
      rw [List.getElem?_eq_getElem h1'] <;> simp
    rw [this] at hu
    exact Option.some.inj hu
  rw [v1, v2]
  by_cases hne : p = p'
  · subst hne
    exact SeqAt.EqAt.same (A := X.A.in1) (s := s') (.ref p) X.prog X.w X.xe _ ⟨(same rfl).symm, I'⟩
  · refine GQ.eqBool_refG hne ?_
    obtain ⟨mA, J, _⟩ := ins_get I'.hok hp
    obtain ⟨mB, J', _⟩ := ins_get I'.hok hp'
    obtain ⟨od, J, _⟩ := J.look
    obtain ⟨od', J', _⟩ := J'.look
    have fr : X.A.in1.frames = some X.stack := I'.env0.frames
    obtain ⟨m, hF⟩ := I'.fr
    refine PySem.W.cmp_K (op := .Eq) (tb := .ref C) hr.in1.units0 hF I'.ok.mod.kin J J'.type (by simp [PySem.W.notFirst]) me.at_ me.fn ?_
    have rv : Vals [V.ref p, V.ref p'] [Value.ref p, Value.ref p'] := .cons rfl (.cons rfl .nil)
    refine wpAny_mono (run_in (A := X.A.in1) F fr hr.in1 hb I' rv (hsp hne)) (fun w s2 hq => ?_) fun _ _ x => x
    obtain ⟨v, H', I2, rv2, ⟨ev, eh⟩, _⟩ := ce_inv I' hq
    subst ev eh
    cases rv2
    exact ⟨_, rfl, rfl, I2⟩
/-! ### methods and classes that raise -/
end
section
variable {P : Program} {w : World} {K : PySem.W.Frag} {mg : Str → Option Value} {base : Heap}
structure MetX (P : Program) (w : World) (K : PySem.W.Frag) (mg : Str → Option Value) (base : Heap) (k : Nat) (C : Addr) (m : Str) (sp : Sp) : Prop where
  ex : ∃ (f : Addr) (fd : FuncData) (ps : List Str), Cls K C ∧ Meth K C m f ∧ FnOk P w K mg base (L2.CX P w) k f fd ps sp ∧ Binds K fd ps []
theorem MetX.calm {k : Nat} {C : Addr} {m : Str} {sp : Sp} (c : MetX P w K mg base k C m sp) : Met P w K mg base k C m (fun vs H Q _ => sp vs H Q E0) [] := by
  obtain ⟨f, fd, ps, hc, me, F, b⟩ := c.ex
  exact ⟨f, fd, ps, [], hc, me, fnok_calm F, b, .nil⟩
structure MakY (P : Program) (w : World) (K : PySem.W.Frag) (mg : Str → Option Value) (base : Heap) (k : Nat) (x : Str) (C : Addr) (sp : Sp) : Prop where
  ex : ∃ (f : Addr) (fd : FuncData) (ps : List Str), Mk K C f ∧ FnOk P w K mg base (L2.CX P w) k f fd ps sp ∧ mg x = some (.ref C) ∧ Binds K fd ps []
theorem MakY.calm {k : Nat} {x : Str} {C : Addr} {sp : Sp} (c : MakY P w K mg base k x C sp) : Mak P w K mg base k x C (fun vs H Q _ => sp vs H Q E0) [] := by
  obtain ⟨f, fd, ps, M, F, m, b⟩ := c.ex
  exact ⟨f, fd, ps, [], M, fnok_calm F, m, b, .nil⟩
theorem Met.weak {k : Nat} {C : Addr} {m : Str} {sp sp' : Sp} (c : Met P w K mg base k C m sp []) (h : ∀ vs H Q E, sp' vs H Q E → sp vs H Q E) : Met P w K mg base k C m sp' [] := by
  obtain ⟨f, fd, ps, ds, hc, me, F, b, d⟩ := c.ex
  exact ⟨f, fd, ps, ds, hc, me, F.imp h, b, d⟩
theorem Mak.weak {k : Nat} {x : Str} {C : Addr} {sp sp' : Sp} (c : Mak P w K mg base k x C sp []) (h : ∀ vs H Q E, sp' vs H Q E → sp vs H Q E) : Mak P w K mg base k x C sp' [] := by
  obtain ⟨f, fd, ps, ds, M, F, m, b, d⟩ := c.ex
  exact ⟨f, fd, ps, ds, M, F.imp h, m, b, d⟩
theorem metOfX {m q : Str} {C : Addr} {st : Stmt} {N ps : List Str} {sp : Sp} {k : Nat} (c : Cls K C) (D : MtAt K C m q st) (S : FnScope N ps (defScope st))
    (bn : ∀ (kV doc pm : Value) (an : Option Addr) (cdv ct : Value) (us : List Value), us.length = ps.length → bindArgs (PySem.W.fnOf m q (defArgs st) (defBody st) (defScope st) .none kV doc pm an cdv ct) ⟨us, []⟩ = pure (ps.zip us))
    (len : ∀ vs H Q E, sp vs H Q E → vs.length = ps.length)
    (body : ∀ (f : Addr) (cdv : Value) (A : Around) (outer : List Env) (s : Shared) (H : Hp) (vs : List V) (Q : VK) (E : XK), Room k (A.deeper (envOfC q (defScope st) s.heap.objs.size f cdv)) → sp vs H Q E →
      ∃ t, PSs (cxOf (L2.CX P w) P w K mg base N q (defScope st) f cdv A outer s H E) (defBody st) t ∧ t { nx := fun _ H' => Q .non H', rt := Q } (start N vs) H) : MetX P w K mg base (k + 1) C m sp := by
  obtain ⟨f, fd, F, me⟩ := D.ex
  refine ⟨f, fd, ps, c, me, ?_, F.bindsN bn⟩
  exact F.ok S len fun cdv A outer s H vs Q E hr hsp => body f cdv A outer s H vs Q E hr hsp
theorem makOfY {x q : Str} {C : Addr} {st : Stmt} {N ps : List Str} {sp : Sp} {k : Nat} (hm : mg x = some (.ref C)) (D : InAt K C q st) (S : FnScope N ps (defScope st))
    (bn : ∀ (kV doc pm : Value) (an : Option Addr) (cdv ct : Value) (us : List Value), us.length = ps.length → bindArgs (PySem.W.fnOf "__init__" q (defArgs st) (defBody st) (defScope st) .none kV doc pm an cdv ct) ⟨us, []⟩ = pure (ps.zip us))
    (len : ∀ vs H Q E, sp vs H Q E → vs.length = ps.length)
    (body : ∀ (f : Addr) (cdv : Value) (A : Around) (outer : List Env) (s : Shared) (H : Hp) (vs : List V) (Q : VK) (E : XK), Room k (A.deeper (envOfC q (defScope st) s.heap.objs.size f cdv)) → sp vs H Q E →
      ∃ t, PSs (cxOf (L2.CX P w) P w K mg base N q (defScope st) f cdv A outer s H E) (defBody st) t ∧ t { nx := fun _ H' => Q .non H', rt := Q } (start N vs) H) : MakY P w K mg base (k + 1) x C sp := by
  obtain ⟨f, fd, F, me⟩ := D.ex
  refine ⟨f, fd, ps, me, ?_, hm, F.bindsN bn⟩
  exact F.ok S len fun cdv A outer s H vs Q E hr hsp => body f cdv A outer s H vs Q E hr hsp
end
section
variable {X : Cx} {k j : Nat} {C : Addr} {x m : Str} {sp : Sp} {p pos apos : Pos} {e o : Expr} {es : List Expr} {ta : TE} {t : TA} {W : WX}
def tMethW (C : Addr) (m : Str) (sp : Sp) (E : St → XK) (ta : TE) (t : TA) : TE := fun σ H Q => ta σ H fun x H1 => ∃ a dx fs, x = .ref a ∧ H1 a = some (.ins C dx fs) ∧ fs.lookup m = none ∧ t σ H1 fun vs H2 => sp (x :: vs) H2 Q (E σ)
theorem pe_mtx {pl : Sem Bool} (c : MetX X.prog X.w X.K X.mg X.base k C m sp) (hr : Room j X.A) (hk : k ≤ j) (tk : Takes X W) (he : PE X o ta) (ha : PA X (e :: es) t)
    (hst : starEach (e :: es) X.env = (false, eval e X.env) :: starEach es X.env := by rfl) (hpl : (backTo pos (starEach es X.env)).any (·.1) = false := by rfl)
    (ht : eval (.Call (.Attribute o m apos) (e :: es) [] pos) X.env = (do
      let ov ← eval o X.env
      standAt apos.atName
      let (f, first) ← holding [ov] (getMethod ov m pl)
      callWith pos f first (backTo pos (starEach (e :: es) X.env)) (backToKw pos (keywordEach [] X.env))) := by rfl) :
    PE X (.Call (.Attribute o m apos) (e :: es) [] pos) (tMethW C m sp (WE W) ta t) := by
  obtain ⟨f, fd, ps, hc, hm, F, hb⟩ := c.ex
  refine ⟨fun pins s σ H Q I h => ?_⟩
  refine PySem.W.methodCall_KW (pl := pl) (thn (he.run pins s σ H _ I h) fun u s1 ⟨x, H1, I1, rx, a, dx, fs, ex, ea, l, q⟩ => ?_) ht
  subst ex
  obtain rfl : u = Value.ref a := rx
  refine getmeth_ok I1 ea hc hm l ?_
  refine PySem.W.callWith_K (first := [.ref a]) (h₀ := X.base) I.ok.mod.kin hm.kp (thn (ha.run pos pins s1 σ H1 _ I1 q) fun us s2 ⟨vs, H2, I2, r, q2⟩ => ⟨I2.kIn, ?_⟩) hst hpl
  exact run_fnS (us := .ref a :: us) (vs := .ref a :: vs) F (hr.mono hk) hb (passAt tk σ) I2 (.cons rfl r) q2
def tMakeW (C : Addr) (sp : Sp) (E : St → XK) (t : TA) : TE := fun σ H Q => t σ H fun vs H1 => ∀ x dx, H1 x = none → H1 dx = none → dx ≠ x →
  sp (.ref x :: vs) (upd (upd H1 dx (.own x)) x (.ins C dx [])) (fun v H2 => v = .non ∧ Q (.ref x) H2) (E σ)
theorem pe_mky (c : MakY X.prog X.w X.K X.mg X.base k x C sp) (hr : Room j X.A) (hk : k + 1 ≤ j) (hg : Gl X x) (tk : Takes X W) (ha : PA X (e :: es) t)
    (hdb : (x == ("__debug__" : Str)) = false := by decide) (he : starEach (e :: es) X.env = (false, eval e X.env) :: starEach es X.env := by rfl) (hpl : (backTo pos (starEach es X.env)).any (·.1) = false := by rfl) :
    PE X (.Call (.Name x p) (e :: es) [] pos) (tMakeW C sp (WE W) t) := by
  obtain ⟨f, fd, ps, M, F, hm, hb⟩ := c.ex
  refine ⟨fun pins s σ H Q I h => ?_⟩
  refine wpAny_Call_Name_kw (ld_glob I hg hm ?_ hdb)
  refine PySem.W.callWith_K (h₀ := X.base) I.ok.mod.kin M.kp (thn (ha.run pos pins s σ H _ I h) fun us s1 ⟨vs, H1, I1, r, q⟩ => ⟨I1.kIn, ?_⟩) he hpl
  have hq := q (s1.heap.objs.size + 1) s1.heap.objs.size (I1.hok.fresh (Nat.le_succ _)) (I1.hok.fresh (Nat.le_refl _)) (Nat.ne_of_lt (Nat.lt_succ_self _))
  have I2 := Inv.made (C := C) I1
  have r2 : Vals (V.ref (s1.heap.objs.size + 1) :: vs) (Value.ref (s1.heap.objs.size + 1) :: us) := .cons rfl r
  have hl : (Value.ref (s1.heap.objs.size + 1) :: us).length = ps.length := by
    have e := r2.length
    rw [F.len _ _ _ _ hq] at e
    exact e.symm
  have b := hb _ (Value.ref (s1.heap.objs.size + 1) :: us) I2.kIn (by rw [List.append_nil]; exact hl)
  rw [List.append_nil] at b
  refine wpAny_call (make_map (f := f) I1.kIn M.makes M.init (beq_iff_eq.mp M.fn) (codeAny_mono (F.run _ X.stack _ _ ⟨Value.ref (s1.heap.objs.size + 1) :: us, []⟩ (Value.ref (s1.heap.objs.size + 1) :: us) _ _ (WE W σ) ((hr.mono hk).make C us [])
    (I2.env0.make C us []) b r2 hq) fun r s' hq' => ?_))
  cases r with
  | error e => exact passAt tk σ pins _ _ e s' I2 hq'
  | ok fl =>
    cases fl with
    | ret u =>
      obtain ⟨v, H', I3, rv, ev, q3⟩ := I2.after hq'
      subst ev
      exact ⟨rv, ⟨V.ref (s1.heap.objs.size + 1), H', I3, rfl, q3⟩⟩
    | next => exact False.elim hq'
    | brk => exact False.elim hq'
    | cont => exact False.elim hq'
end
section
variable {X : Cx} {e : Expr} {es : List Expr} {te : TE} {t : TA} {p : Pos}
theorem pa_starK (K : PySem.W.Frag) (he : PE X e te) (hr : PA X es t) (hs : starEach (.Starred e p :: es) X.env = (true, eval e X.env) :: starEach es X.env := by rfl) (h : X.K = K := by rfl) : PA X (.Starred e p :: es) (StX.tStar K te t) := by
  subst h
  exact StX.pa_star he hr hs
end
/-! ### what stands: all but lists and the instances whose first field is named past -/
def MutO : HO → Prop
  | .lst _ => True
  | .ins _ _ [] => True
  | .ins _ _ ((f, _) :: _) => f = "past"
  | _ => False
def Imm (H H' : Hp) : Prop := ∀ b o, H b = some o → ¬ MutO o → H' b = some o
theorem Imm.refl (H : Hp) : Imm H H := fun _ _ h _ => h
theorem Imm.trans {H H1 H2 : Hp} (a : Imm H H1) (b : Imm H1 H2) : Imm H H2 := fun c o h n => b c o (a c o h n) n
theorem Same.imm {H H' : Hp} (e : Same H H') : Imm H H' := fun b o h _ => e b o h
theorem SameT.imm {H H' : Hp} (e : SameT H H') : Imm H H' := fun b o h n => e b o h (by
  cases o with
  | lst _ => exact absurd trivial n
  | _ => trivial)
section
variable {K : PySem.W.Frag} {H H' : Hp} {d c a : Addr} {xs : List V}
theorem Kp.imm (k : Kp d H H') (D : Dr H d c) : Imm H H' := fun b o h n => k b o h fun z => by
  obtain ⟨_, _, _, _, hd, _⟩ := D.ex
  rw [z, hd] at h
  cases h
  exact n trivial
theorem imm_seqT (e : Imm H H') (h : SqT K H a xs) : SqT K H' a xs := by
  rcases h with (h | ⟨o, h⟩) | h
  · exact .inl (.inl (e _ _ h id))
  · exact .inl (.inr ⟨o, e _ _ h id⟩)
  · exact .inr h
theorem Imm.new {H2 : Hp} {p : Addr} {o : HO} (e : Imm H H') (h : H p = none) : Imm H (upd H' p o) := fun b u q n => by
  rw [upd_ne (ne_of_none q h)]
  exact e b u q n
end
theorem imm_upd {H : Hp} {x : Addr} {o0 o : HO} (h : H x = some o0) (m : MutO o0) : Imm H (upd H x o) := fun c u e n => by
  rw [upd_ne (fun z => by
    rw [z, h] at e
    cases e
    exact n m)]
  exact e
theorem kp_imm {H H' : Hp} {x : Addr} {o0 : HO} (k : Kp x H H') (h : H x = some o0) (m : MutO o0) : Imm H H' := fun c u e n => k c u e fun z => by
  rw [z, h] at e
  cases e
  exact n m
theorem kp_none {H H' : Hp} {x c : Addr} (k : Kp x H H') (h : H' c = none) (n : c ≠ x) : H c = none := by
  cases e : H c with
  | none => rfl
  | some o => rw [k c o e n] at h; cases h
/-- what stands but for the objects at M -/
def Chg (M : List Addr) (H H' : Hp) : Prop := ∀ b o, H b = some o → b ∉ M → H' b = some o
theorem Chg.trans {M : List Addr} {H H1 H2 : Hp} (a : Chg M H H1) (b : Chg M H1 H2) : Chg M H H2 := fun c o h n => b c o (a c o h n) n
theorem Same.chg {M : List Addr} {H H' : Hp} (e : Same H H') : Chg M H H' := fun b o h _ => e b o h
end L2.KK
/-! plain: prices, rows, chosen numbers -/
namespace MK
def lowO : Option Nat → Option Nat → Option Nat
  | none, b => b
  | some x, none => some x
  | some x, some y => some (if x ≤ y then x else y)
def lowL (ps : List (Option Nat)) : Option Nat := ps.foldl lowO none
def hiO : Option Nat → Option Nat → Option Nat
  | b, none => b
  | none, some x => some x
  | some y, some x => if x > y then some x else some y
def hiL (ps : List (Option Nat)) : Option Nat := ps.foldl hiO none
def lowStep : Option Nat → Option Nat → Option Nat
  | b, none => b
  | none, some x => some x
  | some y, some x => if x < y then some x else some y
def lowS (ps : List (Option Nat)) : Option Nat := ps.foldl lowStep none
theorem fold_some {f : Option Nat → Option Nat → Option Nat} (h1 : ∀ x b, (f (some x) b).isSome = true) (h2 : ∀ a y, (f a (some y)).isSome = true) : ∀ (ps : List (Option Nat)) (a : Option Nat), (a.isSome = true ∨ ∃ p ∈ ps, p.isSome = true) → (ps.foldl f a).isSome = true
  | [], a, h => by
    rcases h with h | ⟨p, hp, _⟩
    · exact h
    · cases hp
  | p :: ps, a, h => by
    rw [List.foldl_cons]
    refine fold_some h1 h2 ps _ ?_
    rcases h with h | ⟨q, hq, h⟩
    · obtain ⟨x, rfl⟩ := Option.isSome_iff_exists.mp h
      exact .inl (h1 x p)
    · rcases List.mem_cons.mp hq with z | z
      · obtain ⟨y, rfl⟩ := Option.isSome_iff_exists.mp h
        rw [← z]
        exact .inl (h2 a y)
      · exact .inr ⟨q, z, h⟩
theorem lowL_some {ps : List (Option Nat)} (h : ∃ p ∈ ps, p.isSome = true) : (lowL ps).isSome = true :=
  fold_some (fun x b => by cases b <;> rfl) (fun a y => by cases a <;> rfl) ps none (.inr h)
theorem hiL_some {ps : List (Option Nat)} (h : ∃ p ∈ ps, p.isSome = true) : (hiL ps).isSome = true :=
  fold_some (fun x b => by
    cases b with
    | none => rfl
    | some y => show (if y > x then some y else some x).isSome = true; split <;> rfl) (fun a y => by
    cases a with
    | none => rfl
    | some x => show (if y > x then some y else some x).isSome = true; split <;> rfl) ps none (.inr h)
theorem fold_none : ∀ (ps : List (Option Nat)), (∀ p ∈ ps, p = none) → ps.foldl lowStep none = none
  | [], _ => rfl
  | p :: ps, h => by
    rw [List.foldl_cons, h p List.mem_cons_self]
    exact fold_none ps fun q hq => h q (List.mem_cons_of_mem _ hq)
theorem lowS_some {ps : List (Option Nat)} : (lowS ps).isSome = true ↔ ∃ p ∈ ps, p.isSome = true := by
  constructor
  · intro h
    refine Classical.byContradiction fun n => ?_
    have : lowS ps = none := fold_none ps fun p hp => by
      cases p with
      | none => rfl
      | some x => exact absurd ⟨_, hp, rfl⟩ n
    rw [this] at h
    cases h
  · exact fun h => fold_some (fun x b => by
      cases b with
      | none => rfl
      | some y => show (if y < x then some y else some x).isSome = true; split <;> rfl) (fun a y => by
      cases a with
      | none => rfl
      | some x => show (if y < x then some y else some x).isSome = true; split <;> rfl) ps none (.inr h)
theorem hi_le {B : Nat} : ∀ (ps : List (Option Nat)) (a : Option Nat), (∀ m, a = some m → m ≤ B) → (∀ p ∈ ps, ∀ m, p = some m → m ≤ B) → ∀ m, ps.foldl hiO a = some m → m ≤ B
  | [], a, ha, _, m, h => ha m h
  | p :: ps, a, ha, hp, m, h => by
    rw [List.foldl_cons] at h
    refine hi_le ps _ (fun k hk => ?_) (fun q hq => hp q (List.mem_cons_of_mem _ hq)) m h
    have h1 := hp p List.mem_cons_self
    cases p with
    | none =>
      cases a with
      | none => exact ha k hk
      | some y => exact ha k hk
    | some x =>
      cases a with
      | none => exact h1 k hk
      | some y =>
        have e : hiO (some y) (some x) = if x > y then some x else some y := rfl
        rw [e] at hk
        by_cases hxy : x > y
        · rw [if_pos hxy] at hk
          exact h1 k hk
        · rw [if_neg hxy] at hk
          exact ha k hk
theorem hiL_le {B : Nat} {ps : List (Option Nat)} (h : ∀ p ∈ ps, ∀ m, p = some m → m ≤ B) : ∀ m, hiL ps = some m → m ≤ B := hi_le ps none (fun _ h => nomatch h) h
/-- the bits of n, the first place the greatest one -/
def rowL (n k : Nat) : List Nat := (List.range k).map fun j => n >>> (k - 1 - j) &&& 1
theorem rowL_len (n k : Nat) : (rowL n k).length = k := by unfold rowL; rw [List.length_map, List.length_range]
def chosen (picks fill : List Nat) : Nat := picks.foldl (fun r x => r * 2 + fill.getD x 0) 0
def first1 (acc : List Nat) (x : Nat) : List Nat := if x ∈ acc then acc else acc ++ [x]
def firstsL (ns : List Nat) : List Nat := ns.foldl first1 []
end MK
/-! a ledger's states, plainly: what a deed makes of one -/
namespace L2.KK
open PySem
structure Ui where
  at_ : Int
  names : List Int
  times : Int
structure Bk where
  tbs : List (Nat × List (Option Nat))
  many : Nat
  rows : List (Nat × Ui)
  ahead : Nat
def useB (tbs : List (Nat × List (Option Nat))) (many : Nat) (u : Ui) : Bool :=
  decide (0 ≤ u.at_ ∧ u.at_ ≤ (tbs.length : Int) - 1) && (decide (1 ≤ u.times ∧ u.times ≤ 10 ^ 40) && (decide ((u.names.length : Int) = ((tbs.getD u.at_.toNat (0, [])).1 : Int)) && u.names.all fun n => decide (0 ≤ n ∧ n ≤ (many : Int) - 1)))
def toldB (t : Nat × List (Option Nat)) : Bool := decide (t.1 ≠ 0) && ((MK.lowL t.2).isSome && (MK.hiL t.2).all fun h => decide (h ≤ 1000))
inductive Gd
  | bad (w : Str)
  | name
  | add (u : Ui)
  | drop (n : Int)
  | times (n t : Int)
  | table (i : Int) (t : Nat × List (Option Nat))
def numsB (b : Bk) : List Int := b.rows.map fun r => (r.1 : Int)
def setT (t : Int) (u : Ui) : Ui := { u with times := t }
def doneG (b : Bk) : Gd → Except Str Bk
  | .bad w => .error w
  | .name => if b.many = 400 then .error "name" else .ok { b with many := b.many + 1 }
  | .add u => if useB b.tbs b.many u = true ∧ b.rows.length ≠ 200 then .ok { b with rows := b.rows ++ [(b.ahead, u)], ahead := b.ahead + 1 } else .error "add"
  | .drop n => if n ∈ numsB b then .ok { b with rows := b.rows.filter fun r => !decide ((r.1 : Int) = n) } else .error "drop"
  | .times n t => if n ∈ numsB b ∧ 1 ≤ t ∧ t ≤ 10 ^ 6 then .ok { b with rows := b.rows.map fun r => if (r.1 : Int) = n then (r.1, setT t r.2) else r } else .error "times"
  | .table i t => if (0 ≤ i ∧ i ≤ (b.tbs.length : Int) - 1) ∧ toldB t = true ∧ t.1 = (b.tbs.getD i.toNat (0, [])).1 then .ok { b with tbs := b.tbs.set i.toNat t } else .error "table"
theorem done_name (b : Bk) : doneG b .name = if b.many = 400 then .error "name" else .ok { b with many := b.many + 1 } := rfl
theorem done_add (b : Bk) (u : Ui) : doneG b (.add u) = if useB b.tbs b.many u = true ∧ b.rows.length ≠ 200 then .ok { b with rows := b.rows ++ [(b.ahead, u)], ahead := b.ahead + 1 } else .error "add" := rfl
theorem done_drop (b : Bk) (n : Int) : doneG b (.drop n) = if n ∈ numsB b then .ok { b with rows := b.rows.filter fun r => !decide ((r.1 : Int) = n) } else .error "drop" := rfl
theorem done_times (b : Bk) (n t : Int) : doneG b (.times n t) = if n ∈ numsB b ∧ 1 ≤ t ∧ t ≤ 10 ^ 6 then .ok { b with rows := b.rows.map fun r => if (r.1 : Int) = n then (r.1, setT t r.2) else r } else .error "times" := rfl
theorem done_table (b : Bk) (i : Int) (t : Nat × List (Option Nat)) : doneG b (.table i t) = if (0 ≤ i ∧ i ≤ (b.tbs.length : Int) - 1) ∧ toldB t = true ∧ t.1 = (b.tbs.getD i.toNat (0, [])).1 then .ok { b with tbs := b.tbs.set i.toNat t } else .error "table" := rfl
/-- a table that a lot takes -/
def TbG (t : Nat × List (Option Nat)) : Prop := 1 ≤ t.1 ∧ t.1 ≤ 4 ∧ t.2.length = 2 ^ t.1 ∧ (∃ p ∈ t.2, p.isSome = true) ∧ ∀ p ∈ t.2, ∀ m, p = some m → m ≤ 1000
structure BkOk (b : Bk) : Prop where
  tb : ∀ t ∈ b.tbs, TbG t
  t1 : 1 ≤ b.tbs.length
  t16 : b.tbs.length ≤ 16
  many : b.many ≤ 400
  len : b.rows.length ≤ 200
  use : ∀ r ∈ b.rows, useB b.tbs b.many r.2 = true
  lt : ∀ r ∈ b.rows, r.1 < b.ahead
  nd : (b.rows.map (·.1)).Nodup
/-- a deed's table is well made -/
def GdOk : Gd → Prop
  | .table _ t => t.1 ≤ 4 ∧ t.2.length = 2 ^ t.1
  | _ => True
theorem hi_fold_ge : ∀ (ps : List (Option Nat)) (a : Option Nat) (h : Nat), ps.foldl MK.hiO a = some h → (∀ m, a = some m → m ≤ h) ∧ ∀ p ∈ ps, ∀ m, p = some m → m ≤ h
  | [], a, h, e => ⟨fun m hm => by
      rw [List.foldl_nil] at e
      rw [e] at hm
      cases hm
      exact Nat.le_refl _, fun p hp => (nomatch hp)⟩
  | p :: ps, a, h, e => by
    rw [List.foldl_cons] at e
    obtain ⟨h1, h2⟩ := hi_fold_ge ps _ h e
    have hx : ∀ m, MK.hiO a p = some m → m ≤ h := h1
    have up : (∀ m, a = some m → m ≤ h) ∧ ∀ m, p = some m → m ≤ h := by
      cases a with
      | none => cases p with
        | none => exact ⟨fun _ z => (nomatch z), fun _ z => (nomatch z)⟩
        | some y => exact ⟨fun _ z => (nomatch z), fun m z => hx m (by rw [← z]; rfl)⟩
      | some x => cases p with
        | none => exact ⟨fun m z => hx m (by rw [← z]; rfl), fun _ z => (nomatch z)⟩
        | some y =>
          have e2 : MK.hiO (some x) (some y) = if y > x then some y else some x := rfl
          by_cases g : y > x
          · rw [if_pos g] at e2
            have := hx y e2
            exact ⟨fun m z => by cases z; omega, fun m z => by cases z; omega⟩
          · rw [if_neg g] at e2
            have := hx x e2
            exact ⟨fun m z => by cases z; omega, fun m z => by cases z; omega⟩
    refine ⟨up.1, fun q hq => ?_⟩
    rcases List.mem_cons.mp hq with z | z
    · rw [z]; exact up.2
    · exact h2 q z
theorem hiL_ge {ps : List (Option Nat)} {h : Nat} (e : MK.hiL ps = some h) : ∀ p ∈ ps, ∀ m, p = some m → m ≤ h := (hi_fold_ge ps none h e).2
theorem low_all_none : ∀ (ps : List (Option Nat)), (∀ p ∈ ps, p = none) → ps.foldl MK.lowO none = none
  | [], _ => rfl
  | p :: ps, h => by
    rw [List.foldl_cons, h p List.mem_cons_self]
    exact low_all_none ps fun q hq => h q (List.mem_cons_of_mem _ hq)
theorem lowL_some_iff {ps : List (Option Nat)} : (MK.lowL ps).isSome = true ↔ ∃ p ∈ ps, p.isSome = true := by
  refine ⟨fun h => ?_, MK.lowL_some⟩
  apply Classical.byContradiction
  intro n
  have : MK.lowL ps = none := low_all_none ps fun p hp => by
    cases p with
    | none => rfl
    | some x => exact absurd ⟨_, hp, rfl⟩ n
  rw [this] at h
  cases h
theorem told_ok {t : Nat × List (Option Nat)} (h : toldB t = true) (h4 : t.1 ≤ 4) (hl : t.2.length = 2 ^ t.1) : TbG t := by
  unfold toldB at h
  obtain ⟨h1, h⟩ := Bool.and_eq_true_iff.mp h
  obtain ⟨h2, h3⟩ := Bool.and_eq_true_iff.mp h
  have n0 := of_decide_eq_true h1
  have ex := lowL_some_iff.mp h2
  obtain ⟨m, hm⟩ := Option.isSome_iff_exists.mp (MK.hiL_some ex)
  rw [hm] at h3
  have h3' : m ≤ 1000 := of_decide_eq_true (show decide (m ≤ 1000) = true from h3)
  exact ⟨by omega, h4, hl, ex, fun p hp x hx => Nat.le_trans (hiL_ge hm p hp x hx) h3'⟩
theorem ok_told {t : Nat × List (Option Nat)} (h : TbG t) : toldB t = true := by
  obtain ⟨h1, _, _, ex, le⟩ := h
  obtain ⟨m, hm⟩ := Option.isSome_iff_exists.mp (MK.hiL_some ex)
  have := MK.hiL_le le m hm
  unfold toldB
  rw [MK.lowL_some ex, hm, decide_eq_true (by omega : t.1 ≠ 0)]
  show decide (m ≤ 1000) = true
  exact decide_eq_true this
theorem useB_many {tbs : List (Nat × List (Option Nat))} {m m' : Nat} {u : Ui} (h : useB tbs m u = true) (hm : m ≤ m') : useB tbs m' u = true := by
  unfold useB at h ⊢
  obtain ⟨h1, h⟩ := Bool.and_eq_true_iff.mp h
  obtain ⟨h2, h⟩ := Bool.and_eq_true_iff.mp h
  obtain ⟨h3, h4⟩ := Bool.and_eq_true_iff.mp h
  rw [h1, h2, h3]
  show (u.names.all _) = true
  rw [List.all_eq_true] at h4 ⊢
  intro n hn
  have := of_decide_eq_true (h4 n hn)
  exact decide_eq_true (by omega)
theorem useB_set {tbs : List (Nat × List (Option Nat))} {m i : Nat} {u : Ui} {t : Nat × List (Option Nat)} (h : useB tbs m u = true) (ht : t.1 = (tbs.getD i (0, [])).1) : useB (tbs.set i t) m u = true := by
  unfold useB at h ⊢
  rw [List.length_set]
  have e : ((tbs.set i t).getD u.at_.toNat (0, [])).1 = (tbs.getD u.at_.toNat (0, [])).1 := by
    rw [List.getD_eq_getElem?_getD, List.getElem?_set]
    by_cases hi : i = u.at_.toNat
    · rw [if_pos hi]
      by_cases hl : i < tbs.length
      · rw [if_pos hl, ← hi]
        exact ht
      · rw [if_neg hl, ← hi, List.getD_eq_getElem?_getD, List.getElem?_eq_none (by omega)]
    · rw [if_neg hi, List.getD_eq_getElem?_getD]
  rw [e]
  exact h
theorem useB_times {tbs : List (Nat × List (Option Nat))} {m : Nat} {u : Ui} {t : Int} (h : useB tbs m u = true) (h1 : 1 ≤ t) (h2 : t ≤ 10 ^ 40) : useB tbs m (setT t u) = true := by
  unfold useB at h ⊢
  obtain ⟨a, h⟩ := Bool.and_eq_true_iff.mp h
  obtain ⟨_, h⟩ := Bool.and_eq_true_iff.mp h
  show (decide (0 ≤ u.at_ ∧ u.at_ ≤ (tbs.length : Int) - 1) && (decide (1 ≤ t ∧ t ≤ 10 ^ 40) && _)) = true
  rw [a, decide_eq_true ⟨h1, h2⟩]
  exact h
theorem done_ok {b b' : Bk} {g : Gd} (o : BkOk b) (go : GdOk g) (h : doneG b g = .ok b') : BkOk b' := by
  cases g with
  | bad w => cases h
  | name =>
    rw [done_name] at h
    by_cases c : b.many = 400
    · rw [if_pos c] at h; cases h
    · rw [if_neg c] at h
      cases h
      have := o.many
      exact ⟨o.tb, o.t1, o.t16, by show b.many + 1 ≤ 400; omega, o.len, fun r hr => useB_many (o.use r hr) (Nat.le_succ _), o.lt, o.nd⟩
  | add u =>
    rw [done_add] at h
    by_cases c : useB b.tbs b.many u = true ∧ b.rows.length ≠ 200
    · rw [if_pos c] at h
      cases h
      have := o.len
      refine ⟨o.tb, o.t1, o.t16, o.many, ?_, fun r hr => ?_, fun r hr => ?_, ?_⟩
      · show (b.rows ++ [(b.ahead, u)]).length ≤ 200
        rw [List.length_append]
        show b.rows.length + 1 ≤ 200
        omega
      · rcases List.mem_append.mp hr with z | z
        · exact o.use r z
        · rw [List.mem_singleton.mp z]; exact c.1
      · rcases List.mem_append.mp hr with z | z
        · exact Nat.lt_succ_of_lt (o.lt r z)
        · rw [List.mem_singleton.mp z]; exact Nat.lt_succ_self _
      · show ((b.rows ++ [(b.ahead, u)]).map (·.1)).Nodup
        rw [List.map_append, List.nodup_append]
        refine ⟨o.nd, List.nodup_cons.mpr ⟨List.not_mem_nil, List.nodup_nil⟩, fun x hx y hy => ?_⟩
        obtain ⟨r, hr, rfl⟩ := List.mem_map.mp hx
        have e : y = b.ahead := List.mem_singleton.mp hy
        have := o.lt r hr
        omega
    · rw [if_neg c] at h; cases h
  | drop n =>
    rw [done_drop] at h
    by_cases c : n ∈ numsB b
    · rw [if_pos c] at h
      cases h
      refine ⟨o.tb, o.t1, o.t16, o.many, Nat.le_trans (List.length_filter_le _ _) o.len, fun r hr => o.use r (List.mem_filter.mp hr).1, fun r hr => o.lt r (List.mem_filter.mp hr).1, ?_⟩
      exact o.nd.sublist (List.filter_sublist.map _)
    · rw [if_neg c] at h; cases h
  | times n t =>
    rw [done_times] at h
    by_cases c : n ∈ numsB b ∧ 1 ≤ t ∧ t ≤ 10 ^ 6
    · rw [if_pos c] at h
      cases h
      refine ⟨o.tb, o.t1, o.t16, o.many, by show (b.rows.map _).length ≤ 200; rw [List.length_map]; exact o.len, fun r hr => ?_, fun r hr => ?_, ?_⟩
      · obtain ⟨q, hq, rfl⟩ := List.mem_map.mp hr
        split
        · exact useB_times (o.use q hq) c.2.1 (Int.le_trans c.2.2 (by decide))
        · exact o.use q hq
      · obtain ⟨q, hq, rfl⟩ := List.mem_map.mp hr
        have := o.lt q hq
        split <;> exact this
      · show ((b.rows.map fun r => if (r.1 : Int) = n then (r.1, setT t r.2) else r).map (·.1)).Nodup
        rw [List.map_map]
        have e : ((fun r : Nat × Ui => r.1) ∘ fun r => if (r.1 : Int) = n then (r.1, setT t r.2) else r) = fun r => r.1 := by
          funext r
          show (if (r.1 : Int) = n then (r.1, setT t r.2) else r).1 = r.1
          split <;> rfl
        rw [e]
        exact o.nd
    · rw [if_neg c] at h; cases h
  | table i t =>
    rw [done_table] at h
    by_cases c : (0 ≤ i ∧ i ≤ (b.tbs.length : Int) - 1) ∧ toldB t = true ∧ t.1 = (b.tbs.getD i.toNat (0, [])).1
    · rw [if_pos c] at h
      cases h
      refine ⟨fun q hq => ?_, by show 1 ≤ (b.tbs.set _ _).length; rw [List.length_set]; exact o.t1, by show (b.tbs.set _ _).length ≤ 16; rw [List.length_set]; exact o.t16, o.many, o.len, fun r hr => useB_set (o.use r hr) c.2.2, o.lt, o.nd⟩
      rcases List.mem_or_eq_of_mem_set hq with z | z
      · exact o.tb q z
      · rw [z]; exact told_ok c.2.1 go.1 go.2
    · rw [if_neg c] at h; cases h
/-! the law's way of doing the same -/
theorem idx_mem {xs : List (Nat × Ui)} {n : Int} (h : n ∈ xs.map fun r => (r.1 : Int)) : ∃ i, i < xs.length ∧ (∃ r, xs[i]? = some r ∧ (r.1 : Int) = n) ∧ ∀ j, j < i → ∀ r, xs[j]? = some r → (r.1 : Int) ≠ n := by
  induction xs with
  | nil => cases h
  | cons x xs ih =>
    by_cases e : (x.1 : Int) = n
    · exact ⟨0, Nat.zero_lt_succ _, ⟨x, rfl, e⟩, fun j hj => absurd hj (Nat.not_lt_zero j)⟩
    · rw [List.map_cons] at h
      rcases List.mem_cons.mp h with z | z
      · exact absurd z.symm e
      · obtain ⟨i, hi, ⟨r, hr, er⟩, hb⟩ := ih z
        refine ⟨i + 1, Nat.succ_lt_succ hi, ⟨r, hr, er⟩, fun j hj q hq => ?_⟩
        cases j with
        | zero => cases hq; exact e
        | succ j => exact hb j (Nat.lt_of_succ_lt_succ hj) q hq
theorem filter_at {n : Int} : ∀ {xs : List (Nat × Ui)} {i : Nat} {r : Nat × Ui}, (xs.map (·.1)).Nodup → xs[i]? = some r → (r.1 : Int) = n → (xs.filter fun q => !decide ((q.1 : Int) = n)) = xs.take i ++ xs.drop (i + 1)
  | [], i, r, _, h, _ => by cases i <;> cases h
  | x :: xs, i, r, nd, h, e => by
    rw [List.map_cons, List.nodup_cons] at nd
    cases i with
    | zero =>
      cases h
      rw [List.filter_cons_of_neg (by rw [decide_eq_true e]; exact Bool.false_ne_true), List.take_zero, List.nil_append]
      show _ = xs
      rw [List.filter_eq_self]
      intro q hq
      have : ¬ (q.1 : Int) = n := fun z => nd.1 (List.mem_map.mpr ⟨q, hq, by have := z.trans e.symm; omega⟩)
      rw [decide_eq_false this]
      rfl
    | succ i =>
      have hx : ¬ (x.1 : Int) = n := fun z => nd.1 (List.mem_map.mpr ⟨r, List.mem_of_getElem? (by simpa using h), by have := e.trans z.symm; omega⟩)
      rw [List.filter_cons_of_pos (by rw [decide_eq_false hx]; rfl), filter_at nd.2 (by simpa using h) e]
      rfl
theorem map_at {n t : Int} : ∀ {xs : List (Nat × Ui)} {i : Nat} {r : Nat × Ui}, (xs.map (·.1)).Nodup → xs[i]? = some r → (r.1 : Int) = n → (xs.map fun q => if (q.1 : Int) = n then (q.1, setT t q.2) else q) = xs.set i (r.1, setT t r.2)
  | [], i, r, _, h, _ => by cases i <;> cases h
  | x :: xs, i, r, nd, h, e => by
    rw [List.map_cons, List.nodup_cons] at nd
    cases i with
    | zero =>
      cases h
      rw [List.map_cons, if_pos e, List.set_cons_zero]
      congr 1
      have : xs.map (fun q => if (q.1 : Int) = n then (q.1, setT t q.2) else q) = xs.map id := List.map_congr_left fun q hq => by
        have : ¬ (q.1 : Int) = n := fun z => nd.1 (List.mem_map.mpr ⟨q, hq, by have := z.trans e.symm; omega⟩)
        rw [if_neg this]
        rfl
      rw [this, List.map_id]
    | succ i =>
      have hx : ¬ (x.1 : Int) = n := fun z => nd.1 (List.mem_map.mpr ⟨r, List.mem_of_getElem? (by simpa using h), by have := e.trans z.symm; omega⟩)
      rw [List.map_cons, if_neg hx, map_at nd.2 (by simpa using h) e, List.set_cons_succ]
end L2.KK
namespace L2.KK
open PySem PySem.Spec PyProof.Rows C8
def top (i : Nat) : Stmt := PySem.Challenge.pw_pricedrules_k86_ledger_undo_redo_twin.main.body.getD i (.Pass ⟨0, 0, 0, 0⟩)
abbrev s_wall : Stmt := top 0
abbrev s_BadTable_init : Stmt := inClass (top 3) 0
abbrev s_BadRow_init : Stmt := inClass (top 4) 0
abbrev s_BadLot_init : Stmt := inClass (top 5) 0
abbrev s_BadPuzzle_init : Stmt := inClass (top 6) 0
abbrev s_BadFilling_init : Stmt := inClass (top 7) 0
abbrev s_BadDeed_init : Stmt := inClass (top 8) 0
abbrev s_is_whole : Stmt := top 10
abbrev s_is_bits : Stmt := top 11
abbrev s_added : Stmt := top 12
abbrev s_times_price : Stmt := top 13
abbrev s_summed : Stmt := top 14
abbrev s_lower : Stmt := top 15
abbrev s_lowest : Stmt := top 16
abbrev s_highest : Stmt := top 17
abbrev s_row_number : Stmt := top 19
abbrev s_chosen_number : Stmt := top 20
abbrev s_Table_init : Stmt := inClass (top 24) 0
abbrev s_Table_span : Stmt := inClass (top 24) 1
abbrev s_Table_crisp : Stmt := inClass (top 24) 2
abbrev s_Table_price : Stmt := inClass (top 24) 3
abbrev s_Table_open_numbers : Stmt := inClass (top 24) 4
abbrev s_Table_open_rows : Stmt := inClass (top 24) 5
abbrev s_Table_contains : Stmt := inClass (top 24) 6
abbrev s_Table_eq : Stmt := inClass (top 24) 7
abbrev s_Table_add : Stmt := inClass (top 24) 8
abbrev s_Table_mul : Stmt := inClass (top 24) 9
abbrev s_swapped : Stmt := top 25
abbrev s_is_told : Stmt := top 29
abbrev s_Lot_init : Stmt := inClass (top 30) 0
abbrev s_Lot_eq : Stmt := inClass (top 30) 1
abbrev s_Lot_wider : Stmt := inClass (top 30) 2
abbrev s_is_use : Stmt := top 35
abbrev s_Puzzle_init : Stmt := inClass (top 36) 0
abbrev s_Puzzle_eq : Stmt := inClass (top 36) 1
abbrev s_Puzzle_add : Stmt := inClass (top 36) 2
abbrev s_Puzzle_use_price : Stmt := inClass (top 36) 3
abbrev s_Puzzle_price : Stmt := inClass (top 36) 4
abbrev s_State_init : Stmt := inClass (top 40) 0
abbrev s_State_numbers : Stmt := inClass (top 40) 1
abbrev s_State_puzzle : Stmt := inClass (top 40) 2
abbrev s_check_deed : Stmt := top 41
abbrev s_named : Stmt := top 42
abbrev s_added_use : Stmt := top 43
abbrev s_dropped : Stmt := top 44
abbrev s_with_times : Stmt := top 45
abbrev s_with_table : Stmt := top 46
abbrev s_done : Stmt := top 47
abbrev s_Ledger_init : Stmt := inClass (top 48) 0
abbrev s_Ledger_do : Stmt := inClass (top 48) 1
abbrev s_Ledger_go : Stmt := inClass (top 48) 2
abbrev s_Ledger_undo : Stmt := inClass (top 48) 3
abbrev s_Ledger_redo : Stmt := inClass (top 48) 4
abbrev s_Ledger_lot_verdict : Stmt := inClass (top 48) 5
abbrev s_Ledger_answer : Stmt := inClass (top 48) 6
abbrev s_Ledger_puzzle : Stmt := inClass (top 48) 7
abbrev s_Ledger_numbers : Stmt := inClass (top 48) 8
abbrev s_Ledger_trial : Stmt := inClass (top 48) 9
abbrev s_Ledger_twin : Stmt := inClass (top 48) 10
abbrev s_law_begin : Stmt := top 50
abbrev s_law_draw : Stmt := top 51
abbrev s_law_pick : Stmt := top 52
abbrev s_law_rare : Stmt := top 53
abbrev s_law_ones : Stmt := top 54
abbrev s_law_sum : Stmt := top 55
abbrev s_law_low : Stmt := top 56
abbrev s_law_times : Stmt := top 57
abbrev s_law_above : Stmt := top 58
abbrev s_law_most : Stmt := top 59
abbrev s_law_kinds : Stmt := top 60
abbrev s_law_breach_one : Stmt := top 61
abbrev s_law_breach_two : Stmt := top 62
abbrev s_law_breach_three : Stmt := top 63
abbrev s_law_keeps : Stmt := top 64
abbrev s_law_kept : Stmt := top 65
abbrev s_law_first_kind : Stmt := top 66
abbrev s_law_cost : Stmt := top 67
abbrev s_law_opened : Stmt := top 68
abbrev s_law_loose : Stmt := top 69
abbrev s_law_crisp : Stmt := top 70
abbrev s_law_turned : Stmt := top 71
abbrev s_law_zero : Stmt := top 72
abbrev s_law_least : Stmt := top 73
abbrev s_law_add_bends : Stmt := top 74
abbrev s_law_cut : Stmt := top 75
abbrev s_law_twos : Stmt := top 76
abbrev s_law_sums : Stmt := top 77
abbrev s_law_ties : Stmt := top 78
abbrev s_law_kind_table : Stmt := top 79
abbrev s_law_kind_lot : Stmt := top 80
abbrev s_law_sure_hard : Stmt := top 81
abbrev s_law_hard_lot : Stmt := top 82
abbrev s_law_any_lot : Stmt := top 83
abbrev s_law_book_new : Stmt := top 84
abbrev s_law_book_copy : Stmt := top 85
abbrev s_law_book_uses : Stmt := top 86
abbrev s_law_book_fits : Stmt := top 87
abbrev s_law_book_deed : Stmt := top 88
abbrev s_law_book_done : Stmt := top 89
abbrev s_law_try : Stmt := top 90
abbrev s_law_real : Stmt := top 91
abbrev s_law_stands : Stmt := top 92
abbrev s_law_step : Stmt := top 93
abbrev s_law_back_and_forth : Stmt := top 94
abbrev s_law : Stmt := top 95
theorem sc_law_begin : FnScope ["script", "cell"] ["script"] (defScope s_law_begin) := ⟨rfl, rfl, rfl, by decide +kernel, rfl, by decide +kernel, by decide +kernel⟩
theorem sc_law_draw : FnScope ["d", "many", "found", "size", "cell"] ["d", "many"] (defScope s_law_draw) := ⟨rfl, rfl, rfl, by decide +kernel, rfl, by decide +kernel, by decide +kernel⟩
structure Bl (mg : Str → Option Value) : Prop where
  b_NotImplemented : mg "NotImplemented" = none
  b_ValueError : mg "ValueError" = none
  b_abs : mg "abs" = none
  b_all : mg "all" = none
  b_bool : mg "bool" = none
  b_int : mg "int" = none
  b_isinstance : mg "isinstance" = none
  b_len : mg "len" = none
  b_list : mg "list" = none
  b_max : mg "max" = none
  b_property : mg "property" = none
  b_range : mg "range" = none
  b_reversed : mg "reversed" = none
  b_tuple : mg "tuple" = none
  b_zip : mg "zip" = none
  g_PLACES : ∃ u, mg "PLACES" = some u ∧ RelV (.int 4) u
  g_GREATEST : ∃ u, mg "GREATEST" = some u ∧ RelV (.int 100000000000000000000000000000000000000000000000000) u
  g_TABLES : ∃ u, mg "TABLES" = some u ∧ RelV (.int 16) u
  g_DEAREST : ∃ u, mg "DEAREST" = some u ∧ RelV (.int 1000) u
  g_NAMES : ∃ u, mg "NAMES" = some u ∧ RelV (.int 400) u
  g_USES : ∃ u, mg "USES" = some u ∧ RelV (.int 20000) u
  g_TIMES : ∃ u, mg "TIMES" = some u ∧ RelV (.int 10000000000000000000000000000000000000000) u
  g_MOST_USES : ∃ u, mg "MOST_USES" = some u ∧ RelV (.int 200) u
section
variable {P : Program} {w : World} {K : PySem.W.Frag} {mg : Str → Option Value} {base : Heap}
/-! ### the law's draws -/
def spBegin (K : PySem.W.Frag) : Sp := fun vs H Q _ => ∃ (a : Addr) (ns : List Int), vs = [.ref a] ∧ SqL K H a (ns.map V.int) ∧ ns.length ≤ 63 ∧ ∀ d c H', Same H H' → H d = none → H c = none → Dr H' d c → Q (.ref d) H'
def spDraw : Sp := fun vs H Q _ => ∃ (d c : Addr) (m : Int), vs = [.ref d, .int m] ∧ Dr H d c ∧ 1 ≤ m ∧ m < 1073741824 ∧ ∀ (n : Nat) H', (n : Int) < m → Dr H' d c → Kp d H H' → Q (nV n) H'
theorem c_begin (D : FnAt K mg "_law_begin" s_law_begin) (T : Bl mg) : Cal P w K mg base 1 "_law_begin" (spBegin K) [] := by
  refine calOf D sc_law_begin (fun _ _ _ _ _ _ us hl => match us, hl with | [_], _ => rfl) (fun vs H Q E h => ?_) (fun f cdv A outer s H vs Q E hr h => ?_)
  · obtain ⟨a, ns, rfl, _⟩ := h
    rfl
  · obtain ⟨a, ns, rfl, hS, hl, k⟩ := h
    have nd := sc_law_begin.nd
    refine ⟨_, (pss_one (ps_ret (pe_lst (pa_cons (pe_lc (own := [("cell", 1)]) (g := gName 1) (tt := tYes) rfl nd (piList K (pv 0)) (blkOk_by (N := ["script", "cell"]) (sc := defScope s_law_begin) (own := [("cell", 1)]) (by decide +kernel)) (fun _ _ _ _ _ => (pg_name (i := 1) nd rfl (by first | exact Or.inl rfl | exact Or.inr rfl))) (fun _ _ _ _ _ => pts_nil) (fun _ _ _ _ _ => (pe_callTy call_int1 (by rfl) T.b_int (by decide +kernel) (pa_cons (pv 1) pa_nil)))) (pa_cons pe_int (pa_cons pe_int (pa_cons pe_int pa_nil))))))), ?_⟩
    have hz : (ns.map V.int).length ≤ sizeLine := Nat.le_of_lt (small1000 (by rw [List.length_map]; omega))
    refine ⟨.ref a, rfl, a, rfl, ⟨_, hS⟩, fun D hD => lc_listT hS (sel := fun _ => true) (P := fun i y _ => y = .int (ns.getD i 0)) ⟨fun _ _ _ _ _ h => h, fun i H' _ _ R r => r H' (Same.refl H'), fun i H' hi _ _ R r => ?_⟩ hD hz (fun H1 ys sm hd _ pr => ?_)⟩
    · have e : (ns.map V.int).getD i .non = .int (ns.getD i 0) := by
        rw [List.length_map] at hi
        rw [List.getD_eq_getElem?_getD, List.getD_eq_getElem?_getD, List.getElem?_map, List.getElem?_eq_getElem hi]
        rfl
      exact ⟨_, rfl, .inl ⟨ns.getD i 0, by rw [e], r _ H' (Same.refl H') rfl⟩⟩
    · rw [filter_yes] at pr
      have ey : ys = ns.map V.int := by
        rw [paired_map_eq pr, List.length_map]
        have q := congrArg (List.map V.int) (map_range_get ns 0)
        rw [List.map_map] at q
        exact q
      refine ⟨by show 4 ≤ sizeLine; decide, fun d hd0 => ?_⟩
      have nD : D ≠ d := ne_of_none hd hd0
      refine k d D _ (same_fresh sm (sm.free hd0)) (sm.free hd0) hD ⟨ns, 0, 0, 7, upd_same, ?_, Int.le_refl 0, by omega⟩
      rw [upd_ne nD, hd, ey]
theorem mod_pos {a m : Int} (h : 1 ≤ m) : ∃ n : Nat, a.fmod m = (n : Int) ∧ (n : Int) < m := by
  have h1 := Int.fmod_nonneg_of_pos a (show 0 < m by omega)
  have h2 := Int.fmod_lt_of_pos a (show 0 < m by omega)
  exact ⟨(a.fmod m).toNat, by omega, by omega⟩
theorem c_draw (D : FnAt K mg "_law_draw" s_law_draw) (T : Bl mg) : Cal P w K mg base 1 "_law_draw" spDraw [] := by
  refine calOf D sc_law_draw (fun _ _ _ _ _ _ us hl => match us, hl with | [_, _], _ => rfl) (fun vs H Q E h => ?_) (fun f cdv A outer s H vs Q E hr h => ?_)
  · obtain ⟨d, c, m, rfl, _⟩ := h
    rfl
  · obtain ⟨d, c, m, rfl, D, h1, h2, k⟩ := h
    obtain ⟨ns, i, r, z, hd, hc, hi, hn⟩ := D.ex
    have nd := sc_law_draw.nd
    have ncd : c ≠ d := D.cd
    -- d as it is changed: the items at 1, 2, 3
    have fin : ∀ (a : Int) (i r z : Int) (H' : Hp), 0 ≤ i → H' d = some (.lst [.ref c, .int i, .int r, .int z]) → Kp d H H' → Q (.int (a.fmod m)) H' := fun a i r z H' hi' e kp => by
      obtain ⟨n, en, ln⟩ := mod_pos (a := a) h1
      rw [en]
      exact k n H' ln ⟨ns, i, r, z, e, kp c _ hc ncd, hi', hn⟩ kp
    have kpd : ∀ o, Kp d H (upd H d o) := fun o b u e n => by rw [upd_ne n]; exact e
    refine ⟨_, (pss_cons (ps_if (pt_cmpR op_gt (pe_ix (ixL K) (pv 0) pe_int (fun _ _ => rfl)) pe_int (nomark _))
        (pss_cons (ps_set (i := 2) nd rfl (by first | exact Or.inl rfl | exact Or.inr rfl) (pe_ix (ixL K) (pv 0) pe_int (fun _ _ => rfl)))
        (pss_cons (ps_asg (pe_op op_fdivN (pv 2) (pv 1)) (pg_sub (pv 0) pe_int set_list))
        (pss_one (ps_ret (pe_op op_modN (pe_callTy call_int1 (by rfl) T.b_int (by decide +kernel) (pa_cons (pv 2) pa_nil)) (pv 1))))))
        pss_nil)
      (pss_cons (ps_set (i := 3) nd rfl (by first | exact Or.inl rfl | exact Or.inr rfl) pe_int)
      (pss_cut (ps_if (pt_cmpR op_lt (pe_ix (ixL K) (pv 0) pe_int (fun _ _ => rfl)) (pe_callB (crLen K) (by rfl) T.b_len (by decide +kernel) (pa_cons (pe_ix (ixL K) (pv 0) pe_int (fun _ _ => rfl)) pa_nil)) (nomark _))
        (pss_cons (ps_set (i := 4) nd rfl (by first | exact Or.inl rfl | exact Or.inr rfl) (pe_ix (ixL K) (pe_ix (ixL K) (pv 0) pe_int (fun _ _ => rfl)) (pe_ix (ixL K) (pv 0) pe_int (fun _ _ => rfl)) (fun _ _ => rfl)))
        (pss_one (ps_set (i := 3) nd rfl (by first | exact Or.inl rfl | exact Or.inr rfl) (pe_op op_add (pe_op op_mul pe_int (pe_callB call_abs (by rfl) T.b_abs (by decide +kernel) (pa_cons (pv 4) pa_nil))) (pe_callTy call_int1 (by rfl) T.b_int (by decide +kernel) (pa_cons (pe_cmpR op_lt (pv 4) pe_int (nomark _)) pa_nil))))))
        pss_nil)
      (pss_cons (ps_augS (pv 0) pe_int (getL K) pe_int ip_add set_list)
      (pss_cons (ps_if (pt_cmpR op_ge (pv 3) (pe_op op_mul pe_int (pe_op op_pow pe_int pe_int)) (nomark _))
        (pss_cons (ps_set (i := 2) nd rfl (by first | exact Or.inl rfl | exact Or.inr rfl) (pe_op op_modN (pe_callTy call_int1 (by rfl) T.b_int (by decide +kernel) (pa_cons (pe_op op_fdivN (pv 3) pe_int) pa_nil)) (pe_op op_shl pe_int pe_int)))
        (pss_cons (ps_asg (pe_op op_fdivN (pv 2) (pv 1)) (pg_sub (pv 0) pe_int set_list))
        (pss_one (ps_ret (pe_op op_modN (pe_callTy call_int1 (by rfl) T.b_int (by decide +kernel) (pa_cons (pv 2) pa_nil)) (pv 1))))))
        pss_nil)
      (pss_cons (ps_asg (pe_op op_modN (pe_callTy call_int1 (by rfl) T.b_int (by decide +kernel) (pa_cons (pe_op op_add (pe_op op_add (pe_op op_add (pe_op op_mul (pe_ix (ixL K) (pv 0) pe_int (fun _ _ => rfl)) pe_int) (pe_op op_mul (pe_op op_modN (pe_callTy call_int1 (by rfl) T.b_int (by decide +kernel) (pa_cons (pv 3) pa_nil)) pe_int) pe_int)) (pe_op op_mul (pe_ix (ixL K) (pv 0) pe_int (fun _ _ => rfl)) pe_int)) pe_int) pa_nil)) pe_int) (pg_sub (pv 0) pe_int set_list))
      (pss_one (ps_ret (pe_op op_modN (pe_callTy call_int1 (by rfl) T.b_int (by decide +kernel) (pa_cons (pe_op op_fdivN (pe_ix (ixL K) (pv 0) pe_int (fun _ _ => rfl)) pe_int) pa_nil)) (pv 1)))))))))), ?_⟩
    have m0 : m ≠ 0 ∧ m.natAbs < 1073741824 := ⟨by omega, by omega⟩
    -- if d[2] > 0
    refine ⟨_, rfl, d, _, 2, .int r, rfl, rfl, SqL.of hd, rfl, r, 0, rfl, rfl, _, rfl, ite2 (fun _ => ?_) (fun _ => ?_)⟩
    · refine ⟨_, rfl, d, _, 2, .int r, rfl, rfl, SqL.of hd, rfl, ?_⟩
      refine ⟨_, rfl, _, rfl, r, m, rfl, rfl, m0, _, rfl, d, _, 2, 2, rfl, rfl, hd, rfl, ?_⟩
      refine ⟨_, rfl, .inl ⟨r, rfl, _, rfl, r, m, rfl, rfl, m0.1, ?_⟩⟩
      exact fin r i (r.fdiv m) z _ hi upd_same (kpd _)
    · -- size = 0; if d[1] < len(d[0])
      refine ⟨fun σ' H' => H' = H ∧ ∃ (size : Int) (c4 : Option V), σ' = [some (.ref d), some (.int m), none, some (.int size), c4], ?_, ?_⟩
      · refine ⟨_, rfl, d, _, 1, .int i, rfl, rfl, SqL.of hd, rfl, _, rfl, d, _, 0, .ref c, rfl, rfl, SqL.of hd, rfl, c, _, rfl, .inl (SqL.of hc), i, _, rfl, rfl, _, rfl, ite2 (fun hlt => ?_) (fun _ => ⟨rfl, 0, none, rfl⟩)⟩
        have hlt' := of_decide_eq_true hlt
        rw [List.length_map] at hlt'
        have hix : (ns.map V.int)[i.toNat]? = some (.int (ns.getD i.toNat 0)) := by
          rw [List.getElem?_map, List.getD_eq_getElem?_getD, List.getElem?_eq_getElem (show i.toNat < ns.length by omega)]
          rfl
        have ei : (i.toNat : Int) = i := by omega
        have hat : atI (ns.map V.int) i = some (.int (ns.getD i.toNat 0)) := by
          have q := atI_nat hix
          rw [ei] at q
          exact q
        refine ⟨_, rfl, d, _, 0, .ref c, rfl, rfl, SqL.of hd, rfl, _, rfl, d, _, 1, .int i, rfl, rfl, SqL.of hd, rfl, c, _, i, _, rfl, rfl, SqL.of hc, hat, ?_⟩
        generalize ns.getD i.toNat 0 = cell
        refine ⟨_, rfl, cell, rfl, 2, _, rfl, rfl, .inl ⟨by decide, by decide⟩, _, rfl, cell, 0, rfl, rfl, .inr ⟨_, rfl, _, _, rfl, rfl, rfl, _, _, rfl⟩⟩
      · rintro σ' H' ⟨rfl, size, c4, rfl⟩
        -- d[1] += 1
        refine ⟨_, rfl, d, _, 1, .int i, rfl, rfl, SqL.of hd, rfl, by decide, i, 1, rfl, rfl, d, _, 1, 1, rfl, rfl, hd, rfl, ?_⟩
        have hd1 : upd H' d (.lst [.ref c, .int (i + 1), .int r, .int z]) d = some (.lst [.ref c, .int (i + 1), .int r, .int z]) := upd_same
        -- if size >= 2 * 10 ** 18
        refine ⟨_, rfl, 10, 18, rfl, rfl, ⟨by decide, by decide, by decide⟩, 2, _, rfl, rfl, .inl ⟨by decide, by decide⟩, size, _, rfl, rfl, _, rfl, ite2 (fun _ => ?_) (fun _ => ?_)⟩
        · refine ⟨_, rfl, size, 2, rfl, rfl, ⟨by decide, by decide⟩, .inl ⟨_, rfl, 1, 6000, rfl, rfl, ⟨by decide, by decide, by decide⟩, _, _, rfl, rfl, ?_, ?_⟩⟩
          · exact Int.ne_of_gt (by rw [Int.one_mul]; exact Int.pow_pos (by decide))
          · refine ⟨_, rfl, _, rfl, _, m, rfl, rfl, m0, _, rfl, d, _, 2, 2, rfl, rfl, hd1, rfl, ?_⟩
            refine ⟨_, rfl, .inl ⟨_, rfl, _, rfl, _, m, rfl, rfl, m0.1, ?_⟩⟩
            exact fin _ (i + 1) _ z _ (by omega) upd_same fun b u e n => by rw [upd_ne n, upd_ne n]; exact e
        · refine ⟨_, rfl, d, _, 3, .int z, rfl, rfl, SqL.of hd1, rfl, z, 48271, rfl, rfl, .inr ⟨by decide, by decide⟩, ?_⟩
          refine ⟨_, rfl, .inl ⟨size, rfl, size, 2147483629, rfl, rfl, (show (2147483629 : Int) ≠ 0 by decide), _, 16807, rfl, rfl, .inr ⟨by decide, by decide⟩, _, _, rfl, rfl, ?_⟩⟩
          refine ⟨_, rfl, d, _, 1, .int (i + 1), rfl, rfl, SqL.of hd1, rfl, _, 69621, rfl, rfl, .inr ⟨by decide, by decide⟩, _, _, rfl, rfl, _, 11, rfl, rfl, .inl ⟨_, rfl, _, 2147483647, rfl, rfl, (show (2147483647 : Int) ≠ 0 by decide), ?_⟩⟩
          refine ⟨_, rfl, d, _, 3, 3, rfl, rfl, hd1, rfl, ?_⟩
          refine ⟨_, rfl, d, _, 3, _, rfl, rfl, SqL.of upd_same, rfl, _, 16, rfl, rfl, ⟨by decide, by decide⟩, .inl ⟨_, rfl, _, rfl, _, m, rfl, rfl, m0.1, ?_⟩⟩
          exact fin _ (i + 1) r _ _ (by omega) upd_same fun b u e n => by rw [upd_ne n, upd_ne n]; exact e

end
end L2.KK
namespace L2.KK
open PySem PySem.Spec PyProof.Rows C8
def dd_BadDeed_init : He.DefD := ⟨("BadDeed", some "__init__"), "__init__", "BadDeed.__init__", defArgs s_BadDeed_init, defBody s_BadDeed_init, defScope s_BadDeed_init, [], []⟩
def dd_is_whole : He.DefD := ⟨("is_whole", none), "is_whole", "is_whole", defArgs s_is_whole, defBody s_is_whole, defScope s_is_whole, [], []⟩
def dd_times_price : He.DefD := ⟨("times_price", none), "times_price", "times_price", defArgs s_times_price, defBody s_times_price, defScope s_times_price, [], []⟩
def dd_lower : He.DefD := ⟨("lower", none), "lower", "lower", defArgs s_lower, defBody s_lower, defScope s_lower, [], []⟩
def dd_lowest : He.DefD := ⟨("lowest", none), "lowest", "lowest", defArgs s_lowest, defBody s_lowest, defScope s_lowest, [], []⟩
def dd_highest : He.DefD := ⟨("highest", none), "highest", "highest", defArgs s_highest, defBody s_highest, defScope s_highest, [], []⟩
def dd_chosen_number : He.DefD := ⟨("chosen_number", none), "chosen_number", "chosen_number", defArgs s_chosen_number, defBody s_chosen_number, defScope s_chosen_number, [], []⟩
def dd_Table_init : He.DefD := ⟨("Table", some "__init__"), "__init__", "Table.__init__", defArgs s_Table_init, defBody s_Table_init, defScope s_Table_init, [], []⟩
def dd_Table_eq : He.DefD := ⟨("Table", some "__eq__"), "__eq__", "Table.__eq__", defArgs s_Table_eq, defBody s_Table_eq, defScope s_Table_eq, [], []⟩
def dd_swapped : He.DefD := ⟨("swapped", none), "swapped", "swapped", defArgs s_swapped, defBody s_swapped, defScope s_swapped, [], []⟩
def dd_is_told : He.DefD := ⟨("is_told", none), "is_told", "is_told", defArgs s_is_told, defBody s_is_told, defScope s_is_told, [], []⟩
def dd_Lot_init : He.DefD := ⟨("Lot", some "__init__"), "__init__", "Lot.__init__", defArgs s_Lot_init, defBody s_Lot_init, defScope s_Lot_init, [], []⟩
def dd_Lot_eq : He.DefD := ⟨("Lot", some "__eq__"), "__eq__", "Lot.__eq__", defArgs s_Lot_eq, defBody s_Lot_eq, defScope s_Lot_eq, [], []⟩
def dd_is_use : He.DefD := ⟨("is_use", none), "is_use", "is_use", defArgs s_is_use, defBody s_is_use, defScope s_is_use, [], []⟩
def dd_Puzzle_init : He.DefD := ⟨("Puzzle", some "__init__"), "__init__", "Puzzle.__init__", defArgs s_Puzzle_init, defBody s_Puzzle_init, defScope s_Puzzle_init, [], []⟩
def dd_State_init : He.DefD := ⟨("State", some "__init__"), "__init__", "State.__init__", defArgs s_State_init, defBody s_State_init, defScope s_State_init, [], []⟩
def dd_State_numbers : He.DefD := ⟨("State", some "numbers"), "numbers", "State.numbers", defArgs s_State_numbers, defBody s_State_numbers, defScope s_State_numbers, [], []⟩
def dd_State_puzzle : He.DefD := ⟨("State", some "puzzle"), "puzzle", "State.puzzle", defArgs s_State_puzzle, defBody s_State_puzzle, defScope s_State_puzzle, [], []⟩
def dd_check_deed : He.DefD := ⟨("check_deed", none), "check_deed", "check_deed", defArgs s_check_deed, defBody s_check_deed, defScope s_check_deed, [], []⟩
def dd_named : He.DefD := ⟨("named", none), "named", "named", defArgs s_named, defBody s_named, defScope s_named, [], []⟩
def dd_added_use : He.DefD := ⟨("added_use", none), "added_use", "added_use", defArgs s_added_use, defBody s_added_use, defScope s_added_use, [], []⟩
def dd_dropped : He.DefD := ⟨("dropped", none), "dropped", "dropped", defArgs s_dropped, defBody s_dropped, defScope s_dropped, [], []⟩
def dd_with_times : He.DefD := ⟨("with_times", none), "with_times", "with_times", defArgs s_with_times, defBody s_with_times, defScope s_with_times, [], []⟩
def dd_with_table : He.DefD := ⟨("with_table", none), "with_table", "with_table", defArgs s_with_table, defBody s_with_table, defScope s_with_table, [], []⟩
def dd_done : He.DefD := ⟨("done", none), "done", "done", defArgs s_done, defBody s_done, defScope s_done, [], []⟩
def dd_Ledger_init : He.DefD := ⟨("Ledger", some "__init__"), "__init__", "Ledger.__init__", defArgs s_Ledger_init, defBody s_Ledger_init, defScope s_Ledger_init, [], []⟩
def dd_Ledger_do : He.DefD := ⟨("Ledger", some "do"), "do", "Ledger.do", defArgs s_Ledger_do, defBody s_Ledger_do, defScope s_Ledger_do, [], []⟩
def dd_Ledger_go : He.DefD := ⟨("Ledger", some "go"), "go", "Ledger.go", defArgs s_Ledger_go, defBody s_Ledger_go, defScope s_Ledger_go, [], []⟩
def dd_Ledger_undo : He.DefD := ⟨("Ledger", some "undo"), "undo", "Ledger.undo", defArgs s_Ledger_undo, defBody s_Ledger_undo, defScope s_Ledger_undo, [], []⟩
def dd_Ledger_redo : He.DefD := ⟨("Ledger", some "redo"), "redo", "Ledger.redo", defArgs s_Ledger_redo, defBody s_Ledger_redo, defScope s_Ledger_redo, [], []⟩
def dd_Ledger_puzzle : He.DefD := ⟨("Ledger", some "puzzle"), "puzzle", "Ledger.puzzle", defArgs s_Ledger_puzzle, defBody s_Ledger_puzzle, defScope s_Ledger_puzzle, [], []⟩
def dd_Ledger_numbers : He.DefD := ⟨("Ledger", some "numbers"), "numbers", "Ledger.numbers", defArgs s_Ledger_numbers, defBody s_Ledger_numbers, defScope s_Ledger_numbers, [], []⟩
def dd_Ledger_twin : He.DefD := ⟨("Ledger", some "twin"), "twin", "Ledger.twin", defArgs s_Ledger_twin, defBody s_Ledger_twin, defScope s_Ledger_twin, [], []⟩
def dd_law_begin : He.DefD := ⟨("_law_begin", none), "_law_begin", "_law_begin", defArgs s_law_begin, defBody s_law_begin, defScope s_law_begin, [], []⟩
def dd_law_draw : He.DefD := ⟨("_law_draw", none), "_law_draw", "_law_draw", defArgs s_law_draw, defBody s_law_draw, defScope s_law_draw, [], []⟩
def dd_law_pick : He.DefD := ⟨("_law_pick", none), "_law_pick", "_law_pick", defArgs s_law_pick, defBody s_law_pick, defScope s_law_pick, [], []⟩
def dd_law_rare : He.DefD := ⟨("_law_rare", none), "_law_rare", "_law_rare", defArgs s_law_rare, defBody s_law_rare, defScope s_law_rare, [], []⟩
def dd_law_ones : He.DefD := ⟨("_law_ones", none), "_law_ones", "_law_ones", defArgs s_law_ones, defBody s_law_ones, defScope s_law_ones, [], []⟩
def dd_law_sum : He.DefD := ⟨("_law_sum", none), "_law_sum", "_law_sum", defArgs s_law_sum, defBody s_law_sum, defScope s_law_sum, [], []⟩
def dd_law_low : He.DefD := ⟨("_law_low", none), "_law_low", "_law_low", defArgs s_law_low, defBody s_law_low, defScope s_law_low, [], []⟩
def dd_law_times : He.DefD := ⟨("_law_times", none), "_law_times", "_law_times", defArgs s_law_times, defBody s_law_times, defScope s_law_times, [], []⟩
def dd_law_above : He.DefD := ⟨("_law_above", none), "_law_above", "_law_above", defArgs s_law_above, defBody s_law_above, defScope s_law_above, [], []⟩
def dd_law_most : He.DefD := ⟨("_law_most", none), "_law_most", "_law_most", defArgs s_law_most, defBody s_law_most, defScope s_law_most, [], []⟩
def dd_law_kinds : He.DefD := ⟨("_law_kinds", none), "_law_kinds", "_law_kinds", defArgs s_law_kinds, defBody s_law_kinds, defScope s_law_kinds, [], []⟩
def dd_law_breach_one : He.DefD := ⟨("_law_breach_one", none), "_law_breach_one", "_law_breach_one", defArgs s_law_breach_one, defBody s_law_breach_one, defScope s_law_breach_one, [], []⟩
def dd_law_breach_two : He.DefD := ⟨("_law_breach_two", none), "_law_breach_two", "_law_breach_two", defArgs s_law_breach_two, defBody s_law_breach_two, defScope s_law_breach_two, [], []⟩
def dd_law_breach_three : He.DefD := ⟨("_law_breach_three", none), "_law_breach_three", "_law_breach_three", defArgs s_law_breach_three, defBody s_law_breach_three, defScope s_law_breach_three, [], []⟩
def dd_law_keeps : He.DefD := ⟨("_law_keeps", none), "_law_keeps", "_law_keeps", defArgs s_law_keeps, defBody s_law_keeps, defScope s_law_keeps, [], []⟩
def dd_law_kept : He.DefD := ⟨("_law_kept", none), "_law_kept", "_law_kept", defArgs s_law_kept, defBody s_law_kept, defScope s_law_kept, [], []⟩
def dd_law_first_kind : He.DefD := ⟨("_law_first_kind", none), "_law_first_kind", "_law_first_kind", defArgs s_law_first_kind, defBody s_law_first_kind, defScope s_law_first_kind, [], []⟩
def dd_law_cost : He.DefD := ⟨("_law_cost", none), "_law_cost", "_law_cost", defArgs s_law_cost, defBody s_law_cost, defScope s_law_cost, [], []⟩
def dd_law_opened : He.DefD := ⟨("_law_opened", none), "_law_opened", "_law_opened", defArgs s_law_opened, defBody s_law_opened, defScope s_law_opened, [], []⟩
def dd_law_loose : He.DefD := ⟨("_law_loose", none), "_law_loose", "_law_loose", defArgs s_law_loose, defBody s_law_loose, defScope s_law_loose, [], []⟩
def dd_law_crisp : He.DefD := ⟨("_law_crisp", none), "_law_crisp", "_law_crisp", defArgs s_law_crisp, defBody s_law_crisp, defScope s_law_crisp, [], []⟩
def dd_law_turned : He.DefD := ⟨("_law_turned", none), "_law_turned", "_law_turned", defArgs s_law_turned, defBody s_law_turned, defScope s_law_turned, [], []⟩
def dd_law_zero : He.DefD := ⟨("_law_zero", none), "_law_zero", "_law_zero", defArgs s_law_zero, defBody s_law_zero, defScope s_law_zero, [], []⟩
def dd_law_least : He.DefD := ⟨("_law_least", none), "_law_least", "_law_least", defArgs s_law_least, defBody s_law_least, defScope s_law_least, [], []⟩
def dd_law_add_bends : He.DefD := ⟨("_law_add_bends", none), "_law_add_bends", "_law_add_bends", defArgs s_law_add_bends, defBody s_law_add_bends, defScope s_law_add_bends, [], []⟩
def dd_law_cut : He.DefD := ⟨("_law_cut", none), "_law_cut", "_law_cut", defArgs s_law_cut, defBody s_law_cut, defScope s_law_cut, [], []⟩
def dd_law_twos : He.DefD := ⟨("_law_twos", none), "_law_twos", "_law_twos", defArgs s_law_twos, defBody s_law_twos, defScope s_law_twos, [], []⟩
def dd_law_sums : He.DefD := ⟨("_law_sums", none), "_law_sums", "_law_sums", defArgs s_law_sums, defBody s_law_sums, defScope s_law_sums, [], []⟩
def dd_law_ties : He.DefD := ⟨("_law_ties", none), "_law_ties", "_law_ties", defArgs s_law_ties, defBody s_law_ties, defScope s_law_ties, [], []⟩
def dd_law_kind_table : He.DefD := ⟨("_law_kind_table", none), "_law_kind_table", "_law_kind_table", defArgs s_law_kind_table, defBody s_law_kind_table, defScope s_law_kind_table, [], []⟩
def dd_law_kind_lot : He.DefD := ⟨("_law_kind_lot", none), "_law_kind_lot", "_law_kind_lot", defArgs s_law_kind_lot, defBody s_law_kind_lot, defScope s_law_kind_lot, [], []⟩
def dd_law_sure_hard : He.DefD := ⟨("_law_sure_hard", none), "_law_sure_hard", "_law_sure_hard", defArgs s_law_sure_hard, defBody s_law_sure_hard, defScope s_law_sure_hard, [], []⟩
def dd_law_hard_lot : He.DefD := ⟨("_law_hard_lot", none), "_law_hard_lot", "_law_hard_lot", defArgs s_law_hard_lot, defBody s_law_hard_lot, defScope s_law_hard_lot, [], []⟩
def dd_law_any_lot : He.DefD := ⟨("_law_any_lot", none), "_law_any_lot", "_law_any_lot", defArgs s_law_any_lot, defBody s_law_any_lot, defScope s_law_any_lot, [], []⟩
def dd_law_book_new : He.DefD := ⟨("_law_book_new", none), "_law_book_new", "_law_book_new", defArgs s_law_book_new, defBody s_law_book_new, defScope s_law_book_new, [], []⟩
def dd_law_book_copy : He.DefD := ⟨("_law_book_copy", none), "_law_book_copy", "_law_book_copy", defArgs s_law_book_copy, defBody s_law_book_copy, defScope s_law_book_copy, [], []⟩
def dd_law_book_uses : He.DefD := ⟨("_law_book_uses", none), "_law_book_uses", "_law_book_uses", defArgs s_law_book_uses, defBody s_law_book_uses, defScope s_law_book_uses, [], []⟩
def dd_law_book_fits : He.DefD := ⟨("_law_book_fits", none), "_law_book_fits", "_law_book_fits", defArgs s_law_book_fits, defBody s_law_book_fits, defScope s_law_book_fits, [], []⟩
def dd_law_book_deed : He.DefD := ⟨("_law_book_deed", none), "_law_book_deed", "_law_book_deed", defArgs s_law_book_deed, defBody s_law_book_deed, defScope s_law_book_deed, [], []⟩
def dd_law_book_done : He.DefD := ⟨("_law_book_done", none), "_law_book_done", "_law_book_done", defArgs s_law_book_done, defBody s_law_book_done, defScope s_law_book_done, [], []⟩
def dd_law_try : He.DefD := ⟨("_law_try", none), "_law_try", "_law_try", defArgs s_law_try, defBody s_law_try, defScope s_law_try, [], []⟩
def dd_law_real : He.DefD := ⟨("_law_real", none), "_law_real", "_law_real", defArgs s_law_real, defBody s_law_real, defScope s_law_real, [], []⟩
def dd_law_stands : He.DefD := ⟨("_law_stands", none), "_law_stands", "_law_stands", defArgs s_law_stands, defBody s_law_stands, defScope s_law_stands, [], []⟩
def dd_law_step : He.DefD := ⟨("_law_step", none), "_law_step", "_law_step", defArgs s_law_step, defBody s_law_step, defScope s_law_step, [], []⟩
def dd_law_back_and_forth : He.DefD := ⟨("_law_back_and_forth", none), "_law_back_and_forth", "_law_back_and_forth", defArgs s_law_back_and_forth, defBody s_law_back_and_forth, defScope s_law_back_and_forth, [], []⟩
def dd_law : He.DefD := ⟨("law", none), "law", "law", defArgs s_law, defBody s_law, defScope s_law, [], []⟩
def fnL : List He.DefD := [dd_BadDeed_init, dd_is_whole, dd_times_price, dd_lower, dd_lowest, dd_highest, dd_chosen_number, dd_Table_init, dd_Table_eq, dd_swapped, dd_is_told, dd_Lot_init, dd_Lot_eq, dd_is_use, dd_Puzzle_init, dd_State_init, dd_State_numbers, dd_State_puzzle, dd_check_deed, dd_named, dd_added_use, dd_dropped, dd_with_times, dd_with_table, dd_done, dd_Ledger_init, dd_Ledger_do, dd_Ledger_go, dd_Ledger_undo, dd_Ledger_redo, dd_Ledger_puzzle, dd_Ledger_numbers, dd_Ledger_twin, dd_law_begin, dd_law_draw, dd_law_pick, dd_law_rare, dd_law_ones, dd_law_sum, dd_law_low] ++ [dd_law_times, dd_law_above, dd_law_most, dd_law_kinds, dd_law_breach_one, dd_law_breach_two, dd_law_breach_three, dd_law_keeps, dd_law_kept, dd_law_first_kind, dd_law_cost, dd_law_opened, dd_law_loose, dd_law_crisp, dd_law_turned, dd_law_zero, dd_law_least, dd_law_add_bends, dd_law_cut, dd_law_twos, dd_law_sums, dd_law_ties, dd_law_kind_table, dd_law_kind_lot, dd_law_sure_hard, dd_law_hard_lot, dd_law_any_lot, dd_law_book_new, dd_law_book_copy, dd_law_book_uses, dd_law_book_fits, dd_law_book_deed, dd_law_book_done, dd_law_try, dd_law_real, dd_law_stands, dd_law_step, dd_law_back_and_forth, dd_law]
def faL : List He.Fa := [.glo "is_whole", .glo "times_price", .glo "lower", .glo "lowest", .glo "highest", .glo "chosen_number", .glo "swapped", .glo "is_told", .glo "is_use", .glo "check_deed", .glo "named", .glo "added_use", .glo "dropped", .glo "with_times", .glo "with_table", .glo "done", .glo "_law_begin", .glo "_law_draw", .glo "_law_pick", .glo "_law_rare", .glo "_law_ones", .glo "_law_sum", .glo "_law_low", .glo "_law_times", .glo "_law_above", .glo "_law_most", .glo "_law_kinds", .glo "_law_breach_one", .glo "_law_breach_two", .glo "_law_breach_three", .glo "_law_keeps", .glo "_law_kept", .glo "_law_first_kind", .glo "_law_cost", .glo "_law_opened", .glo "_law_loose", .glo "_law_crisp", .glo "_law_turned", .glo "_law_zero", .glo "_law_least"] ++ [.glo "_law_add_bends", .glo "_law_cut", .glo "_law_twos", .glo "_law_sums", .glo "_law_ties", .glo "_law_kind_table", .glo "_law_kind_lot", .glo "_law_sure_hard", .glo "_law_hard_lot", .glo "_law_any_lot", .glo "_law_book_new", .glo "_law_book_copy", .glo "_law_book_uses", .glo "_law_book_fits", .glo "_law_book_deed", .glo "_law_book_done", .glo "_law_try", .glo "_law_real", .glo "_law_stands", .glo "_law_step", .glo "_law_back_and_forth", .glo "law", .free "NotImplemented", .free "ValueError", .free "abs", .free "all", .free "bool", .free "int", .free "isinstance", .free "len", .free "list", .free "max", .free "property", .free "range", .free "reversed", .free "tuple", .free "zip", .int "PLACES" 4, .int "GREATEST" 100000000000000000000000000000000000000000000000000, .int "TABLES" 16] ++ [.int "DEAREST" 1000, .int "NAMES" 400, .int "USES" 20000, .int "TIMES" 10000000000000000000000000000000000000000, .int "MOST_USES" 200, .glo "Table", .mkr "Table", .meth "Table" "__eq__", .noat "Table" "places", .noat "Table" "prices", .noat "Table" "least", .noat "Table" "most", .glo "Lot", .mkr "Lot", .meth "Lot" "__eq__", .noat "Lot" "tables", .noat "Lot" "swaps", .glo "Puzzle", .mkr "Puzzle", .noat "Puzzle" "lot", .noat "Puzzle" "many", .noat "Puzzle" "uses", .glo "State", .mkr "State", .meth "State" "numbers", .meth "State" "puzzle", .noat "State" "lot", .noat "State" "many", .noat "State" "rows", .noat "State" "ahead", .glo "Ledger", .mkr "Ledger", .meth "Ledger" "do", .meth "Ledger" "go", .meth "Ledger" "undo", .meth "Ledger" "redo", .meth "Ledger" "twin", .meth "Ledger" "puzzle", .meth "Ledger" "numbers", .noat "Ledger" "past"] ++ [.noat "Ledger" "state", .noat "Ledger" "later", .noat "Ledger" "told", .noat "Ledger" "reply", .noat "Ledger" "verdicts_made", .noat "Ledger" "answers_made", .glo "DEEDS", .glo "BadDeed", .noat "BadDeed" "deed", .glo "PricedError", .exm "BadDeed" "BadDeed" true]
def myL : List (PySem.W.Frag → Bool) := [insB "Table", insB "Lot", insB "Puzzle", insB "State", insB "Ledger", isiB "Table" "Table" true, isiB "Lot" "Lot" true, isiB "BadDeed" "PricedError" true, tyiB "NoneType" "Lot" false, tyiB "int" "Lot" false, tyiB "tuple" "Lot" false, tyiB "str" "Lot" false, (fun K => He.tupB K "DEEDS" [.str "name", .str "add", .str "drop", .str "times", .str "table"]), ownB "BadDeed", excB "BadDeed", basB "PricedError"]
abbrev RR : PySem.W.OpenRow := PySem.W.OpenLaw.row PySem.Challenge.rw_pricedrules_k86_ledger_undo_redo_twin
abbrev hkD : PySem.W.Hook := hookF 4 faL fnL myL
def obD (s : PySem.W.SharedT) : AlK := obsF 4 faL fnL myL (HandSHeadRun.getT s)
theorem obD_eq (s : PySem.W.SharedT) : obD s = hkD.obs s.abs := obsF_eq (HandSHeadRun.getT_eq s)
def looseL : List Str := ((["_wall", "PricedError", "BadTable", "BadRow", "BadLot", "BadPuzzle", "BadFilling", "BadDeed", "is_whole", "is_bits", "added", "times_price", "summed", "lower", "lowest", "highest", "row_number", "chosen_number", "PLACES", "GREATEST"] : List Str) ++ (["Table", "swapped", "TABLES", "DEAREST", "is_told", "Lot", "NAMES", "USES", "TIMES", "is_use", "Puzzle", "MOST_USES", "DEEDS", "State", "check_deed", "named", "added_use", "dropped", "with_times", "with_table"] : List Str) ++ (["done", "Ledger", "_law_begin", "_law_draw", "_law_pick", "_law_rare", "_law_ones", "_law_sum", "_law_low", "_law_times", "_law_above", "_law_most", "_law_kinds", "_law_breach_one", "_law_breach_two", "_law_breach_three", "_law_keeps", "_law_kept", "_law_first_kind", "_law_cost"] : List Str) ++ (["_law_opened", "_law_loose", "_law_crisp", "_law_turned", "_law_zero", "_law_least", "_law_add_bends", "_law_cut", "_law_twos", "_law_sums", "_law_ties", "_law_kind_table", "_law_kind_lot", "_law_sure_hard", "_law_hard_lot", "_law_any_lot", "_law_book_new", "_law_book_copy", "_law_book_uses", "_law_book_fits"] : List Str) ++ (["_law_book_deed", "_law_book_done", "_law_try", "_law_real", "_law_stands", "_law_step", "_law_back_and_forth"] : List Str))
theorem runD (w : World) : HandSHeadRun.RunEq RR (PySem.W.view RR.prog [95]) hkD obD 12000 looseL w := by
  intro os
  kernel_rfl
end L2.KK
namespace L2.KK
open PySem PySem.Spec PyProof.Rows C8
theorem sc_law_rare : FnScope ["d", "many"] ["d", "many"] (defScope s_law_rare) := ⟨rfl, rfl, rfl, by decide +kernel, rfl, by decide +kernel, by decide +kernel⟩
theorem sc_law_pick : FnScope ["d", "row"] ["d", "row"] (defScope s_law_pick) := ⟨rfl, rfl, rfl, by decide +kernel, rfl, by decide +kernel, by decide +kernel⟩
section
variable {P : Program} {w : World} {K : PySem.W.Frag} {mg : Str → Option Value} {base : Heap}
abbrev nL (xs : List Nat) : List V := xs.map nV
theorem nL_get {xs : List Nat} {i : Nat} (h : i < xs.length) : (nL xs)[i]? = some (nV xs[i]) := by
  rw [List.getElem?_map, List.getElem?_eq_getElem h]
  rfl
/-! ### drawn things -/
def spRare : Sp := fun vs H Q _ => ∃ (d c : Addr) (m : Int), vs = [.ref d, .int m] ∧ Dr H d c ∧ 1 ≤ m ∧ m < 1073741824 ∧ ∀ (b : Bool) H', Dr H' d c → Kp d H H' → Q (.bl b) H'
def spPick : Sp := fun vs H Q _ => ∃ (d c a : Addr) (xs : List V), vs = [.ref d, .ref a] ∧ Dr H d c ∧ H a = some (.lst xs) ∧ a ≠ d ∧ a ≠ c ∧ 0 < xs.length ∧ xs.length ≤ 100000 ∧
  ∀ (i : Nat) (v : V) H', xs[i]? = some v → Dr H' d c → Kp d H H' → Q v H'
def spPop : Sp := fun vs H Q _ => ∃ (d c a : Addr) (xs : List V), vs = [.ref d, .ref a] ∧ Dr H d c ∧ H a = some (.lst xs) ∧ a ≠ d ∧ a ≠ c ∧ 0 < xs.length ∧ xs.length ≤ 100000 ∧
  ∀ (i : Nat) (v : V) H', xs[i]? = some v → Dr H' d c → H' a = some (.lst (xs.eraseIdx i)) → (∀ b o, H b = some o → b ≠ d → b ≠ a → H' b = some o) → Q v H'
def spShuf (K : PySem.W.Frag) : Sp := fun vs H Q _ => ∃ (d c a : Addr) (xs : List V), vs = [.ref d, .ref a] ∧ Dr H d c ∧ SqL K H a xs ∧ xs.length ≤ 100000 ∧
  ∀ (p : Addr) (ys : List V) H', ys.Perm xs → H p = none → H' p = some (.lst ys) → Dr H' d c → Kp d H H' → Q (.ref p) H'
theorem c_rare (D : FnAt K mg "_law_rare" s_law_rare) (T : Bl mg) (c_law_draw : Cal P w K mg base 1 "_law_draw" spDraw []) : Cal P w K mg base 2 "_law_rare" spRare [] := by
  refine calOf D sc_law_rare (fun _ _ _ _ _ _ us hl => match us, hl with | [_, _], _ => rfl) (fun vs H Q E h => ?_) (fun f cdv A outer s H vs Q E hr h => ?_)
  · obtain ⟨d, c, m, rfl, _⟩ := h
    rfl
  · obtain ⟨d, c, m, rfl, D, h1, h2, k⟩ := h
    refine ⟨_, (pss_one (ps_ret (pe_cmpR op_eq (pe_c c_law_draw hr (by decide) (by rfl) (pa_cons (pv 0) (pa_cons (pv 1) pa_nil))) (pe_op op_fdivN (pv 1) pe_int) (nomark _)))), ?_⟩
    refine ⟨_, rfl, _, rfl, d, c, m, rfl, D, h1, h2, fun n H' _ D' kp => ?_⟩
    exact ⟨_, rfl, m, 2, rfl, rfl, ⟨by decide, by decide⟩, rfl, k _ H' D' kp⟩
theorem c_pick (D : FnAt K mg "_law_pick" s_law_pick) (T : Bl mg) (c_law_draw : Cal P w K mg base 1 "_law_draw" spDraw []) : Cal P w K mg base 2 "_law_pick" spPick [] := by
  refine calOf D sc_law_pick (fun _ _ _ _ _ _ us hl => match us, hl with | [_, _], _ => rfl) (fun vs H Q E h => ?_) (fun f cdv A outer s H vs Q E hr h => ?_)
  · obtain ⟨d, c, a, xs, rfl, _⟩ := h
    rfl
  · obtain ⟨d, c, a, xs, rfl, D, ha, ne, nc, h0, hz, k⟩ := h
    refine ⟨_, (pss_one (ps_ret (pe_ix (ixL K) (pv 1) (pe_c c_law_draw hr (by decide) (by rfl) (pa_cons (pv 0) (pa_cons (pe_callB (crLen K) (by rfl) T.b_len (by decide +kernel) (pa_cons (pv 1) pa_nil)) pa_nil))) (fun _ _ => rfl)))), ?_⟩
    refine ⟨_, rfl, _, rfl, _, rfl, a, xs, rfl, .inl (SqL.of ha), d, c, _, rfl, D, by omega, by omega, fun n H' hn D' kp => ?_⟩
    have hn' : n < xs.length := by omega
    exact ⟨a, xs, _, xs[n], rfl, rfl, SqL.of (kp _ _ ha ne), atI_nat (List.getElem?_eq_getElem hn'), k n _ H' (List.getElem?_eq_getElem hn') D' kp⟩
theorem erase_perm {α : Type} : ∀ (l : List α) (i : Nat) (h : i < l.length), (l[i] :: l.eraseIdx i).Perm l
  | [], _, h => absurd h (Nat.not_lt_zero _)
  | _ :: _, 0, _ => List.Perm.refl _
  | a :: l, i + 1, h => by
    show (l[i]'(Nat.lt_of_succ_lt_succ h) :: a :: l.eraseIdx i).Perm (a :: l)
    exact (List.Perm.swap a _ _).trans ((erase_perm l i (Nat.lt_of_succ_lt_succ h)).cons a)
theorem seqIx {n k : Nat} (h : k < n) : seqIndex? (k : Int) n = some k := by
  unfold seqIndex?
  have h0 : ¬ (k : Int) < 0 := by omega
  simp [h0]
  omega
end
end L2.KK
namespace L2.KK
open PySem PySem.Spec PyProof.Rows C8
theorem sc_law_ones : FnScope ["mask", "many"] ["mask"] (defScope s_law_ones) := ⟨rfl, rfl, rfl, by decide +kernel, rfl, by decide +kernel, by decide +kernel⟩
section
variable {P : Program} {w : World} {K : PySem.W.Frag} {mg : Str → Option Value} {base : Heap}
/-! ### bits -/
def spOnes : Sp := fun vs H Q _ => ∃ m : Nat, vs = [nV m] ∧ Q (nV (MK.pc m)) H
theorem clear_step {k c n : Nat} (h : MK.pc k + c = n) (h0 : 0 < k) : MK.pc (k &&& (k - 1)) + (c + 1) = n ∧ k &&& (k - 1) < k := by
  obtain ⟨a, b⟩ := MK.clear_low k k (Nat.le_refl _) h0
  exact ⟨by omega, b⟩
theorem c_ones (D : FnAt K mg "_law_ones" s_law_ones) (T : Bl mg) : Cal P w K mg base 1 "_law_ones" spOnes [] := by
  refine calOf D sc_law_ones (fun _ _ _ _ _ _ us hl => match us, hl with | [_], _ => rfl) (fun vs H Q E h => ?_) (fun f cdv A outer s H vs Q E hr h => ?_)
  · obtain ⟨m, rfl, _⟩ := h
    rfl
  · obtain ⟨m, rfl, k⟩ := h
    have nd := sc_law_ones.nd
    refine ⟨_, (pss_cons (ps_set (i := 1) nd rfl (by first | exact Or.inl rfl | exact Or.inr rfl) pe_int)
      (pss_cons (ps_while PassesOwn.never (pt_cmpR op_gt (pv 0) pe_int (nomark _))
        (pss_cons (ps_set (i := 0) nd rfl (by first | exact Or.inl rfl | exact Or.inr rfl) (pe_op op_andN (pv 0) (pe_op op_subNN (pv 0) pe_int)))
        (pss_one (ps_aug (i := 1) nd rfl (by first | exact Or.inl rfl | exact Or.inr rfl) pe_int ip_add))))
      (pss_one (ps_ret (pv 1))))), ?_⟩
    refine ⟨fun n σ' H' => ∃ c, σ' = [some (nV n), some (nV c)] ∧ H' = H ∧ MK.pc n + c = MK.pc m, ⟨m, 0, rfl, rfl, rfl⟩, ?_⟩
    rintro n σ' H' ⟨c, rfl, rfl, e⟩
    refine ⟨_, rfl, _, 0, rfl, rfl, _, rfl, ite2 (fun h => ?_) (fun h => ?_)⟩
    · have h0 : 0 < n := by
        have := of_decide_eq_true h
        omega
      obtain ⟨e1, e2⟩ := clear_step e h0
      refine ⟨fun σ' H'' => ∃ c, σ' = [some (nV (n &&& (n - 1))), some (nV c)] ∧ H'' = H' ∧ MK.pc (n &&& (n - 1)) + c = MK.pc m, fun σ' H'' ⟨c', a1, a2, a3⟩ => ⟨_, e2, c', a1, a2, a3⟩, ?_⟩
      refine ⟨_, rfl, _, rfl, n, 1, rfl, rfl, h0, n, n - 1, rfl, rfl, ?_⟩
      exact ⟨_, rfl, _, 1, rfl, rfl, c + 1, rfl, rfl, e1⟩
    · have h0 : n = 0 := by
        have := of_decide_eq_false (by simpa using h : decide ((0 : Int) < (n : Int)) = false)
        omega
      subst h0
      rw [MK.pc_zero, Nat.zero_add] at e
      rw [← e] at k
      exact ⟨_, rfl, k⟩
/-- a new list comes back, all that stood stands -/
def NewL (H : Hp) (Q : VK) (xs : List V) : Prop := ∀ p H', Same H H' → H p = none → H' p = some (.lst xs) → Q (.ref p) H'
def spBits : Sp := fun vs H Q _ => ∃ m n : Nat, vs = [nV m, nV n] ∧ n ≤ 100000 ∧ NewL H Q (nL (MK.bitsOf m n))
theorem shr_bit (m i : Nat) : (((m >>> i &&& 1 : Nat) : Int) != 0) = m.testBit i := by
  rw [Nat.testBit_eq_decide_div_mod_eq, Nat.and_one_is_mod, Nat.shiftRight_eq_div_pow]
  have : m / 2 ^ i % 2 = 0 ∨ m / 2 ^ i % 2 = 1 := by omega
  rcases this with e | e <;> rw [e] <;> rfl
theorem lt_line {n : Nat} (h : n ≤ 16777216) : n ≤ sizeLine := by rw [sizeLine_eq]; exact h
end
end L2.KK
namespace L2.KK
open PySem PySem.Spec PyProof.Rows C8

section
variable {P : Program} {w : World} {K : PySem.W.Frag} {mg : Str → Option Value} {base : Heap}
theorem nL_getD {ms : List Nat} {i : Nat} (h : i < (nL ms).length) : (nL ms).getD i .non = nV (ms.getD i 0) := by
  rw [List.length_map] at h
  rw [List.getD_eq_getElem?_getD, List.getD_eq_getElem?_getD, nL_get h, List.getElem?_eq_getElem h]
  rfl
theorem paired_map_of {α β γ : Type} {F : α → β → Prop} {f : α → γ} {g : β → γ} : ∀ {a : List α} {b : List β}, Paired F a b → (∀ x y, F x y → f x = g y) → a.map f = b.map g
  | _, _, .nil, _ => rfl
  | _, _, .cons r t, h => by rw [List.map_cons, List.map_cons, h _ _ r, paired_map_of t h]
theorem nL_snoc (g : List Nat) (m : Nat) : nL (g ++ [m]) = nL g ++ [nV m] := by
  show (g ++ [m]).map nV = _
  rw [List.map_append]
  rfl
/-! ### least masks -/
def pairOf (H : Hp) (x : V) : Int × Int := match x with
  | .ref t => (match H t with
    | some (.tup [.int a, .int b]) => (a, b)
    | _ => (0, 0))
  | _ => (0, 0)
theorem pairOf_eq {H : Hp} {t : Addr} {a b : Int} (h : H t = some (.tup [.int a, .int b])) : pairOf H (.ref t) = (a, b) := by
  show (match H t with
    | some (.tup [.int a, .int b]) => (a, b)
    | _ => (0, 0)) = (a, b)
  rw [h]
def spMin (K : PySem.W.Frag) : Sp := fun vs H Q _ => ∃ (a : Addr) (ms : List Nat), vs = [.ref a] ∧ SqL K H a (nL ms) ∧ ms.length ≤ 10000000 ∧ ∀ G, MK.Least G (· ∈ ms) → NewL H Q (nL G)
/-- is one of the kept ones within m? -/
theorem any_list {g : List Nat} {m : Nat} {bs : List V} (h : bs = (List.range g.length).map fun j => V.bl (decide (((g.getD j 0 &&& m : Nat) : Int) = ((g.getD j 0 : Nat) : Int)))) :
    ∃ cs : List Bool, bs = cs.map V.bl ∧ cs.any id = g.any (fun k => k &&& m == k) := by
  refine ⟨g.map fun k => k &&& m == k, ?_, by rw [List.any_map]; rfl⟩
  rw [h, List.map_map]
  have e : (List.range g.length).map (fun j => g.getD j 0) = g := map_range_get g 0
  have q := congrArg (List.map fun k : Nat => V.bl (k &&& m == k)) e
  rw [List.map_map] at q
  rw [show (V.bl ∘ fun k : Nat => k &&& m == k) = fun k : Nat => V.bl (k &&& m == k) from rfl, ← q]
  refine List.map_congr_left fun j _ => ?_
  show V.bl _ = V.bl _
  congr 1
  rw [Bool.eq_iff_iff, decide_eq_true_iff, beq_iff_eq]
  exact Int.ofNat_inj
end
end L2.KK
namespace L2.KK
open PySem PySem.Spec PyProof.Rows C8

/-! ### lists of whole numbers as data -/
theorem dpAll_ints {K : PySem.W.Frag} {H : Hp} : ∀ ns : List Int, DpAll K H (ns.map V.int) (ns.map PyData.int)
  | [] => .nil
  | n :: ns => .cons (.int n) (dpAll_ints ns)
theorem shaped_intsL (ns : List Int) : SeqAt.shaped (.list (ns.map PyData.int)) = true := by
  have h := shaped_ints ns
  unfold SeqAt.shaped at h ⊢
  exact h
theorem eqd_ints {K : PySem.W.Frag} {H : Hp} {a b : Addr} {xs ys : List Int} {Q : VK} (ha : SqL K H a (xs.map V.int)) (hb : SqL K H b (ys.map V.int)) (q : Q (.bl (decide (xs = ys))) H) : rEqD K (.ref a) (.ref b) H Q := by
  refine ⟨_, _, .lst ha (dpAll_ints xs), .lst hb (dpAll_ints ys), shaped_intsL xs, shaped_intsL ys, ?_⟩
  have e : PyData.eqv (.list (xs.map PyData.int)) (.list (ys.map PyData.int)) = decide (xs = ys) := by
    show PyData.eqvAll _ _ = _
    exact PySem.W.ked_eqvAll xs ys
  rw [e]
  exact q
theorem ned_ints {K : PySem.W.Frag} {H : Hp} {a b : Addr} {xs ys : List Int} {Q : VK} (ha : SqL K H a (xs.map V.int)) (hb : SqL K H b (ys.map V.int)) (q : Q (.bl (!decide (xs = ys))) H) : rNeD K (.ref a) (.ref b) H Q := by
  refine ⟨_, _, .lst ha (dpAll_ints xs), .lst hb (dpAll_ints ys), shaped_intsL xs, shaped_intsL ys, ?_⟩
  have e : PyData.eqv (.list (xs.map PyData.int)) (.list (ys.map PyData.int)) = decide (xs = ys) := by
    show PyData.eqvAll _ _ = _
    exact PySem.W.ked_eqvAll xs ys
  rw [e]
  exact q
abbrev iL (xs : List Nat) : List Int := xs.map fun n : Nat => (n : Int)
theorem nL_eq (xs : List Nat) : nL xs = (iL xs).map V.int := by
  show xs.map nV = (xs.map fun n : Nat => (n : Int)).map V.int
  rw [List.map_map]
  rfl
theorem iL_inj {xs ys : List Nat} (h : iL xs = iL ys) : xs = ys := by
  have : (iL xs).map Int.toNat = (iL ys).map Int.toNat := by rw [h]
  rw [List.map_map, List.map_map, show (Int.toNat ∘ fun n : Nat => (n : Int)) = id from funext fun n => Int.toNat_natCast n, List.map_id, List.map_id] at this
  exact this
/-- two orders of the same numbers, both rising, are one -/
theorem rising_one : ∀ {xs ys : List Int}, xs.Perm ys → xs.Pairwise (· ≤ ·) → ys.Pairwise (· ≤ ·) → xs = ys
  | [], ys, p, _, _ => (List.Perm.eq_nil p.symm).symm
  | x :: xs, [], p, _, _ => by have := p.length_eq; simp at this
  | x :: xs, y :: ys, p, h1, h2 => by
    obtain ⟨a1, a2⟩ := List.pairwise_cons.mp h1
    obtain ⟨b1, b2⟩ := List.pairwise_cons.mp h2
    have e : x = y := by
      have m1 : x ∈ y :: ys := p.mem_iff.mp List.mem_cons_self
      have m2 : y ∈ x :: xs := p.mem_iff.mpr List.mem_cons_self
      have l1 : y ≤ x := by
        rcases List.mem_cons.mp m1 with z | z
        · omega
        · exact b1 x z
      have l2 : x ≤ y := by
        rcases List.mem_cons.mp m2 with z | z
        · omega
        · exact a1 y z
      omega
    subst e
    rw [rising_one (List.Perm.cons_inv p) a2 b2]
def unV : V → Nat
  | .int n => n.toNat
  | _ => 0
theorem unV_nV (n : Nat) : unV (nV n) = n := Int.toNat_natCast n
theorem nats_perm {ys : List V} {ms : List Nat} (h : ys.Perm (nL ms)) : ∃ L : List Nat, ys = nL L ∧ L.Perm ms := by
  have e : (nL ms).map unV = ms := by
    show (ms.map nV).map unV = ms
    rw [List.map_map, show (unV ∘ nV) = id from funext unV_nV, List.map_id]
  refine ⟨ys.map unV, ?_, ?_⟩
  · show ys = (ys.map unV).map nV
    rw [List.map_map]
    refine (List.map_id ys).symm.trans (List.map_congr_left fun y hy => ?_)
    obtain ⟨m, _, rfl⟩ := List.mem_map.mp (h.mem_iff.mp hy)
    show nV m = nV (unV (nV m))
    rw [unV_nV]
  · have q := h.map unV
    rw [e] at q
    exact q
section
variable {P : Program} {w : World} {K : PySem.W.Frag} {mg : Str → Option Value} {base : Heap}
def onesOf (v : V) : Int := (MK.pc (unV v) : Int)
def spMeets (K : PySem.W.Frag) : Sp := fun vs H Q _ => ∃ (a : Addr) (m : Nat) (ms : List Nat), vs = [nV m, .ref a] ∧ SqL K H a (nL ms) ∧ ms.length ≤ 10000000 ∧ ∀ H', Same H H' → Q (.bl (ms.all fun o => decide (m &&& o ≠ 0))) H'
def spDue (K : PySem.W.Frag) : Sp := fun vs H Q _ => ∃ (a : Addr) (n : Nat) (ms : List Nat), vs = [.ref a, nV n] ∧ SqL K H a (nL ms) ∧ ms.length ≤ 10000000 ∧ n ≤ 10 ∧ ∀ G, MK.Least G (MK.Tr ms n) → NewL H Q (nL G)
end
end L2.KK
namespace L2.KK
open PySem PySem.Spec PyProof.Rows C8

theorem paired_mapR {α β γ : Type} {F : α → γ → Prop} (g : β → γ) : ∀ {a : List α} {b : List β}, Paired (fun x y => F x (g y)) a b → Paired F a (b.map g)
  | _, _, .nil => .nil
  | _, _, .cons r t => .cons r (paired_mapR g t)
/-! ### lots: tuples of whole numbers -/
theorem bitsOf_len (m n : Nat) : (MK.bitsOf m n).length ≤ n := by
  unfold MK.bitsOf
  have := List.length_filter_le (fun i => m.testBit i) (List.range n)
  rw [List.length_range] at this
  exact this
/-- rs are tuples that hold the lots Ls -/
def LotAt (K : PySem.W.Frag) (H : Hp) (y : V) (l : List Nat) : Prop := ∃ r, y = .ref r ∧ SqT K H r (nL l)
theorem LotAt.grow {K : PySem.W.Frag} {H H' : Hp} {y : V} {l : List Nat} (h : LotAt K H y l) (e : Same H H') : LotAt K H' y l := by
  obtain ⟨r, e1, e2⟩ := h
  exact ⟨r, e1, same_seqT e e2⟩
def LotsAt (K : PySem.W.Frag) (H : Hp) (p : Addr) (Ls : List (List Nat)) : Prop := ∃ ys, SqT K H p ys ∧ Paired (LotAt K H) ys Ls
theorem dp_lot {K : PySem.W.Frag} {H : Hp} {y : V} {l : List Nat} (h : LotAt K H y l) : Dp K H y (.tuple ((iL l).map PyData.int)) := by
  obtain ⟨r, rfl, e⟩ := h
  rw [nL_eq] at e
  exact .tup e (dpAll_ints _)
theorem dp_lots {K : PySem.W.Frag} {H : Hp} : ∀ {ys : List V} {Ls : List (List Nat)}, Paired (LotAt K H) ys Ls → DpAll K H ys (Ls.map fun l => PyData.tuple ((iL l).map PyData.int))
  | _, _, .nil => .nil
  | _, _, .cons r t => .cons (dp_lot r) (dp_lots t)
theorem eqv_lots : ∀ a b : List (List Nat), PyData.eqvAll (a.map fun l => PyData.tuple ((iL l).map PyData.int)) (b.map fun l => PyData.tuple ((iL l).map PyData.int)) = decide (a = b)
  | [], [] => by simp only [List.map_nil, PyData.eqvAll, decide_true]
  | [], _ :: _ => by simp [PyData.eqvAll]
  | _ :: _, [] => by simp [PyData.eqvAll]
  | x :: xs, y :: ys => by
    rw [List.map_cons, List.map_cons, PyData.eqvAll, eqv_lots xs ys]
    have e : PyData.eqv (.tuple ((iL x).map PyData.int)) (.tuple ((iL y).map PyData.int)) = decide (x = y) := by
      show PyData.eqvAll _ _ = _
      rw [PySem.W.ked_eqvAll]
      exact decide_eq_decide.mpr ⟨iL_inj, fun h => by rw [h]⟩
    rw [e, ← Bool.decide_and]
    exact decide_eq_decide.mpr (by rw [List.cons.injEq])
theorem depth_ints (ns : List Int) : (PyData.tuple (ns.map PyData.int)).depth ≤ 1 := by
  unfold PyData.depth
  have d : PyData.depthAll (ns.map PyData.int) ≤ 0 := PySem.W.depthAll_map (α := Int) ns
  omega
theorem shaped_lots (Ls : List (List Nat)) : SeqAt.shaped (.tuple (Ls.map fun l => PyData.tuple ((iL l).map PyData.int))) = true := by
  unfold SeqAt.shaped
  rw [Bool.and_eq_true]
  constructor
  · unfold PyData.canLay0
    induction Ls with
    | nil => rfl
    | cons l Ls ih =>
      rw [List.map_cons]
      unfold PyData.canLayAll0
      rw [ih]
      have h := SeqAt.canLay_of_shaped (shaped_ints (iL l))
      rw [h]
      rfl
  · refine decide_eq_true ?_
    unfold PyData.depth
    have : PyData.depthAll (Ls.map fun l => PyData.tuple ((iL l).map PyData.int)) ≤ 1 := by
      induction Ls with
      | nil =>
        show 0 ≤ 1
        decide
      | cons l Ls ih =>
        rw [List.map_cons]
        unfold PyData.depthAll
        have := depth_ints (iL l)
        omega
    omega
theorem ned_lots {K : PySem.W.Frag} {H : Hp} {a b : Addr} {As Bs : List (List Nat)} {Q : VK} (ha : LotsAt K H a As) (hb : LotsAt K H b Bs) (q : Q (.bl (!decide (As = Bs))) H) : rNeD K (.ref a) (.ref b) H Q := by
  obtain ⟨xs, a1, a2⟩ := ha
  obtain ⟨ys, b1, b2⟩ := hb
  refine ⟨_, _, .tup a1 (dp_lots a2), .tup b1 (dp_lots b2), shaped_lots As, shaped_lots Bs, ?_⟩
  have e : PyData.eqv (.tuple (As.map fun l => PyData.tuple ((iL l).map PyData.int))) (.tuple (Bs.map fun l => PyData.tuple ((iL l).map PyData.int))) = decide (As = Bs) := by
    show PyData.eqvAll _ _ = _
    exact eqv_lots As Bs
  rw [e]
  exact q
/-- the order of lots -/
def LotLe (a b : List Nat) : Prop := ltLot (iL b) (iL a) = false
theorem lots_one : ∀ {xs ys : List (List Nat)}, xs.Perm ys → xs.Pairwise LotLe → ys.Pairwise LotLe → xs = ys := fun {xs ys} p h1 h2 =>
  List.Perm.eq_of_pairwise (le := LotLe) (fun a b _ _ h k => iL_inj (ltLot_anti k h)) h1 h2 p
section
variable {P : Program} {w : World} {K : PySem.W.Frag} {mg : Str → Option Value} {base : Heap}
def spRank (K : PySem.W.Frag) : Sp := fun vs H Q _ => ∃ (t : Addr) (l : List Nat), vs = [.ref t] ∧ SqT K H t (nL l) ∧ ∀ p H', Same H H' → H p = none → H' p = some (.tup [nV l.length, .ref t]) → Q (.ref p) H'
def spLots (K : PySem.W.Frag) : Sp := fun vs H Q _ => ∃ (a : Addr) (n : Nat) (ms : List Nat), vs = [.ref a, nV n] ∧ SqL K H a (nL ms) ∧ ms.length ≤ 1000000 ∧ n ≤ 1000 ∧
  ∀ p H' Ls, Same H H' → H p = none → LotsAt K H' p Ls → Ls.Perm (ms.map fun m => MK.bitsOf m n) → Ls.Pairwise LotLe → Q (.ref p) H'
/-- what a lot at an address holds -/
def lotOf (H : Hp) (x : V) : List Nat := match x with
  | .ref t => (match H t with
    | some (.tup ys) => ys.map unV
    | _ => [])
  | _ => []
theorem lotOf_eq {H : Hp} {t : Addr} {l : List Nat} (h : H t = some (.tup (nL l))) : lotOf H (.ref t) = l := by
  show (match H t with
    | some (.tup ys) => ys.map unV
    | _ => []) = l
  rw [h]
  show (l.map nV).map unV = l
  rw [List.map_map, show (unV ∘ nV) = id from funext unV_nV, List.map_id]
/-- the end of both: lots stand in the list at D, they are sorted, a tuple is made of them -/
theorem lots_end {H H1 : Hp} {Q : VK} {D f : Addr} {ys : List V} {Ls : List (List Nat)} {n : Nat} {ms : List Nat} (sm : Same H H1) (hD : H D = none) (hd : H1 D = some (.lst ys)) (pr : Paired (fun y l => ∃ t, y = V.ref t ∧ H1 t = some (.tup (nL l))) ys Ls) (hL : Ls = ms.map fun m => MK.bitsOf m n) (hz : ms.length ≤ 1000000)
    (k : ∀ p H' Ls, Same H H' → H p = none → LotsAt K H' p Ls → Ls.Perm (ms.map fun m => MK.bitsOf m n) → Ls.Pairwise LotLe → Q (.ref p) H') :
    rSortedLot K f (spRank K) [.ref D] [.ref f] H1 fun v H2 => rTupQ K [v] H2 Q := by
  refine ⟨fun x => iL (lotOf H1 x), D, ys, rfl, rfl, SqL.of hd, fun x hx H2 sm2 R r => ?_, fun zs o H2 sm2 ho pm pw => ?_⟩
  · obtain ⟨l, t, rfl, ht⟩ := paired_left pr x hx
    refine ⟨t, l, rfl, SqT.of (sm2 _ _ ht), fun p H3 sm3 hp e => ?_⟩
    refine r _ H3 sm3 ⟨t, p, rfl, rfl, ?_, ?_⟩
    · show SqT K H3 t ((iL (lotOf H1 (.ref t))).map V.int)
      rw [lotOf_eq ht, ← nL_eq]
      exact SqT.of (sm3 _ _ (sm2 _ _ ht))
    · show H3 p = some (.tup [.int ((iL (lotOf H1 (.ref t))).length : Int), .ref t])
      rw [lotOf_eq ht, List.length_map]
      exact e
  · refine ⟨o, zs, rfl, .inl ⟨SqL.of upd_same, fun p hp => ?_⟩⟩
    have sm3 : Same H2 (upd H2 o (.lst zs)) := same_new ho
    have sm4 : Same H1 (upd (upd H2 o (.lst zs)) p (.tup zs)) := (sm2.trans sm3).trans (same_new hp)
    have lz : ∀ x ∈ zs, ∃ t l, x = V.ref t ∧ H1 t = some (.tup (nL l)) := fun x hx => by
      obtain ⟨l, t, e1, e2⟩ := paired_left pr x (pm.mem_iff.mp hx)
      exact ⟨t, l, e1, e2⟩
    refine k p _ (zs.map (lotOf H1)) (sm.trans sm4) (sm.free ((sm2.trans sm3).free hp)) ⟨zs, SqT.of upd_same, ?_⟩ ?_ ?_
    · have all : ∀ l : List V, (∀ x ∈ l, ∃ t l, x = V.ref t ∧ H1 t = some (.tup (nL l))) → Paired (LotAt K (upd (upd H2 o (.lst zs)) p (.tup zs))) l (l.map (lotOf H1)) := by
        intro l
        induction l with
        | nil => intro _; exact .nil
        | cons x l ih =>
          intro h
          rw [List.map_cons]
          refine .cons ?_ (ih fun y hy => h y (List.mem_cons_of_mem _ hy))
          obtain ⟨t, q, rfl, e⟩ := h x List.mem_cons_self
          rw [lotOf_eq e]
          exact ⟨t, rfl, SqT.of (sm4 _ _ e)⟩
      exact all zs lz
    · have q := pm.map (lotOf H1)
      rw [paired_map_of (g := id) pr (fun x y ⟨t, e1, e2⟩ => by rw [e1, lotOf_eq e2]; rfl), List.map_id, hL] at q
      exact q
    · rw [List.pairwise_map]
      exact pw
def spSorted (K : PySem.W.Frag) : Sp := fun vs H Q _ => ∃ (a : Addr) (ms : List Nat), vs = [.ref a] ∧ SqL K H a (nL ms) ∧ ms.Nodup ∧ ms.Pairwise (fun x y => MK.pc x ≤ MK.pc y) ∧ ms.length ≤ 4000 ∧ ∀ H', Same H H' → Q (.bl true) H'
def spIsInt : Sp := fun vs H Q _ => ∃ n : Int, vs = [.int n] ∧ Q (.bl true) H
end
end L2.KK
namespace L2.KK
open PySem PySem.Spec PyProof.Rows C8

section
variable {P : Program} {w : World} {K : PySem.W.Frag} {mg : Str → Option Value} {base : Heap}
def spBlk (K : PySem.W.Frag) : Sp := fun vs H Q _ => ∃ (a : Addr) (n U : Nat) (ms : List Nat), vs = [.ref a, nV n] ∧ SqL K H a (nL ms) ∧ n ≤ 40 ∧ (∀ m ∈ ms, MK.sub m U) ∧ U < 2 ^ n ∧ MK.pc U ≤ 15 ∧ ∀ G, MK.Least G (MK.Tr ms n) → NewL H Q (nL G)
theorem grow_take {m n : Nat} {g : List Nat} {j : Nat} (hj : j < g.length) : MK.grow m n (g.take (j + 1)) = MK.grow m n (g.take j) ++ MK.grow1 m n g[j] := by
  rw [List.take_add_one, List.getElem?_eq_getElem hj, MK.grow_append]
  show _ ++ (MK.grow1 m n g[j] ++ []) = _
  rw [List.append_nil]
theorem nL_append (a b : List Nat) : nL (a ++ b) = nL a ++ nL b := List.map_append
end
end L2.KK
namespace L2.KK
open PySem PySem.Spec PyProof.Rows C8
theorem sc_is_whole : FnScope ["value", "low", "high"] ["value", "low", "high"] (defScope s_is_whole) := ⟨rfl, rfl, rfl, by decide +kernel, rfl, by decide +kernel, by decide +kernel⟩
theorem sc_lower : FnScope ["first", "second"] ["first", "second"] (defScope s_lower) := ⟨rfl, rfl, rfl, by decide +kernel, rfl, by decide +kernel, by decide +kernel⟩
theorem sc_lowest : FnScope ["prices", "best", "price"] ["prices"] (defScope s_lowest) := ⟨rfl, rfl, rfl, by decide +kernel, rfl, by decide +kernel, by decide +kernel⟩
theorem sc_highest : FnScope ["prices", "best", "price"] ["prices"] (defScope s_highest) := ⟨rfl, rfl, rfl, by decide +kernel, rfl, by decide +kernel, by decide +kernel⟩
theorem sc_times_price : FnScope ["price", "times"] ["price", "times"] (defScope s_times_price) := ⟨rfl, rfl, rfl, by decide +kernel, rfl, by decide +kernel, by decide +kernel⟩
theorem sc_law_times : FnScope ["price", "times"] ["price", "times"] (defScope s_law_times) := ⟨rfl, rfl, rfl, by decide +kernel, rfl, by decide +kernel, by decide +kernel⟩
theorem sc_chosen_number : FnScope ["picks", "filling", "number", "pick"] ["picks", "filling"] (defScope s_chosen_number) := ⟨rfl, rfl, rfl, by decide +kernel, rfl, by decide +kernel, by decide +kernel⟩
theorem isn_none : decide (pV none = V.non) = true := decide_eq_true rfl
theorem isn_some {n : Nat} : ¬ decide (pV (some n) = V.non) = true := fun h => by cases of_decide_eq_true h
theorem notn_none : ¬ (!decide (pV none = V.non)) = true := fun h => by rw [isn_none] at h; cases h
theorem notn_some {n : Nat} : (!decide (pV (some n) = V.non)) = true := by
  cases h : decide (pV (some n) = V.non) with
  | true => exact absurd h isn_some
  | false => rfl
theorem units1 {a b : Nat} (h : a + 64 < b) : a + 1 < b := by omega
theorem units0 {a b : Nat} (h : a + 64 < b) : a < b := by omega
theorem take_snoc {α : Type} {l : List α} {i : Nat} {x : α} (h : l[i]? = some x) : l.take (i + 1) = l.take i ++ [x] := by
  rw [List.take_add_one, h]
  rfl
theorem map_get {α β : Type} {f : α → β} {l : List α} {i : Nat} {x : β} (h : (l.map f)[i]? = some x) : ∃ a, l[i]? = some a ∧ x = f a := by
  rw [List.getElem?_map] at h
  cases e : l[i]? with
  | none => rw [e] at h; cases h
  | some a => rw [e] at h; cases h; exact ⟨a, rfl, rfl⟩
theorem map_getD {α β : Type} {f : α → β} {l : List α} {i : Nat} {d : β} (e : α) (h : i < l.length) : (l.map f).getD i d = f (l.getD i e) := by
  rw [List.getD_eq_getElem?_getD, List.getD_eq_getElem?_getD, List.getElem?_map, List.getElem?_eq_getElem h]
  rfl
section
variable {P : Program} {w : World} {K : PySem.W.Frag} {mg : Str → Option Value} {base : Heap}
def spWhole : Sp := fun vs H Q _ => ∃ v lo hi : Int, vs = [.int v, .int lo, .int hi] ∧ Q (.bl (decide (lo ≤ v ∧ v ≤ hi))) H
theorem c_is_whole (D : FnAt K mg "is_whole" s_is_whole) (T : Bl mg) : Cal P w K mg base 1 "is_whole" spWhole [] := by
  refine calOf D sc_is_whole (fun _ _ _ _ _ _ us hl => match us, hl with | [_, _, _], _ => rfl) (fun vs H Q E h => ?_) (fun f cdv A outer s H vs Q E hr h => ?_)
  · obtain ⟨v, lo, hi, rfl, _⟩ := h
    rfl
  · obtain ⟨v, lo, hi, rfl, k⟩ := h
    refine ⟨_, (pss_one (ps_ret (pe_and (pe_callB (crIsi K) (by rfl) T.b_isinstance (by decide +kernel) (pa_cons (pv 0) (pa_cons (pe_bltn (v := .ty "int") (u := .type "int") (by rfl) T.b_int (by decide +kernel) (by rfl)) pa_nil))) (pe_and (pe_not (pe_callB (crIsi K) (by rfl) T.b_isinstance (by decide +kernel) (pa_cons (pv 0) (pa_cons (pe_bltn (v := .ty "bool") (u := .type "bool") (by rfl) T.b_bool (by decide +kernel) (by rfl)) pa_nil)))) (pe_one (pe_chain op_le op_le (pv 1) (pv 0) (pv 2))))))), ?_⟩
    refine ⟨_, rfl, _, _, .type "int", .type "int", true, rfl, .ty "int", .base (.int v), kit_ty (by decide +kernel), true, rfl, iteT ?_⟩
    refine ⟨_, rfl, _, _, .type "int", .type "bool", false, rfl, .ty "bool", .base (.int v), kit_ty (by decide +kernel), false, rfl, true, rfl, iteT ?_⟩
    refine ⟨_, rfl, _, rfl, lo, v, rfl, rfl, _, rfl, ite2 (fun h => ⟨_, rfl, v, hi, rfl, rfl, ?_⟩) (fun h => ?_)⟩
    · have e : decide (lo ≤ v ∧ v ≤ hi) = decide (v ≤ hi) := by
        have := of_decide_eq_true h
        simp [this]
      rw [e] at k
      exact k
    · have e : decide (lo ≤ v ∧ v ≤ hi) = false := decide_eq_false fun z => h (decide_eq_true z.1)
      rw [e] at k
      exact k
def spLower : Sp := fun vs H Q _ => ∃ a b : Option Nat, vs = [pV a, pV b] ∧ Q (pV (MK.lowO a b)) H
theorem c_lower (D : FnAt K mg "lower" s_lower) (T : Bl mg) : Cal P w K mg base 1 "lower" spLower [] := by
  refine calOf D sc_lower (fun _ _ _ _ _ _ us hl => match us, hl with | [_, _], _ => rfl) (fun vs H Q E h => ?_) (fun f cdv A outer s H vs Q E hr h => ?_)
  · obtain ⟨a, b, rfl, _⟩ := h
    rfl
  · obtain ⟨a, b, rfl, k⟩ := h
    refine ⟨_, (pss_cons (ps_if (pt_cmpR op_isN (pv 0) pe_non (nomark _))
        (pss_one (ps_ret (pv 1)))
        pss_nil)
      (pss_cons (ps_if (pt_cmpR op_isN (pv 1) pe_non (nomark _))
        (pss_one (ps_ret (pv 0)))
        pss_nil)
      (pss_one (ps_ret (pe_ifExp (pt_cmpR op_le (pv 0) (pv 1) (nomark _)) (pv 0) (pv 1)))))), ?_⟩
    refine ⟨_, rfl, rfl, _, rfl, ?_⟩
    cases a with
    | none => exact ite2 (fun _ => ⟨_, rfl, k⟩) (fun h => absurd isn_none h)
    | some x =>
      refine ite2 (fun h => absurd h isn_some) (fun _ => ⟨_, rfl, rfl, _, rfl, ?_⟩)
      cases b with
      | none => exact ite2 (fun _ => ⟨_, rfl, k⟩) (fun h => absurd isn_none h)
      | some y =>
        refine ite2 (fun h => absurd h isn_some) (fun _ => ⟨_, rfl, _, rfl, x, y, rfl, rfl, _, rfl, ?_⟩)
        have e : MK.lowO (some x) (some y) = some (if x ≤ y then x else y) := rfl
        rw [e] at k
        by_cases h : x ≤ y
        · rw [if_pos h] at k
          exact ite2 (fun _ => ⟨_, rfl, k⟩) (fun n => absurd (decide_eq_true (by omega)) n)
        · rw [if_neg h] at k
          exact ite2 (fun n => absurd (of_decide_eq_true n) (by omega)) (fun _ => ⟨_, rfl, k⟩)
def spFold (K : PySem.W.Frag) (f : List (Option Nat) → Option Nat) : Sp := fun vs H Q _ => ∃ (a : Addr) (ps : List (Option Nat)), vs = [.ref a] ∧ SqT K H a (ps.map pV) ∧ Q (pV (f ps)) H
theorem c_lowest (D : FnAt K mg "lowest" s_lowest) (T : Bl mg) (c_lower : Cal P w K mg base 1 "lower" spLower []) : Cal P w K mg base 2 "lowest" (spFold K MK.lowL) [] := by
  refine calOf D sc_lowest (fun _ _ _ _ _ _ us hl => match us, hl with | [_], _ => rfl) (fun vs H Q E h => ?_) (fun f cdv A outer s H vs Q E hr h => ?_)
  · obtain ⟨a, ps, rfl, _⟩ := h
    rfl
  · obtain ⟨a, ps, rfl, hS, k⟩ := h
    have nd := sc_lowest.nd
    refine ⟨_, (pss_cons (ps_set (i := 1) nd rfl (by first | exact Or.inl rfl | exact Or.inr rfl) pe_non)
      (pss_cons (ps_for PassesOwn.never rfl (piTup K (pv 0)) (pg_name (i := 2) nd rfl (by first | exact Or.inl rfl | exact Or.inr rfl))
        (pss_one (ps_set (i := 1) nd rfl (by first | exact Or.inl rfl | exact Or.inr rfl) (pe_c c_lower hr (by decide) (by rfl) (pa_cons (pv 1) (pa_cons (pv 2) pa_nil))))))
      (pss_one (ps_ret (pv 1))))), ?_⟩
    refine ⟨_, rfl, a, rfl, ⟨_, hS⟩, ?_⟩
    refine for_tup (xs := ps.map pV) (fun i σ' H' => ∃ c2 : Option V, σ' = [some (.ref a), some (pV (MK.lowL (ps.take i))), c2] ∧ H' = H) ⟨none, rfl, rfl⟩ (fun i σ' H' _ ⟨_, _, e⟩ => by rw [e]; exact hS) (fun i x σ' H' hx hp => ?_) (fun σ' H' hp => ?_)
    · obtain ⟨c2, rfl, rfl⟩ := hp
      obtain ⟨p, hp, rfl⟩ := map_get hx
      refine ⟨_, rfl, _, rfl, MK.lowL (ps.take i), p, rfl, ?_⟩
      refine ⟨some (pV p), ?_, rfl⟩
      rw [take_snoc hp]
      unfold MK.lowL
      rw [List.foldl_append]
      rfl
    · obtain ⟨c2, rfl, rfl⟩ := hp
      rw [List.length_map, List.take_length]
      exact ⟨_, rfl, k⟩
theorem c_highest (D : FnAt K mg "highest" s_highest) (T : Bl mg) : Cal P w K mg base 1 "highest" (spFold K MK.hiL) [] := by
  refine calOf D sc_highest (fun _ _ _ _ _ _ us hl => match us, hl with | [_], _ => rfl) (fun vs H Q E h => ?_) (fun f cdv A outer s H vs Q E hr h => ?_)
  · obtain ⟨a, ps, rfl, _⟩ := h
    rfl
  · obtain ⟨a, ps, rfl, hS, k⟩ := h
    have nd := sc_highest.nd
    refine ⟨_, (pss_cons (ps_set (i := 1) nd rfl (by first | exact Or.inl rfl | exact Or.inr rfl) pe_non)
      (pss_cons (ps_for PassesOwn.never rfl (piTup K (pv 0)) (pg_name (i := 2) nd rfl (by first | exact Or.inl rfl | exact Or.inr rfl))
        (pss_one (ps_if (PW.pt (pw_and (pt_cmpR op_notN (pv 2) pe_non (nomark _)) (pw_and1 (PW.pt (pw_or (pt_cmpR op_isN (pv 1) pe_non (nomark _)) (pw_or1 (pt_cmpR op_gt (pv 2) (pv 1) (nomark _))))))))
          (pss_one (ps_set (i := 1) nd rfl (by first | exact Or.inl rfl | exact Or.inr rfl) (pv 2)))
          pss_nil)))
      (pss_one (ps_ret (pv 1))))), ?_⟩
    refine ⟨_, rfl, a, rfl, ⟨_, hS⟩, ?_⟩
    refine for_tup (xs := ps.map pV) (fun i σ' H' => ∃ c2 : Option V, σ' = [some (.ref a), some (pV (MK.hiL (ps.take i))), c2] ∧ H' = H) ⟨none, rfl, rfl⟩ (fun i σ' H' _ ⟨_, _, e⟩ => by rw [e]; exact hS) (fun i x σ' H' hx hp => ?_) (fun σ' H' hp => ?_)
    · obtain ⟨c2, rfl, rfl⟩ := hp
      obtain ⟨p, hp, rfl⟩ := map_get hx
      have et : MK.hiL (ps.take (i + 1)) = MK.hiO (MK.hiL (ps.take i)) p := by
        rw [take_snoc hp]
        unfold MK.hiL
        rw [List.foldl_append]
        rfl
      rw [et]
      generalize MK.hiL (ps.take i) = b
      refine ⟨_, rfl, rfl, _, rfl, ?_⟩
      cases p with
      | none =>
        refine ite2 (fun h => absurd h notn_none) (fun _ => ?_)
        refine ⟨some (pV none), ?_, rfl⟩
        cases b <;> rfl
      | some x =>
        refine ite2 (fun _ => ⟨_, rfl, rfl, _, rfl, ?_⟩) (fun h => absurd notn_some h)
        cases b with
        | none => exact ite2 (fun _ => ⟨_, rfl, ⟨_, rfl, rfl⟩⟩) (fun h => absurd isn_none h)
        | some y =>
          refine ite2 (fun h => absurd h isn_some) (fun _ => ⟨_, rfl, _, rfl, x, y, rfl, rfl, _, rfl, ?_⟩)
          have e : MK.hiO (some y) (some x) = if x > y then some x else some y := rfl
          rw [e]
          by_cases h : x > y
          · rw [if_pos h]
            exact ite2 (fun _ => ⟨_, rfl, ⟨_, rfl, rfl⟩⟩) (fun n => absurd (decide_eq_true (by omega)) n)
          · rw [if_neg h]
            exact ite2 (fun n => absurd (of_decide_eq_true n) (by omega)) (fun _ => ⟨_, rfl, rfl⟩)
    · obtain ⟨c2, rfl, rfl⟩ := hp
      rw [List.length_map, List.take_length]
      exact ⟨_, rfl, k⟩
def spTimes : Sp := fun vs H Q _ => ∃ (a : Option Nat) (t : Nat), vs = [pV a, nV t] ∧ (∀ m, a = some m → m < 18446744073709551616) ∧ Q (pV (a.map (· * t))) H
theorem c_times_price (D : FnAt K mg "times_price" s_times_price) (T : Bl mg) : Cal P w K mg base 1 "times_price" spTimes [] := by
  refine calOf D sc_times_price (fun _ _ _ _ _ _ us hl => match us, hl with | [_, _], _ => rfl) (fun vs H Q E h => ?_) (fun f cdv A outer s H vs Q E hr h => ?_)
  · obtain ⟨a, t, rfl, _⟩ := h
    rfl
  · obtain ⟨a, t, rfl, hb, k⟩ := h
    refine ⟨_, (pss_cons (ps_if (pt_cmpR op_isN (pv 0) pe_non (nomark _))
        (pss_one (ps_ret pe_non))
        pss_nil)
      (pss_one (ps_ret (pe_op op_mulNN (pv 0) (pv 1))))), ?_⟩
    refine ⟨_, rfl, rfl, _, rfl, ?_⟩
    cases a with
    | none => exact ite2 (fun _ => k) (fun h => absurd isn_none h)
    | some x => exact ite2 (fun h => absurd h isn_some) (fun _ => ⟨_, rfl, _, rfl, x, t, rfl, rfl, .inl (hb x rfl), k⟩)
theorem c_law_times (D : FnAt K mg "_law_times" s_law_times) (T : Bl mg) : Cal P w K mg base 1 "_law_times" spTimes [] := by
  refine calOf D sc_law_times (fun _ _ _ _ _ _ us hl => match us, hl with | [_, _], _ => rfl) (fun vs H Q E h => ?_) (fun f cdv A outer s H vs Q E hr h => ?_)
  · obtain ⟨a, t, rfl, _⟩ := h
    rfl
  · obtain ⟨a, t, rfl, hb, k⟩ := h
    refine ⟨_, (pss_cons (ps_if (pt_cmpR op_isN (pv 0) pe_non (nomark _))
        (pss_one (ps_ret pe_non))
        pss_nil)
      (pss_one (ps_ret (pe_op op_mulNN (pv 0) (pv 1))))), ?_⟩
    refine ⟨_, rfl, rfl, _, rfl, ?_⟩
    cases a with
    | none => exact ite2 (fun _ => k) (fun h => absurd isn_none h)
    | some x => exact ite2 (fun h => absurd h isn_some) (fun _ => ⟨_, rfl, _, rfl, x, t, rfl, rfl, .inl (hb x rfl), k⟩)
def spRow : Sp := fun vs H Q _ => ∃ n k : Nat, vs = [nV n, nV k] ∧ k ≤ 1000 ∧ NewT H Q (nL (MK.rowL n k))
def RowsAt (H : Hp) (k : Nat) (y : V) (n : Nat) : Prop := ∃ t, y = .ref t ∧ H t = some (.tup (nL (MK.rowL n k)))
def spRows : Sp := fun vs H Q _ => ∃ k : Nat, vs = [nV k] ∧ k ≤ 20 ∧ ∀ p H' ys, Same H H' → H p = none → H' p = some (.lst ys) → Paired (RowsAt H' k) ys (List.range (2 ^ k)) → Q (.ref p) H'
def spChosen (K : PySem.W.Frag) : Sp := fun vs H Q _ => ∃ (a b : Addr) (ps fs : List Nat), vs = [.ref a, .ref b] ∧ SqL K H a (nL ps) ∧ SqT K H b (nL fs) ∧ (∀ x ∈ ps, x < fs.length) ∧ Q (nV (MK.chosen ps fs)) H
theorem c_chosen_number (D : FnAt K mg "chosen_number" s_chosen_number) (T : Bl mg) : Cal P w K mg base 1 "chosen_number" (spChosen K) [] := by
  refine calOf D sc_chosen_number (fun _ _ _ _ _ _ us hl => match us, hl with | [_, _], _ => rfl) (fun vs H Q E h => ?_) (fun f cdv A outer s H vs Q E hr h => ?_)
  · obtain ⟨a, b, ps, fs, rfl, _⟩ := h
    rfl
  · obtain ⟨a, b, ps, fs, rfl, ha, hb, hl, k⟩ := h
    have nd := sc_chosen_number.nd
    refine ⟨_, (pss_cons (ps_set (i := 2) nd rfl (by first | exact Or.inl rfl | exact Or.inr rfl) pe_int)
      (pss_cons (ps_for PassesOwn.never rfl (piList K (pv 0)) (pg_name (i := 3) nd rfl (by first | exact Or.inl rfl | exact Or.inr rfl))
        (pss_one (ps_set (i := 2) nd rfl (by first | exact Or.inl rfl | exact Or.inr rfl) (pe_op op_addNN (pe_op op_mulNN (pv 2) pe_int) (pe_ix (ixT K) (pv 1) (pv 3) (fun _ _ => rfl))))))
      (pss_one (ps_ret (pv 2))))), ?_⟩
    refine ⟨_, rfl, a, rfl, ⟨_, ha⟩, ?_⟩
    refine for_list (xs := nL ps) (fun i σ' H' => ∃ c3 : Option V, σ' = [some (.ref a), some (.ref b), some (nV (MK.chosen (ps.take i) fs)), c3] ∧ H' = H) ⟨none, rfl, rfl⟩ (fun i σ' H' _ ⟨_, _, e⟩ => by rw [e]; exact ha) (fun i x σ' H' hx hp => ?_) (fun σ' H' hp => ?_)
    · obtain ⟨c3, rfl, rfl⟩ := hp
      obtain ⟨p, hp, rfl⟩ := map_get hx
      have hlt := hl p (List.mem_of_getElem? hp)
      have et : MK.chosen (ps.take (i + 1)) fs = MK.chosen (ps.take i) fs * 2 + fs.getD p 0 := by
        rw [take_snoc hp]
        unfold MK.chosen
        rw [List.foldl_append]
        rfl
      rw [et]
      generalize MK.chosen (ps.take i) fs = m
      refine ⟨_, rfl, m, 2, rfl, rfl, .inr (by decide), _, rfl, _, rfl, b, nL fs, p, nV (fs.getD p 0), rfl, rfl, hb, atI_nat ?_, _, _, rfl, rfl, ⟨_, rfl, rfl⟩⟩
      rw [List.getElem?_map, List.getD_eq_getElem?_getD, List.getElem?_eq_getElem hlt]
      rfl
    · obtain ⟨c3, rfl, rfl⟩ := hp
      rw [List.length_map, List.take_length]
      exact ⟨_, rfl, k⟩
/-! firsts: the keys of a dict -/
def seenK (acc : List Nat) : List (Key × V) := acc.map fun x : Nat => ((Sum.inl (x : Int) : Key), V.bl true)
theorem put_seen (acc : List Nat) (x : Nat) : putK (seenK acc) (Sum.inl (x : Int)) (V.bl true) = seenK (MK.first1 acc x) := by
  have any : ((seenK acc).any fun kv => decide (kv.1 = Sum.inl (x : Int))) = decide (x ∈ acc) := by
    rw [Bool.eq_iff_iff, List.any_eq_true, decide_eq_true_iff]
    constructor
    · rintro ⟨kv, hm, e⟩
      obtain ⟨y, hy, rfl⟩ := List.mem_map.mp hm
      have e2 : (Sum.inl (y : Int) : Key) = Sum.inl (x : Int) := of_decide_eq_true e
      have e3 : (y : Int) = (x : Int) := Sum.inl.inj e2
      have e4 : y = x := by omega
      exact e4 ▸ hy
    · exact fun h => ⟨_, List.mem_map.mpr ⟨x, h, rfl⟩, decide_eq_true rfl⟩
  unfold putK MK.first1
  rw [any]
  by_cases h : x ∈ acc
  · rw [if_pos (decide_eq_true h), if_pos h]
    unfold seenK
    rw [List.map_map]
    refine List.map_congr_left fun y _ => ?_
    show (if (Sum.inl (y : Int) : Key) = Sum.inl (x : Int) then ((Sum.inl (y : Int) : Key), V.bl true) else (Sum.inl (y : Int), V.bl true)) = _
    split <;> rfl
  · rw [if_neg (fun z => h (of_decide_eq_true z)), if_neg h]
    unfold seenK
    rw [List.map_append]
    rfl
theorem first1_len (acc : List Nat) (x : Nat) : (MK.first1 acc x).length ≤ acc.length + 1 := by
  unfold MK.first1
  split
  · omega
  · rw [List.length_append]
    exact Nat.le_refl _
def spFirsts (K : PySem.W.Frag) : Sp := fun vs H Q _ => ∃ (a : Addr) (ns : List Nat), vs = [.ref a] ∧ SqT K H a (nL ns) ∧ ns.length ≤ 1000 ∧ ∀ p H', Same H H' → H p = none → BareT H' p (nL (MK.firstsL ns)) → Q (.ref p) H'
end
end L2.KK
namespace L2.KK
open PySem PySem.Spec PyProof.Rows C8
structure Ev (K : PySem.W.Frag) (mg : Str → Option Value) where
  Table : Addr
  Lot : Addr
  Puzzle : Addr
  State : Addr
  Ledger : Addr
  DEEDS : Addr
  BadDeed : Addr
  f_BadDeed : Addr
  PricedError : Addr
  k_Table : mg "Table" = some (.ref Table)
  c_Table : InsX K Table
  i_Table : InAt K Table "Table.__init__" s_Table_init
  m_Table_eq : MtAt K Table "__eq__" "Table.__eq__" s_Table_eq
  n_Table_places : NoAttr K Table "places"
  n_Table_prices : NoAttr K Table "prices"
  n_Table_least : NoAttr K Table "least"
  n_Table_most : NoAttr K Table "most"
  k_Lot : mg "Lot" = some (.ref Lot)
  c_Lot : InsX K Lot
  i_Lot : InAt K Lot "Lot.__init__" s_Lot_init
  m_Lot_eq : MtAt K Lot "__eq__" "Lot.__eq__" s_Lot_eq
  n_Lot_tables : NoAttr K Lot "tables"
  n_Lot_swaps : NoAttr K Lot "swaps"
  k_Puzzle : mg "Puzzle" = some (.ref Puzzle)
  c_Puzzle : InsX K Puzzle
  i_Puzzle : InAt K Puzzle "Puzzle.__init__" s_Puzzle_init
  n_Puzzle_lot : NoAttr K Puzzle "lot"
  n_Puzzle_many : NoAttr K Puzzle "many"
  n_Puzzle_uses : NoAttr K Puzzle "uses"
  k_State : mg "State" = some (.ref State)
  c_State : InsX K State
  i_State : InAt K State "State.__init__" s_State_init
  m_State_numbers : MtAt K State "numbers" "State.numbers" s_State_numbers
  m_State_puzzle : MtAt K State "puzzle" "State.puzzle" s_State_puzzle
  n_State_lot : NoAttr K State "lot"
  n_State_many : NoAttr K State "many"
  n_State_rows : NoAttr K State "rows"
  n_State_ahead : NoAttr K State "ahead"
  k_Ledger : mg "Ledger" = some (.ref Ledger)
  c_Ledger : InsX K Ledger
  i_Ledger : InAt K Ledger "Ledger.__init__" s_Ledger_init
  m_Ledger_do : MtAt K Ledger "do" "Ledger.do" s_Ledger_do
  m_Ledger_go : MtAt K Ledger "go" "Ledger.go" s_Ledger_go
  m_Ledger_undo : MtAt K Ledger "undo" "Ledger.undo" s_Ledger_undo
  m_Ledger_redo : MtAt K Ledger "redo" "Ledger.redo" s_Ledger_redo
  m_Ledger_twin : MtAt K Ledger "twin" "Ledger.twin" s_Ledger_twin
  m_Ledger_puzzle : MtAt K Ledger "puzzle" "Ledger.puzzle" s_Ledger_puzzle
  m_Ledger_numbers : MtAt K Ledger "numbers" "Ledger.numbers" s_Ledger_numbers
  n_Ledger_past : NoAttr K Ledger "past"
  n_Ledger_state : NoAttr K Ledger "state"
  n_Ledger_later : NoAttr K Ledger "later"
  n_Ledger_told : NoAttr K Ledger "told"
  n_Ledger_reply : NoAttr K Ledger "reply"
  n_Ledger_verdicts_made : NoAttr K Ledger "verdicts_made"
  n_Ledger_answers_made : NoAttr K Ledger "answers_made"
  s_Table_Table : PySem.W.kitOne K (.ref Table) (.ref Table) = some true
  s_Lot_Lot : PySem.W.kitOne K (.ref Lot) (.ref Lot) = some true
  s_BadDeed_PricedError : PySem.W.kitOne K (.ref BadDeed) (.ref PricedError) = some true
  s_NoneType_Lot : PySem.W.kitOne K (.type "NoneType") (.ref Lot) = some false
  s_int_Lot : PySem.W.kitOne K (.type "int") (.ref Lot) = some false
  s_tuple_Lot : PySem.W.kitOne K (.type "tuple") (.ref Lot) = some false
  s_str_Lot : PySem.W.kitOne K (.type "str") (.ref Lot) = some false
  x_BadDeed : ExcC K BadDeed
  k_DEEDS : mg "DEEDS" = some (.ref DEEDS)
  t_DEEDS : ∀ H, SqT K H DEEDS [.str "name", .str "add", .str "drop", .str "times", .str "table"]
  k_BadDeed : mg "BadDeed" = some (.ref BadDeed)
  o_BadDeed : OwnX K BadDeed f_BadDeed
  d_BadDeed : ∃ fd, FnP K "__init__" "BadDeed.__init__" s_BadDeed_init f_BadDeed fd
  n_BadDeed_deed : PySem.W.findIn K (.ref BadDeed) "deed" = some none
  k_PricedError : mg "PricedError" = some (.ref PricedError)
  b_PricedError : BaseX K PricedError
  e_BadDeed_BadDeed : PySem.W.exmOne K (.ref BadDeed) (.ref BadDeed) = some true
theorem sc_Table_init : FnScope ["self", "places", "prices", "price"] ["self", "places", "prices"] (defScope s_Table_init) := ⟨rfl, rfl, rfl, by decide +kernel, rfl, by decide +kernel, by decide +kernel⟩
theorem sc_Table_eq : FnScope ["self", "other"] ["self", "other"] (defScope s_Table_eq) := ⟨rfl, rfl, rfl, by decide +kernel, rfl, by decide +kernel, by decide +kernel⟩
theorem sc_swapped : FnScope ["table", "price"] ["table"] (defScope s_swapped) := ⟨rfl, rfl, rfl, by decide +kernel, rfl, by decide +kernel, by decide +kernel⟩
theorem sc_is_told : FnScope ["table"] ["table"] (defScope s_is_told) := ⟨rfl, rfl, rfl, by decide +kernel, rfl, by decide +kernel, by decide +kernel⟩
theorem sc_Lot_init : FnScope ["self", "tables", "at", "table"] ["self", "tables"] (defScope s_Lot_init) := ⟨rfl, rfl, rfl, by decide +kernel, rfl, by decide +kernel, by decide +kernel⟩
theorem bl_t {p : Prop} [Decidable p] (h : p) : V.bl (decide p) = V.bl true := congrArg V.bl (decide_eq_true h)
theorem bl_f {p : Prop} [Decidable p] (h : ¬ p) : V.bl (decide p) = V.bl false := congrArg V.bl (decide_eq_false h)
theorem nbl_t {p : Prop} [Decidable p] (h : p) : V.bl (!decide p) = V.bl false := congrArg V.bl (by rw [decide_eq_true h]; rfl)
theorem nbl_f {p : Prop} [Decidable p] (h : ¬ p) : V.bl (!decide p) = V.bl true := congrArg V.bl (by rw [decide_eq_false h]; rfl)
/-! ### tables -/
def tabF (k : Nat) (tp : Addr) (ps : List (Option Nat)) : List (Str × V) := [("places", nV k), ("prices", .ref tp), ("least", pV (MK.lowL ps)), ("most", pV (MK.hiL ps))]
def TabAt (K : PySem.W.Frag) (C : Addr) (H : Hp) (a : Addr) (k : Nat) (ps : List (Option Nat)) : Prop := ∃ dx tp, H a = some (.ins C dx (tabF k tp ps)) ∧ SqT K H tp (ps.map pV)
theorem TabAt.grow {K : PySem.W.Frag} {C : Addr} {H H' : Hp} {a : Addr} {k : Nat} {ps : List (Option Nat)} (h : TabAt K C H a k ps) (e : Same H H') : TabAt K C H' a k ps := by
  obtain ⟨dx, tp, h1, h2⟩ := h
  exact ⟨dx, tp, e _ _ h1, same_seqT e h2⟩
section
variable {P : Program} {w : World} {K : PySem.W.Frag} {mg : Str → Option Value} {base : Heap}
def spTab (K : PySem.W.Frag) (C : Addr) : Sp := fun vs H Q _ => ∃ (x dx tp : Addr) (k : Nat) (ps : List (Option Nat)), vs = [.ref x, nV k, .ref tp] ∧ H x = some (.ins C dx []) ∧ SqT K H tp (ps.map pV) ∧ k ≤ 4 ∧ ps.length = 2 ^ k ∧
  (∀ p ∈ ps, ∀ m, p = some m → m ≤ 10 ^ 50) ∧ Q .non (upd H x (.ins C dx (tabF k tp ps)))
theorem c_Table (Z : Ev K mg) (T : Bl mg) (c_is_whole : Cal P w K mg base 1 "is_whole" spWhole []) (c_lowest : Cal P w K mg base 2 "lowest" (spFold K MK.lowL) []) (c_highest : Cal P w K mg base 1 "highest" (spFold K MK.hiL) []) : Mak P w K mg base 3 "Table" Z.Table (spTab K Z.Table) [] := by
  refine makOf Z.k_Table Z.i_Table sc_Table_init (fun _ _ _ _ _ _ us hl => match us, hl with | [_, _, _], _ => rfl) (fun vs H Q E h => ?_) (fun f cdv A outer s H vs Q E hr h => ?_)
  · obtain ⟨x, dx, tp, k, ps, rfl, _⟩ := h
    rfl
  · obtain ⟨x, dx, tp, k, ps, rfl, hx, hS, hk, hl, hm, q⟩ := h
    have nd := sc_Table_init.nd
    refine ⟨_, (pss_cons (ps_if (pt_not (pt_val (pe_c c_is_whole hr (by decide) (by rfl) (pa_cons (pv 1) (pa_cons pe_int (pa_cons (pe_gc (by rfl) T.g_PLACES) pa_nil))))))
        (pss_one ps_never)
        pss_nil)
      (pss_cons (ps_if (PW.pt (pw_or (pt_not (pt_val (pe_callB (crIsi K) (by rfl) T.b_isinstance (by decide +kernel) (pa_cons (pv 2) (pa_cons (pe_bltn (v := .ty "tuple") (u := .type "tuple") (by rfl) T.b_tuple (by decide +kernel) (by rfl)) pa_nil))))) (pw_or1 (pt_cmpR op_ne (pe_callB (crLen K) (by rfl) T.b_len (by decide +kernel) (pa_cons (pv 2) pa_nil)) (pe_op op_shlNN pe_int (pv 1)) (nomark _)))))
        (pss_one ps_never)
        pss_nil)
      (pss_cons (ps_for PassesOwn.never rfl (piTup K (pv 2)) (pg_name (i := 3) nd rfl (by first | exact Or.inl rfl | exact Or.inr rfl))
        (pss_one (ps_if (PW.pt (pw_and (pt_cmpR op_notN (pv 3) pe_non (nomark _)) (pw_and1 (pt_not (pt_val (pe_c c_is_whole hr (by decide) (by rfl) (pa_cons (pv 3) (pa_cons pe_int (pa_cons (pe_gc (by rfl) T.g_GREATEST) pa_nil)))))))))
          (pss_one ps_never)
          pss_nil)))
      (pss_cons (ps_fld (pv 0) (pv 1) (by rfl))
      (pss_cons (ps_fld (pv 0) (pv 2) (by rfl))
      (pss_cons (ps_fld (pv 0) (pe_c c_lowest hr (by decide) (by rfl) (pa_cons (pv 2) pa_nil)) (by rfl))
      (pss_one (ps_fld (pv 0) (pe_c c_highest hr (by decide) (by rfl) (pa_cons (pv 2) pa_nil)) (by rfl))))))))), ?_⟩
    refine ⟨_, rfl, (k : Int), 0, 4, rfl, true, bl_t ⟨by omega, by omega⟩, iteF ?_⟩
    refine ⟨_, rfl, _, _, .type "tuple", .type "tuple", true, rfl, .ty "tuple", tyx_seqT hS, kit_ty (by decide +kernel), true, rfl, iteF ?_⟩
    refine ⟨_, rfl, tp, _, rfl, .inr hS, _, rfl, 1, k, rfl, rfl, ⟨by omega, by decide⟩, rfl, false, nbl_t (by rw [List.length_map, hl]; show nV (2 ^ k) = nV (1 * 2 ^ k); rw [Nat.one_mul]), iteF ?_⟩
    refine ⟨_, rfl, tp, rfl, ⟨_, hS⟩, ?_⟩
    refine for_tup (xs := ps.map pV) (fun i σ' H' => ∃ c3 : Option V, σ' = [some (.ref x), some (nV k), some (.ref tp), c3] ∧ H' = H) ⟨none, rfl, rfl⟩ (fun i σ' H' _ ⟨_, _, e⟩ => by rw [e]; exact hS) (fun i y σ' H' hy hp => ?_) (fun σ' H' hp => ?_)
    · obtain ⟨c3, rfl, rfl⟩ := hp
      obtain ⟨p, hp, rfl⟩ := map_get hy
      have hb := hm p (List.mem_of_getElem? hp)
      refine ⟨_, rfl, rfl, _, rfl, ?_⟩
      cases p with
      | none => exact ite2 (fun h => absurd h notn_none) (fun _ => ⟨_, rfl, rfl⟩)
      | some m =>
        have := hb m rfl
        exact ite2 (fun _ => ⟨_, rfl, (m : Int), 0, 10 ^ 50, rfl, true, bl_t ⟨by omega, by omega⟩, iteF ⟨_, rfl, rfl⟩⟩) (fun h => absurd notn_some h)
    · obtain ⟨c3, rfl, rfl⟩ := hp
      refine ⟨_, rfl, _, rfl, x, Z.Table, dx, _, rfl, hx, Z.c_Table.c, Z.n_Table_places, by decide, ?_⟩
      refine ⟨_, rfl, _, rfl, x, Z.Table, dx, _, rfl, upd_same, Z.c_Table.c, Z.n_Table_prices, by show 1 < 1000; decide, ?_⟩
      rw [upd_upd]
      refine ⟨_, rfl, tp, ps, rfl, kp_seqT kp_upd hx hS, _, rfl, x, Z.Table, dx, _, rfl, upd_same, Z.c_Table.c, Z.n_Table_least, by show 2 < 1000; decide, ?_⟩
      rw [upd_upd]
      refine ⟨_, rfl, tp, ps, rfl, kp_seqT kp_upd hx hS, _, rfl, x, Z.Table, dx, _, rfl, upd_same, Z.c_Table.c, Z.n_Table_most, by show 3 < 1000; decide, ?_⟩
      rw [upd_upd]
      exact q
def spTabEq (K : PySem.W.Frag) (C : Addr) : Sp := fun vs H Q _ => ∃ (a b : Addr) (k k' : Nat) (ps ps' : List (Option Nat)), vs = [.ref a, .ref b] ∧ TabAt K C H a k ps ∧ TabAt K C H b k' ps' ∧ ∀ r : Bool, (r = true ↔ k = k' ∧ ps = ps') → Q (.bl r) H
theorem c_Table_eq (Z : Ev K mg) (T : Bl mg) : Met P w K mg base 1 Z.Table "__eq__" (spTabEq K Z.Table) [] := by
  refine metOf Z.c_Table.c Z.m_Table_eq sc_Table_eq (fun _ _ _ _ _ _ us hl => match us, hl with | [_, _], _ => rfl) (fun vs H Q E h => ?_) (fun f cdv A outer s H vs Q E hr h => ?_)
  · obtain ⟨a, b, k, k', ps, ps', rfl, _⟩ := h
    rfl
  · obtain ⟨a, b, k, k', ps, ps', rfl, ⟨dx, tp, ha, hS⟩, ⟨dx', tp', hb, hS'⟩, q⟩ := h
    have hu := hr.units
    refine ⟨_, (pss_one (ps_ret (pe_and (pe_callB (crIsi K) (by rfl) T.b_isinstance (by decide +kernel) (pa_cons (pv 1) (pa_cons (pe_glob (v := .ref Z.Table) (by rfl) Z.k_Table (by rfl)) pa_nil))) (pe_and (pe_cmpR op_eq (peFld K (pv 0)) (peFld K (pv 1)) (nomark _)) (pe_one (pe_cmpR (eqD K hu) (peFld K (pv 0)) (peFld K (pv 1)) (nomark _))))))), ?_⟩
    refine ⟨_, rfl, _, _, _, _, true, rfl, .own Z.Table, Z.c_Table.ty hb, Z.s_Table_Table, true, rfl, iteT ?_⟩
    refine ⟨_, rfl, a, Z.Table, dx, _, _, rfl, ha, Z.c_Table.c, Z.n_Table_places, rfl, _, rfl, b, Z.Table, dx', _, _, rfl, hb, Z.c_Table.c, Z.n_Table_places, rfl, rfl, _, rfl, ite2 (fun h => ?_) (fun h => ?_)⟩
    · have ek : k = k' := by
        have := of_decide_eq_true h
        injection this with e
        omega
      refine ⟨_, rfl, a, Z.Table, dx, _, _, rfl, ha, Z.c_Table.c, Z.n_Table_prices, rfl, _, rfl, b, Z.Table, dx', _, _, rfl, hb, Z.c_Table.c, Z.n_Table_prices, rfl, ?_⟩
      refine eqd_pln (.tup hS (dp_prices ps)) (.tup hS' (dp_prices ps')) (pln_tup fun y hy => ?_) (pln_tup fun y hy => ?_) (Nat.le_trans (depth_tup (n := 0) fun y hy => ?_) (by decide)) (Nat.le_trans (depth_tup (n := 0) fun y hy => ?_) (by decide)) fun r hr => ?_
      · obtain ⟨p, _, rfl⟩ := List.mem_map.mp hy; exact pD_pln p
      · obtain ⟨p, _, rfl⟩ := List.mem_map.mp hy; exact pD_pln p
      · obtain ⟨p, _, rfl⟩ := List.mem_map.mp hy; exact pD_depth p
      · obtain ⟨p, _, rfl⟩ := List.mem_map.mp hy; exact pD_depth p
      · exact q r ⟨fun h => ⟨ek, pDs_inj (PyData.tuple.inj (hr.mp h))⟩, fun h => hr.mpr (by rw [h.2])⟩
    · refine q false ⟨fun h => (by cases h), fun h2 => ?_⟩
      exact absurd (decide_eq_true (by rw [h2.1])) h
def spSwapped (K : PySem.W.Frag) (C : Addr) : Sp := fun vs H Q _ => ∃ (a : Addr) (k : Nat) (ps : List (Option Nat)), vs = [.ref a] ∧ TabAt K C H a k ps ∧ k ≤ 4 ∧ ps.length = 2 ^ k ∧ (∀ p ∈ ps, ∀ m, p = some m → m ≤ 10 ^ 50) ∧ ∀ p H', Same H H' → H p = none → TabAt K C H' p k ps.reverse → Q (.ref p) H'
theorem c_swapped (D : FnAt K mg "swapped" s_swapped) (Z : Ev K mg) (T : Bl mg) (c_Table : Mak P w K mg base 3 "Table" Z.Table (spTab K Z.Table) []) : Cal P w K mg base 5 "swapped" (spSwapped K Z.Table) [] := by
  refine calOf D sc_swapped (fun _ _ _ _ _ _ us hl => match us, hl with | [_], _ => rfl) (fun vs H Q E h => ?_) (fun f cdv A outer s H vs Q E hr h => ?_)
  · obtain ⟨a, k, ps, rfl, _⟩ := h
    rfl
  · obtain ⟨a, k, ps, rfl, ⟨dx, tp, ha, hS⟩, hk, hl, hm, q⟩ := h
    have nd := sc_swapped.nd
    refine ⟨_, (pss_one (ps_ret (pe_mk c_Table hr (by decide) (by rfl) (pa_cons (peFld K (pv 0)) (pa_cons (pe_callTy (crTup K) (by rfl) T.b_tuple (by decide +kernel) (pa_cons (pe_lc (own := [("price", 1)]) (g := gName 1) (tt := tYes) rfl nd (RT.pi_revA (by rfl) T.b_reversed (peFld K (pv 0))) (blkOk_by (N := ["table", "price"]) (sc := defScope s_swapped) (own := [("price", 1)]) (by decide +kernel)) (fun _ _ _ _ _ => (pg_name (i := 1) nd rfl (by first | exact Or.inl rfl | exact Or.inr rfl))) (fun _ _ _ _ _ => pts_nil) (fun _ _ _ _ _ => (pv 1))) pa_nil)) pa_nil))))), ?_⟩
    have h16 : 2 ^ k ≤ 2 ^ 4 := Nat.pow_le_pow_right (by decide) hk
    refine ⟨_, rfl, a, Z.Table, dx, _, _, rfl, ha, Z.c_Table.c, Z.n_Table_places, rfl, ?_⟩
    refine ⟨_, rfl, a, Z.Table, dx, _, _, rfl, ha, Z.c_Table.c, Z.n_Table_prices, rfl, tp, _, rfl, .inr ⟨hS, fun D hD => lc_revT hS (sel := fun _ => true) (P := fun i y _ => y = pV (ps.getD (ps.length - 1 - i) none)) ⟨fun _ _ _ _ _ h => h, fun i H' _ _ R r => r H' (Same.refl H'), fun i H' hi _ _ R r => ?_⟩ hD (lt_line (by rw [List.length_map]; omega)) (fun H1 ys sm hd _ pr => ?_)⟩⟩
    · rw [List.length_map] at hi
      refine ⟨_, rfl, r _ H' (Same.refl H') ?_⟩
      rw [List.length_map, map_getD none (by omega)]
    · rw [filter_yes, List.length_map] at pr
      have ey : ys = ps.reverse.map pV := by
        rw [paired_map_eq pr]
        apply List.ext_getElem
        · rw [List.length_map, List.length_range, List.length_map, List.length_reverse]
        · intro i h1 h2
          rw [List.getElem_map, List.getElem_range, List.getElem_map, List.getElem_reverse, List.getD_eq_getElem?_getD, List.getElem?_eq_getElem]
          rfl
      rw [ey] at hd
      refine ⟨D, _, rfl, .inl ⟨SqL.of hd, fun l hl2 => ?_⟩⟩
      have sm1 := sm.trans (same_new (o := .tup (ps.reverse.map pV)) hl2)
      intro x dx2 hx hdx ne
      have sm2 := sm1.trans (same_new (o := .own x) hdx)
      have hx2 : (upd (upd H1 l (.tup (ps.reverse.map pV))) dx2 (.own x)) x = none := by rw [upd_ne ne.symm]; exact hx
      have sT : SqT K (upd (upd H1 l (.tup (ps.reverse.map pV))) dx2 (.own x)) l (ps.reverse.map pV) := .inl (.inl (same_new hdx _ _ upd_same))
      refine ⟨x, dx2, l, k, ps.reverse, rfl, upd_same, same_seqT (same_new hx2) sT, hk, by rw [List.length_reverse, hl], fun p hp => hm p (List.mem_reverse.mp hp), rfl, ?_⟩
      rw [upd_upd]
      exact q x _ (sm2.trans (same_new hx2)) (sm2.free hx2) ⟨dx2, l, upd_same, same_seqT (same_new hx2) sT⟩
def spTold (K : PySem.W.Frag) (C : Addr) : Sp := fun vs H Q _ => ∃ (a : Addr) (k : Nat) (ps : List (Option Nat)), vs = [.ref a] ∧ TabAt K C H a k ps ∧ 1 ≤ k ∧ (∃ p ∈ ps, p.isSome = true) ∧ (∀ p ∈ ps, ∀ m, p = some m → m ≤ 1000) ∧ Q (.bl true) H
theorem c_is_told (D : FnAt K mg "is_told" s_is_told) (Z : Ev K mg) (T : Bl mg) : Cal P w K mg base 1 "is_told" (spTold K Z.Table) [] := by
  refine calOf D sc_is_told (fun _ _ _ _ _ _ us hl => match us, hl with | [_], _ => rfl) (fun vs H Q E h => ?_) (fun f cdv A outer s H vs Q E hr h => ?_)
  · obtain ⟨a, k, ps, rfl, _⟩ := h
    rfl
  · obtain ⟨a, k, ps, rfl, ⟨dx, tp, ha, hS⟩, hk, he, hm, q⟩ := h
    refine ⟨_, (pss_cons (ps_if (PW.pt (pw_or (pt_not (pt_val (pe_callB (crIsi K) (by rfl) T.b_isinstance (by decide +kernel) (pa_cons (pv 0) (pa_cons (pe_glob (v := .ref Z.Table) (by rfl) Z.k_Table (by rfl)) pa_nil))))) (pw_or (pt_cmpR op_eq (peFld K (pv 0)) pe_int (nomark _)) (pw_or1 (pt_cmpR op_isN (peFld K (pv 0)) pe_non (nomark _))))))
        (pss_one (ps_ret pe_bl))
        pss_nil)
      (pss_one (ps_ret (pe_cmpR op_le (peFld K (pv 0)) (pe_gc (by rfl) T.g_DEAREST) (nomark _))))), ?_⟩
    obtain ⟨lo, elo⟩ := Option.isSome_iff_exists.mp (MK.lowL_some he)
    obtain ⟨hi, ehi⟩ := Option.isSome_iff_exists.mp (MK.hiL_some he)
    have hle := MK.hiL_le hm hi ehi
    refine ⟨_, rfl, _, _, _, _, true, rfl, .own Z.Table, Z.c_Table.ty ha, Z.s_Table_Table, true, rfl, iteF ?_⟩
    refine ⟨_, rfl, a, Z.Table, dx, _, _, rfl, ha, Z.c_Table.c, Z.n_Table_places, rfl, rfl, false, bl_f (fun z => ?_), iteF ?_⟩
    · injection z with e
      omega
    refine ⟨_, rfl, a, Z.Table, dx, _, _, rfl, ha, Z.c_Table.c, Z.n_Table_least, rfl, rfl, _, rfl, ?_⟩
    rw [elo]
    refine ite2 (fun h => absurd h isn_some) (fun _ => ?_)
    refine ⟨_, rfl, a, Z.Table, dx, _, _, rfl, ha, Z.c_Table.c, Z.n_Table_most, rfl, ?_⟩
    rw [ehi]
    refine ⟨hi, 1000, rfl, rfl, ?_⟩
    have e : decide ((hi : Int) ≤ 1000) = true := decide_eq_true (by omega)
    show Q (.bl (decide ((hi : Int) ≤ 1000))) H
    rw [e]
    exact q
theorem met_parts {k : Nat} {C : Addr} {m : Str} {sp : Sp} (c : Met P w K mg base k C m sp []) : ∃ (f : Addr) (fd : FuncData) (ps : List Str), Meth K C m f ∧ FnOk P w K mg base CX0 k f fd ps sp ∧ Binds K fd ps [] := by
  obtain ⟨f, fd, ps, ds, _, me, F, b, d⟩ := c.ex
  cases d
  exact ⟨f, fd, ps, me, F, b⟩
end
/-! ### lots -/
abbrev Tb := Nat × List (Option Nat)
def TbOk (t : Tb) : Prop := 1 ≤ t.1 ∧ t.1 ≤ 4 ∧ t.2.length = 2 ^ t.1 ∧ (∃ p ∈ t.2, p.isSome = true) ∧ ∀ p ∈ t.2, ∀ m, p = some m → m ≤ 1000
def TabR (K : PySem.W.Frag) (C : Addr) (H : Hp) (y : V) (t : Tb) : Prop := ∃ a, y = .ref a ∧ TabAt K C H a t.1 t.2
theorem TabR.grow {K : PySem.W.Frag} {C : Addr} {H H' : Hp} {y : V} {t : Tb} (h : TabR K C H y t) (e : Same H H') : TabR K C H' y t := by
  obtain ⟨a, h1, h2⟩ := h
  exact ⟨a, h1, h2.grow e⟩
theorem paired_at {α β : Type} {F : α → β → Prop} : ∀ {xs : List α} {ys : List β}, Paired F xs ys → xs.length = ys.length ∧ ∀ (i : Nat) x, xs[i]? = some x → ∃ y, ys[i]? = some y ∧ F x y
  | _, _, .nil => ⟨rfl, fun i x h => by cases h⟩
  | _, _, .cons r t => by
    obtain ⟨l, g⟩ := paired_at t
    refine ⟨by rw [List.length_cons, List.length_cons, l], fun i x h => ?_⟩
    cases i with
    | zero => cases h; exact ⟨_, rfl, r⟩
    | succ i => exact g i x h
theorem paired_bl : ∀ {ys : List V} {l : List Nat}, Paired (fun y (_ : Nat) => ∃ b : Bool, y = .bl b) ys l → ∃ bs : List Bool, ys = bs.map V.bl
  | _, _, .nil => ⟨[], rfl⟩
  | _, _, .cons ⟨b, e⟩ t => by
    obtain ⟨bs, h⟩ := paired_bl t
    exact ⟨b :: bs, by rw [List.map_cons, e, h]⟩
def lotF (tt : Addr) (b : Bool) : List (Str × V) := [("tables", .ref tt), ("swaps", .bl b)]
def LtAt (K : PySem.W.Frag) (CT CL : Addr) (H : Hp) (a : Addr) (tbs : List Tb) : Prop := ∃ dx tt b ys, H a = some (.ins CL dx (lotF tt b)) ∧ SqT K H tt ys ∧ Paired (TabR K CT H) ys tbs
theorem LtAt.grow {K : PySem.W.Frag} {CT CL : Addr} {H H' : Hp} {a : Addr} {tbs : List Tb} (h : LtAt K CT CL H a tbs) (e : Same H H') : LtAt K CT CL H' a tbs := by
  obtain ⟨dx, tt, b, ys, h1, h2, h3⟩ := h
  exact ⟨dx, tt, b, ys, e _ _ h1, same_seqT e h2, Paired.mapP h3 fun _ _ q => q.grow e⟩
section
variable {P : Program} {w : World} {K : PySem.W.Frag} {mg : Str → Option Value} {base : Heap}
def spLot (K : PySem.W.Frag) (CT CL : Addr) : Sp := fun vs H Q _ => ∃ (x dx tt : Addr) (ys : List V) (tbs : List Tb), vs = [.ref x, .ref tt] ∧ H x = some (.ins CL dx []) ∧ SqT K H tt ys ∧ Paired (TabR K CT H) ys tbs ∧ 1 ≤ tbs.length ∧ tbs.length ≤ 16 ∧ (∀ t ∈ tbs, TbOk t) ∧
  ∀ (b : Bool) H', Kp x H H' → H' x = some (.ins CL dx (lotF tt b)) → Q .non H'
theorem kp_tab {CT CL x dx : Addr} {fs : List (Str × V)} {H H' : Hp} {a : Addr} {k : Nat} {ps : List (Option Nat)} (k0 : Kp x H H') (hx : H x = some (.ins CL dx fs)) (ne : a ≠ x) (h : TabAt K CT H a k ps) : TabAt K CT H' a k ps := by
  obtain ⟨d, tp, h1, h2⟩ := h
  exact ⟨d, tp, k0 _ _ h1 ne, kp_seqT k0 hx h2⟩
theorem c_Lot (Z : Ev K mg) (T : Bl mg) (c_is_told : Cal P w K mg base 1 "is_told" (spTold K Z.Table) []) (c_swapped : Cal P w K mg base 5 "swapped" (spSwapped K Z.Table) []) (c_Table_eq : Met P w K mg base 1 Z.Table "__eq__" (spTabEq K Z.Table) []) :
    Mak P w K mg base 6 "Lot" Z.Lot (spLot K Z.Table Z.Lot) [] := by
  obtain ⟨f_Table_eq, fd_eq, ps_eq, me_Table_eq, F_Table_eq, b_Table_eq⟩ := met_parts c_Table_eq
  refine makOf Z.k_Lot Z.i_Lot sc_Lot_init (fun _ _ _ _ _ _ us hl => match us, hl with | [_, _], _ => rfl) (fun vs H Q E h => ?_) (fun f cdv A outer s H vs Q E hr h => ?_)
  · obtain ⟨x, dx, tt, ys, tbs, rfl, _⟩ := h
    rfl
  · obtain ⟨x, dx, tt, ys, tbs, rfl, hx, hS, pr, h1, h16, ok, q⟩ := h
    have nd := sc_Lot_init.nd
    have hu := hr.units
    obtain ⟨yl, ya⟩ := paired_at pr
    refine ⟨_, (pss_cons (ps_if (PW.pt (pw_or (pt_not (pt_val (pe_callB (crIsi K) (by rfl) T.b_isinstance (by decide +kernel) (pa_cons (pv 1) (pa_cons (pe_bltn (v := .ty "tuple") (u := .type "tuple") (by rfl) T.b_tuple (by decide +kernel) (by rfl)) pa_nil))))) (pw_or1 (pt_not (pt_chain op_le op_le pe_int (pe_callB (crLen K) (by rfl) T.b_len (by decide +kernel) (pa_cons (pv 1) pa_nil)) (pe_gc (by rfl) T.g_TABLES))))))
        (pss_one ps_never)
        pss_nil)
      (pss_cons (ps_for PassesOwn.never rfl (pi_range1 (by rfl) T.b_range (pa_cons (pe_callB (crLen K) (by rfl) T.b_len (by decide +kernel) (pa_cons (pv 1) pa_nil)) pa_nil)) (pg_name (i := 2) nd rfl (by first | exact Or.inl rfl | exact Or.inr rfl))
        (pss_one (ps_if (pt_not (pt_val (pe_c c_is_told hr (by decide) (by rfl) (pa_cons (pe_ix (ixT K) (pv 1) (pv 2) (fun _ _ => rfl)) pa_nil))))
          (pss_one ps_never)
          pss_nil)))
      (pss_cons (ps_fld (pv 0) (pv 1) (by rfl))
      (pss_one (ps_fld (pv 0) (pe_callB (crAll K) (by rfl) T.b_all (by decide +kernel) (pa_cons (pe_lc (own := [("table", 3)]) (g := gName 3) (tt := tYes) rfl nd (piTup K (pv 1)) (blkOk_by (N := ["self", "tables", "at", "table"]) (sc := defScope s_Lot_init) (own := [("table", 3)]) (by decide +kernel)) (fun _ _ _ _ _ => (pg_name (i := 3) nd rfl (by first | exact Or.inl rfl | exact Or.inr rfl))) (fun _ _ _ _ _ => pts_nil) (fun _ _ _ _ _ => (pe_cmpR (op_eqOwn F_Table_eq me_Table_eq b_Table_eq (hr.mono (by decide)) (units0 hu)) (pe_c c_swapped hr (by decide) (by rfl) (pa_cons (pv 3) pa_nil)) (pv 3) (nomark _)))) pa_nil)) (by rfl)))))), ?_⟩
    refine ⟨_, rfl, _, _, .type "tuple", .type "tuple", true, rfl, .ty "tuple", tyx_seqT hS, kit_ty (by decide +kernel), true, rfl, iteF ?_⟩
    refine ⟨_, rfl, tt, _, rfl, .inr hS, 1, _, rfl, rfl, true, bl_t (by omega), iteT ⟨_, _, rfl, rfl, true, bl_t (by omega), iteF ?_⟩⟩
    refine ⟨_, rfl, tt, _, rfl, .inr hS, _, rfl, by omega, by omega, ?_⟩
    rw [Int.toNat_natCast]
    have tabne : ∀ {a : Addr} {k : Nat} {ps : List (Option Nat)}, TabAt K Z.Table H a k ps → a ≠ x := fun {a k ps} ⟨_, _, h, _⟩ z => by
      rw [z, hx] at h
      injection h with e
      injection e with _ _ e2
      cases e2
    refine for_range (lo := 0) (n := ys.length) (fun i σ' H' => ∃ c2 : Option V, σ' = [some (.ref x), some (.ref tt), c2, none] ∧ H' = H) ⟨none, rfl, rfl⟩ ?_ ?_
    · rintro i σ' H' hi ⟨c2, rfl, rfl⟩
      have hy : ys[i]? = some ys[i] := List.getElem?_eq_getElem hi
      obtain ⟨t, ht, a, ea, hT⟩ := ya i _ hy
      have o := ok t (List.mem_of_getElem? ht)
      refine ⟨_, rfl, _, rfl, tt, ys, (i : Int), ys[i], rfl, by rw [Int.zero_add], hS, atI_nat hy, a, t.1, t.2, by rw [ea]; rfl, hT, o.1, o.2.2.2.1, o.2.2.2.2, true, rfl, iteF ⟨_, rfl, rfl⟩⟩
    · rintro σ' H' ⟨c2, rfl, rfl⟩
      refine ⟨_, rfl, _, rfl, x, Z.Lot, dx, _, rfl, hx, Z.c_Lot.c, Z.n_Lot_tables, by decide, ?_⟩
      have kp1 : Kp x H' (upd H' x (.ins Z.Lot dx (putF "tables" (.ref tt) []))) := kp_upd
      have hS1 := kp_seqT kp1 hx hS
      refine ⟨_, rfl, tt, rfl, ⟨_, hS1⟩, fun D hD => lc_tupT hS1 (sel := fun _ => true) (P := fun i y _ => ∃ b : Bool, y = .bl b) ⟨fun _ _ _ _ _ h => h, fun i H2 _ _ R r => r H2 (Same.refl H2), fun i H2 hi _ sm R r => ?_⟩ hD (lt_line (by omega)) (fun H2 bs sm hd _ pb => ?_)⟩
      · have hy : ys[i]? = some ys[i] := List.getElem?_eq_getElem hi
        obtain ⟨t, ht, a, ea, hT⟩ := ya i _ hy
        have o := ok t (List.mem_of_getElem? ht)
        have eg : ys.getD i .non = .ref a := by rw [List.getD_eq_getElem?_getD, hy]; exact ea
        have hT2 := (kp_tab kp1 hx (tabne hT) hT).grow sm
        refine ⟨_, rfl, a, t.1, t.2, by rw [eg]; rfl, hT2, o.2.1, o.2.2.1, fun p hp m hm => Nat.le_trans (o.2.2.2.2 p hp m hm) (by decide), fun p H3 sm3 _ hT3 => ?_⟩
        have hT4 := hT2.grow sm3
        obtain ⟨d3, t3, e3, s3⟩ := id hT3
        obtain ⟨d4, t4, e4, s4⟩ := id hT4
        exact ⟨_, rfl, p, a, d3, d4, _, _, rfl, eg, e3, e4, p, a, _, _, _, _, rfl, hT3, hT4, fun b _ => ⟨b, rfl, r _ _ sm3 ⟨b, rfl⟩⟩⟩
      · rw [filter_yes] at pb
        obtain ⟨bl, rfl⟩ := paired_bl pb
        refine ⟨D, bl, rfl, SqL.of hd, _, rfl, x, Z.Lot, dx, _, rfl, sm _ _ upd_same, Z.c_Lot.c, Z.n_Lot_swaps, by show 1 < 1000; decide, ?_⟩
        exact q _ _ ((kp1.trans (Kp.of sm)).trans kp_upd) upd_same
end
end L2.KK
namespace L2.KK
open PySem PySem.Spec PyProof.Rows C8
theorem sc_Lot_eq : FnScope ["self", "other"] ["self", "other"] (defScope s_Lot_eq) := ⟨rfl, rfl, rfl, by decide +kernel, rfl, by decide +kernel, by decide +kernel⟩
theorem sc_is_use : FnScope ["lot", "many", "use", "at", "names", "times", "name"] ["lot", "many", "use"] (defScope s_is_use) := ⟨rfl, rfl, rfl, by decide +kernel, rfl, by decide +kernel, by decide +kernel⟩
theorem sc_Puzzle_init : FnScope ["self", "lot", "many", "uses", "spot"] ["self", "lot", "many", "uses"] (defScope s_Puzzle_init) := ⟨rfl, rfl, rfl, by decide +kernel, rfl, by decide +kernel, by decide +kernel⟩
theorem sc_BadDeed_init : FnScope ["self", "deed"] ["self", "deed"] (defScope s_BadDeed_init) := ⟨rfl, rfl, rfl, by decide +kernel, rfl, by decide +kernel, by decide +kernel⟩
/-! ### uses, puzzles, states -/
theorem TabAt.imm {K : PySem.W.Frag} {C : Addr} {H H' : Hp} {a : Addr} {k : Nat} {ps : List (Option Nat)} (h : TabAt K C H a k ps) (e : Imm H H') : TabAt K C H' a k ps := by
  obtain ⟨dx, tp, h1, h2⟩ := h
  exact ⟨dx, tp, e _ _ h1 (by show ¬ ("places" : Str) = "past"; decide), imm_seqT e h2⟩
theorem TabR.imm {K : PySem.W.Frag} {C : Addr} {H H' : Hp} {y : V} {t : Tb} (h : TabR K C H y t) (e : Imm H H') : TabR K C H' y t := by
  obtain ⟨a, h1, h2⟩ := h
  exact ⟨a, h1, h2.imm e⟩
theorem LtAt.imm {K : PySem.W.Frag} {CT CL : Addr} {H H' : Hp} {a : Addr} {tbs : List Tb} (h : LtAt K CT CL H a tbs) (e : Imm H H') : LtAt K CT CL H' a tbs := by
  obtain ⟨dx, tt, b, ys, h1, h2, h3⟩ := h
  exact ⟨dx, tt, b, ys, e _ _ h1 (by show ¬ ("tables" : Str) = "past"; decide), imm_seqT e h2, Paired.mapP h3 fun _ _ q => q.imm e⟩
/-- a use, its parts whole numbers -/
def UiR (K : PySem.W.Frag) (H : Hp) (y : V) (u : Ui) : Prop := ∃ r nr, y = .ref r ∧ SqT K H r [.int u.at_, .ref nr, .int u.times] ∧ SqT K H nr (u.names.map V.int)
theorem UiR.imm {K : PySem.W.Frag} {H H' : Hp} {y : V} {u : Ui} (h : UiR K H y u) (e : Imm H H') : UiR K H' y u := by
  obtain ⟨r, nr, h1, h2, h3⟩ := h
  exact ⟨r, nr, h1, imm_seqT e h2, imm_seqT e h3⟩
def pzF (l : Addr) (many : Nat) (tu : Addr) : List (Str × V) := [("lot", .ref l), ("many", nV many), ("uses", .ref tu)]
def PzAt (K : PySem.W.Frag) (CT CL CP : Addr) (H : Hp) (a : Addr) (tbs : List Tb) (many : Nat) (us : List Ui) : Prop := ∃ dx l tu ys, H a = some (.ins CP dx (pzF l many tu)) ∧ LtAt K CT CL H l tbs ∧ SqT K H tu ys ∧ Paired (UiR K H) ys us
theorem int_at {xs : List Int} {i : Nat} (h : i < xs.length) : (xs.map V.int)[i]? = some (.int (xs.getD i 0)) := by
  rw [List.getElem?_map, List.getD_eq_getElem?_getD, List.getElem?_eq_getElem h]
  rfl
theorem int_getD {xs : List Int} {i : Nat} (h : i < xs.length) : (xs.map V.int).getD i .non = .int (xs.getD i 0) := by
  rw [List.getD_eq_getElem?_getD, int_at h]
  rfl
section
variable {P : Program} {w : World} {K : PySem.W.Frag} {mg : Str → Option Value} {base : Heap}
def spToldB (K : PySem.W.Frag) (C : Addr) : Sp := fun vs H Q _ => ∃ (a : Addr) (t : Tb), vs = [.ref a] ∧ TabAt K C H a t.1 t.2 ∧ Q (.bl (toldB t)) H
theorem c_told_b (D : FnAt K mg "is_told" s_is_told) (Z : Ev K mg) (T : Bl mg) : Cal P w K mg base 1 "is_told" (spToldB K Z.Table) [] := by
  refine calOf D sc_is_told (fun _ _ _ _ _ _ us hl => match us, hl with | [_], _ => rfl) (fun vs H Q E h => ?_) (fun f cdv A outer s H vs Q E hr h => ?_)
  · obtain ⟨a, t, rfl, _⟩ := h
    rfl
  · obtain ⟨a, ⟨k, ps⟩, rfl, ⟨dx, tp, ha, hS⟩, q⟩ := h
    refine ⟨_, (pss_cons (ps_if (PW.pt (pw_or (pt_not (pt_val (pe_callB (crIsi K) (by rfl) T.b_isinstance (by decide +kernel) (pa_cons (pv 0) (pa_cons (pe_glob (v := .ref Z.Table) (by rfl) Z.k_Table (by rfl)) pa_nil))))) (pw_or (pt_cmpR op_eq (peFld K (pv 0)) pe_int (nomark _)) (pw_or1 (pt_cmpR op_isN (peFld K (pv 0)) pe_non (nomark _))))))
        (pss_one (ps_ret pe_bl))
        pss_nil)
      (pss_one (ps_ret (pe_cmpR op_le (peFld K (pv 0)) (pe_gc (by rfl) T.g_DEAREST) (nomark _))))), ?_⟩
    have e : toldB (k, ps) = (decide (k ≠ 0) && ((MK.lowL ps).isSome && (MK.hiL ps).all fun h => decide (h ≤ 1000))) := rfl
    rw [e] at q
    refine ⟨_, rfl, _, _, _, _, true, rfl, .own Z.Table, Z.c_Table.ty ha, Z.s_Table_Table, true, rfl, iteF ?_⟩
    refine ⟨_, rfl, a, Z.Table, dx, _, _, rfl, ha, Z.c_Table.c, Z.n_Table_places, rfl, rfl, _, rfl, ite2 (fun h => ?_) (fun h => ?_)⟩
    · have k0 : k = 0 := by
        have := of_decide_eq_true h
        injection this with e
        omega
      rw [decide_eq_false (fun z => z k0)] at q
      exact q
    · have k0 : k ≠ 0 := fun z => h (decide_eq_true (by rw [z]; rfl))
      rw [decide_eq_true k0] at q
      refine ⟨_, rfl, a, Z.Table, dx, _, _, rfl, ha, Z.c_Table.c, Z.n_Table_least, rfl, rfl, _, rfl, ?_⟩
      cases el : MK.lowL ps with
      | none =>
        rw [el] at q
        exact ite2 (fun _ => q) (fun h => absurd isn_none h)
      | some lo =>
        rw [el] at q
        refine ite2 (fun h => absurd h isn_some) (fun _ => ?_)
        obtain ⟨hi, ehi⟩ := Option.isSome_iff_exists.mp (MK.hiL_some (lowL_some_iff.mp (by rw [el]; rfl)))
        rw [ehi] at q
        refine ⟨_, rfl, a, Z.Table, dx, _, _, rfl, ha, Z.c_Table.c, Z.n_Table_most, rfl, ?_⟩
        rw [ehi]
        refine ⟨hi, 1000, rfl, rfl, ?_⟩
        have e2 : decide ((hi : Int) ≤ 1000) = decide (hi ≤ 1000) := by
          rw [Bool.eq_iff_iff, decide_eq_true_iff, decide_eq_true_iff]
          omega
        show Q (.bl (decide ((hi : Int) ≤ 1000))) H
        rw [e2]
        exact q
def spLotEq (K : PySem.W.Frag) (CT CL : Addr) : Sp := fun vs H Q _ => ∃ (a b : Addr) (tbs tbs' : List Tb), vs = [.ref a, .ref b] ∧ LtAt K CT CL H a tbs ∧ LtAt K CT CL H b tbs' ∧ tbs.length = tbs'.length ∧ ∀ r : Bool, (tbs = tbs' → r = true) → Q (.bl r) H
theorem c_Lot_eq (Z : Ev K mg) (T : Bl mg) (c_Table_eq : Met P w K mg base 1 Z.Table "__eq__" (spTabEq K Z.Table) []) : Met P w K mg base 3 Z.Lot "__eq__" (spLotEq K Z.Table Z.Lot) [] := by
  obtain ⟨f_Table_eq, fd_eq, ps_eq, me_Table_eq, F_Table_eq, b_Table_eq⟩ := met_parts c_Table_eq
  refine metOf Z.c_Lot.c Z.m_Lot_eq sc_Lot_eq (fun _ _ _ _ _ _ us hl => match us, hl with | [_, _], _ => rfl) (fun vs H Q E h => ?_) (fun f cdv A outer s H vs Q E hr h => ?_)
  · obtain ⟨a, b, tbs, tbs', rfl, _⟩ := h
    rfl
  · obtain ⟨a, b, tbs, tbs', rfl, ⟨dx, tt, sb, ys, ha, hS, pr⟩, ⟨dx', tt', sb', ys', hb, hS', pr'⟩, hl, q⟩ := h
    have hu := hr.units
    obtain ⟨yl, ya⟩ := paired_at pr
    obtain ⟨yl', ya'⟩ := paired_at pr'
    refine ⟨_, (pss_one (ps_ret (pe_and (pe_callB (crIsi K) (by rfl) T.b_isinstance (by decide +kernel) (pa_cons (pv 1) (pa_cons (pe_glob (v := .ref Z.Lot) (by rfl) Z.k_Lot (by rfl)) pa_nil))) (pe_one (pe_cmpR (op_eqTI F_Table_eq me_Table_eq b_Table_eq (hr.mono (by decide))) (peFld K (pv 0)) (peFld K (pv 1)) (nomark _)))))), ?_⟩
    refine ⟨_, rfl, _, _, _, _, true, rfl, .own Z.Lot, Z.c_Lot.ty hb, Z.s_Lot_Lot, true, rfl, iteT ?_⟩
    refine ⟨_, rfl, a, Z.Lot, dx, _, _, rfl, ha, Z.c_Lot.c, Z.n_Lot_tables, rfl, _, rfl, b, Z.Lot, dx', _, _, rfl, hb, Z.c_Lot.c, Z.n_Lot_tables, rfl, ?_⟩
    refine ⟨tt, tt', ys, ys', fun i => decide (ys[i]? = ys'[i]? ∨ tbs[i]? = tbs'[i]?), rfl, rfl, hS, hS', by omega, fun i hi => ?_, fun r hr => q r fun e => hr.mpr fun i _ => decide_eq_true (.inr (by rw [e]))⟩
    have hy : ys[i]? = some ys[i] := List.getElem?_eq_getElem hi
    have hy' : ys'[i]? = some (ys'[i]'(by omega)) := List.getElem?_eq_getElem (by omega)
    obtain ⟨t, ht, p, ep, hT⟩ := ya i _ hy
    obtain ⟨t', ht', p', ep', hT'⟩ := ya' i _ hy'
    obtain ⟨d3, t3, e3, s3⟩ := id hT
    obtain ⟨d4, t4, e4, s4⟩ := id hT'
    refine ⟨p, p', d3, d4, _, _, by rw [hy, ep], by rw [hy', ep'], e3, e4, fun z => decide_eq_true (.inl (by rw [hy, hy', ep, ep', z])), fun ne => ?_⟩
    refine ⟨p, p', _, _, _, _, rfl, hT, hT', fun r hr => ⟨congrArg V.bl ?_, rfl⟩⟩
    rw [Bool.eq_iff_iff, decide_eq_true_iff, hr]
    constructor
    · intro h
      refine .inr ?_
      rw [ht, ht', show t = t' from Prod.ext h.1 h.2]
    · intro h
      rcases h with h | h
      · rw [hy, hy', ep, ep'] at h
        injection h with h
        injection h with h
        exact absurd h ne
      · rw [ht, ht'] at h
        injection h with h
        rw [h]
        exact ⟨rfl, rfl⟩
def spUseB (K : PySem.W.Frag) (CT CL : Addr) : Sp := fun vs H Q _ => ∃ (l r : Addr) (many : Nat) (tbs : List Tb) (u : Ui), vs = [.ref l, nV many, .ref r] ∧ LtAt K CT CL H l tbs ∧ 1 ≤ tbs.length ∧ UiR K H (.ref r) u ∧ u.names.length ≤ 1000 ∧ ∀ H', Same H H' → Q (.bl (useB tbs many u)) H'
theorem c_use_b (D : FnAt K mg "is_use" s_is_use) (Z : Ev K mg) (T : Bl mg) (c_is_whole : Cal P w K mg base 1 "is_whole" spWhole []) : Cal P w K mg base 2 "is_use" (spUseB K Z.Table Z.Lot) [] := by
  refine calOf D sc_is_use (fun _ _ _ _ _ _ us hl => match us, hl with | [_, _, _], _ => rfl) (fun vs H Q E h => ?_) (fun f cdv A outer s H vs Q E hr h => ?_)
  · obtain ⟨l, r, many, tbs, u, rfl, _⟩ := h
    rfl
  · obtain ⟨l, r, many, tbs, u, rfl, ⟨dx, tt, sb, ys, hl, hS, pr⟩, h1, ⟨r', nr, er, hr1, hn⟩, n4, q⟩ := h
    have nd := sc_is_use.nd
    cases er
    obtain ⟨yl, ya⟩ := paired_at pr
    have q0 := q H (Same.refl H)
    refine ⟨_, (pss_cons (ps_if (PW.pt (pw_or (pt_not (pt_val (pe_callB (crIsi K) (by rfl) T.b_isinstance (by decide +kernel) (pa_cons (pv 2) (pa_cons (pe_bltn (v := .ty "tuple") (u := .type "tuple") (by rfl) T.b_tuple (by decide +kernel) (by rfl)) pa_nil))))) (pw_or1 (pt_cmpR op_ne (pe_callB (crLen K) (by rfl) T.b_len (by decide +kernel) (pa_cons (pv 2) pa_nil)) pe_int (nomark _)))))
        (pss_one (ps_ret pe_bl))
        pss_nil)
      (pss_cons (ps_asg (pv 2) (pgTup K rfl (pgs_cons (pg_name (i := 3) nd rfl (by first | exact Or.inl rfl | exact Or.inr rfl)) (pgs_cons (pg_name (i := 4) nd rfl (by first | exact Or.inl rfl | exact Or.inr rfl)) (pgs_cons (pg_name (i := 5) nd rfl (by first | exact Or.inl rfl | exact Or.inr rfl)) pgs_nil)))))
      (pss_cons (ps_if (PW.pt (pw_or (pt_not (pt_val (pe_c c_is_whole hr (by decide) (by rfl) (pa_cons (pv 3) (pa_cons pe_int (pa_cons (pe_op op_subNN (pe_callB (crLen K) (by rfl) T.b_len (by decide +kernel) (pa_cons (peFld K (pv 0)) pa_nil)) pe_int) pa_nil)))))) (pw_or1 (pt_not (pt_val (pe_c c_is_whole hr (by decide) (by rfl) (pa_cons (pv 5) (pa_cons pe_int (pa_cons (pe_gc (by rfl) T.g_TIMES) pa_nil)))))))))
        (pss_one (ps_ret pe_bl))
        pss_nil)
      (pss_cons (ps_if (PW.pt (pw_or (pt_not (pt_val (pe_callB (crIsi K) (by rfl) T.b_isinstance (by decide +kernel) (pa_cons (pv 4) (pa_cons (pe_bltn (v := .ty "tuple") (u := .type "tuple") (by rfl) T.b_tuple (by decide +kernel) (by rfl)) pa_nil))))) (pw_or1 (pt_cmpR op_ne (pe_callB (crLen K) (by rfl) T.b_len (by decide +kernel) (pa_cons (pv 4) pa_nil)) (peFld K (pe_ix (ixT K) (peFld K (pv 0)) (pv 3) (fun _ _ => rfl))) (nomark _)))))
        (pss_one (ps_ret pe_bl))
        pss_nil)
      (pss_one (ps_ret (pe_callB (crAll K) (by rfl) T.b_all (by decide +kernel) (pa_cons (pe_lc (own := [("name", 6)]) (g := gName 6) (tt := tYes) rfl nd (piTup K (pv 4)) (blkOk_by (N := ["lot", "many", "use", "at", "names", "times", "name"]) (sc := defScope s_is_use) (own := [("name", 6)]) (by decide +kernel)) (fun _ _ _ _ _ => (pg_name (i := 6) nd rfl (by first | exact Or.inl rfl | exact Or.inr rfl))) (fun _ _ _ _ _ => pts_nil) (fun _ _ _ _ _ => (pe_c c_is_whole hr (by decide) (by rfl) (pa_cons (pv 6) (pa_cons pe_int (pa_cons (pe_op op_sub (pv 1) pe_int) pa_nil)))))) pa_nil)))))))), ?_⟩
    refine ⟨_, rfl, _, _, .type "tuple", .type "tuple", true, rfl, .ty "tuple", tyx_seqT hr1, kit_ty (by decide +kernel), true, rfl, iteF ?_⟩
    refine ⟨_, rfl, r, _, rfl, .inr hr1, rfl, false, nbl_t rfl, iteF ?_⟩
    refine ⟨_, rfl, r, _, rfl, hr1, rfl, ?_⟩
    refine ⟨_, _, rfl, _, _, rfl, _, _, rfl, rfl, ?_⟩
    have e : useB tbs many u = (decide (0 ≤ u.at_ ∧ u.at_ ≤ (tbs.length : Int) - 1) && (decide (1 ≤ u.times ∧ u.times ≤ 10 ^ 40) && (decide ((u.names.length : Int) = ((tbs.getD u.at_.toNat (0, [])).1 : Int)) && u.names.all fun n => decide (0 ≤ n ∧ n ≤ (many : Int) - 1)))) := rfl
    rw [e] at q0
    have lc : ((ys.length - 1 : Nat) : Int) = (tbs.length : Int) - 1 := by omega
    refine ⟨_, rfl, _, rfl, l, Z.Lot, dx, _, _, rfl, hl, Z.c_Lot.c, Z.n_Lot_tables, rfl, tt, ys, rfl, .inr hS, ys.length, 1, rfl, rfl, by omega, u.at_, 0, _, rfl, _, rfl, ite2 (fun hc => ?_) (fun hc => ?_)⟩
    · rw [lc, Bool.not_eq_true'] at hc
      rw [hc] at q0
      exact q0
    rw [lc, Bool.not_eq_true', Bool.not_eq_false] at hc
    rw [hc] at q0
    have hat := of_decide_eq_true hc
    refine ⟨_, rfl, u.times, 1, 10 ^ 40, rfl, _, rfl, ite2 (fun hc2 => ?_) (fun hc2 => ?_)⟩
    · rw [Bool.not_eq_true'] at hc2
      rw [hc2] at q0
      exact q0
    rw [Bool.not_eq_true', Bool.not_eq_false] at hc2
    rw [hc2] at q0
    obtain ⟨at_, hat_⟩ : ∃ n : Nat, u.at_ = (n : Int) := ⟨u.at_.toNat, by omega⟩
    have hlt : at_ < ys.length := by omega
    have hy : ys[at_]? = some ys[at_] := List.getElem?_eq_getElem hlt
    obtain ⟨t, ht, a, ea, dt, tp, hta, htp⟩ := ya _ _ hy
    have eg : (tbs.getD u.at_.toNat (0, [])).1 = t.1 := by
      rw [hat_, Int.toNat_natCast, List.getD_eq_getElem?_getD, ht]
      rfl
    refine ⟨_, rfl, _, _, .type "tuple", .type "tuple", true, rfl, .ty "tuple", tyx_seqT hn, kit_ty (by decide +kernel), true, rfl, iteF ?_⟩
    refine ⟨_, rfl, nr, _, rfl, .inr hn, _, rfl, l, Z.Lot, dx, _, _, rfl, hl, Z.c_Lot.c, Z.n_Lot_tables, rfl, _, rfl, tt, ys, u.at_, _, rfl, rfl, hS, by rw [hat_]; exact atI_nat hy, a, Z.Table, dt, _, _, ea, hta, Z.c_Table.c, Z.n_Table_places, rfl, rfl, _, rfl, ite2 (fun hc3 => ?_) (fun hc3 => ?_)⟩
    · have ne : ¬ ((u.names.length : Int) = (t.1 : Int)) := fun z => by
        rw [Bool.not_eq_true', decide_eq_false_iff_not, List.length_map] at hc3
        exact hc3 (congrArg V.int z)
      rw [eg, decide_eq_false ne] at q0
      exact q0
    have eqn : (u.names.length : Int) = (t.1 : Int) := by
      rw [Bool.not_eq_true', Bool.not_eq_false, decide_eq_true_eq, List.length_map] at hc3
      injection hc3
    refine ⟨_, rfl, nr, rfl, ⟨_, hn⟩, fun D hD => lc_tupT hn (sel := fun _ => true) (P := fun i y _ => y = .bl (decide (0 ≤ u.names.getD i 0 ∧ u.names.getD i 0 ≤ (many : Int) - 1))) ⟨fun _ _ _ _ _ h => h, fun i H2 _ _ R r => r H2 (Same.refl H2), fun i H2 hi _ sm R r => ?_⟩ hD (lt_line (by rw [List.length_map]; omega)) (fun H2 bs sm hd _ pb => ?_)⟩
    · rw [List.length_map] at hi
      exact ⟨_, rfl, _, rfl, (many : Int), 1, rfl, rfl, u.names.getD i 0, 0, (many : Int) - 1, by rw [int_getD hi]; rfl, r _ H2 (Same.refl H2) rfl⟩
    · rw [filter_yes, List.length_map] at pb
      have ey : bs = (u.names.map fun n => decide (0 ≤ n ∧ n ≤ (many : Int) - 1)).map V.bl := by
        rw [paired_map_eq pb]
        have z := congrArg (List.map fun n => V.bl (decide (0 ≤ n ∧ n ≤ (many : Int) - 1))) (map_range_get u.names 0)
        rw [List.map_map] at z
        rw [List.map_map]
        exact z
      rw [ey] at hd
      refine ⟨D, _, rfl, SqL.of hd, ?_⟩
      have q1 := q H2 sm
      rw [e, hc, hc2, eg, decide_eq_true eqn] at q1
      rw [List.all_map]
      exact q1
def spPz (K : PySem.W.Frag) (CT CL CP : Addr) : Sp := fun vs H Q _ => ∃ (x dx l tu : Addr) (many : Nat) (tbs : List Tb) (ys : List V) (us : List Ui), vs = [.ref x, .ref l, nV many, .ref tu] ∧ H x = some (.ins CP dx []) ∧ LtAt K CT CL H l tbs ∧ 1 ≤ tbs.length ∧ SqT K H tu ys ∧ Paired (UiR K H) ys us ∧
  many ≤ 400 ∧ us.length ≤ 1000 ∧ (∀ u ∈ us, useB tbs many u = true ∧ u.names.length ≤ 1000) ∧ ∀ H', Kp x H H' → H' x = some (.ins CP dx (pzF l many tu)) → Q .non H'
theorem c_Puzzle (Z : Ev K mg) (T : Bl mg) (c_is_whole : Cal P w K mg base 1 "is_whole" spWhole []) (c_is_use : Cal P w K mg base 2 "is_use" (spUseB K Z.Table Z.Lot) []) : Mak P w K mg base 3 "Puzzle" Z.Puzzle (spPz K Z.Table Z.Lot Z.Puzzle) [] := by
  refine makOf Z.k_Puzzle Z.i_Puzzle sc_Puzzle_init (fun _ _ _ _ _ _ us hl => match us, hl with | [_, _, _, _], _ => rfl) (fun vs H Q E h => ?_) (fun f cdv A outer s H vs Q E hr h => ?_)
  · obtain ⟨x, dx, l, tu, many, tbs, ys, us, rfl, _⟩ := h
    rfl
  · obtain ⟨x, dx, l, tu, many, tbs, ys, us, rfl, hx, hL, h1, hS, pr, hm, hu, ok, q⟩ := h
    have nd := sc_Puzzle_init.nd
    obtain ⟨yl, ya⟩ := paired_at pr
    refine ⟨_, (pss_cons (ps_if (pt_not (pt_val (pe_callB (crIsi K) (by rfl) T.b_isinstance (by decide +kernel) (pa_cons (pv 1) (pa_cons (pe_glob (v := .ref Z.Lot) (by rfl) Z.k_Lot (by rfl)) pa_nil)))))
        (pss_one ps_never)
        pss_nil)
      (pss_cons (ps_if (pt_not (pt_val (pe_c c_is_whole hr (by decide) (by rfl) (pa_cons (pv 2) (pa_cons pe_int (pa_cons (pe_gc (by rfl) T.g_NAMES) pa_nil))))))
        (pss_one ps_never)
        pss_nil)
      (pss_cons (ps_if (PW.pt (pw_or (pt_not (pt_val (pe_callB (crIsi K) (by rfl) T.b_isinstance (by decide +kernel) (pa_cons (pv 3) (pa_cons (pe_bltn (v := .ty "tuple") (u := .type "tuple") (by rfl) T.b_tuple (by decide +kernel) (by rfl)) pa_nil))))) (pw_or1 (pt_cmpR op_gt (pe_callB (crLen K) (by rfl) T.b_len (by decide +kernel) (pa_cons (pv 3) pa_nil)) (pe_gc (by rfl) T.g_USES) (nomark _)))))
        (pss_one ps_never)
        pss_nil)
      (pss_cons (ps_for PassesOwn.never rfl (pi_range1 (by rfl) T.b_range (pa_cons (pe_callB (crLen K) (by rfl) T.b_len (by decide +kernel) (pa_cons (pv 3) pa_nil)) pa_nil)) (pg_name (i := 4) nd rfl (by first | exact Or.inl rfl | exact Or.inr rfl))
        (pss_one (ps_if (pt_not (pt_val (pe_c c_is_use hr (by decide) (by rfl) (pa_cons (pv 1) (pa_cons (pv 2) (pa_cons (pe_ix (ixT K) (pv 3) (pv 4) (fun _ _ => rfl)) pa_nil))))))
          (pss_one ps_never)
          pss_nil)))
      (pss_cons (ps_fld (pv 0) (pv 1) (by rfl))
      (pss_cons (ps_fld (pv 0) (pv 2) (by rfl))
      (pss_one (ps_fld (pv 0) (pv 3) (by rfl))))))))), ?_⟩
    have hL0 := hL
    obtain ⟨dl, tt, sb, zs, hl, _, _⟩ := hL0
    refine ⟨_, rfl, _, _, _, _, true, rfl, .own Z.Lot, Z.c_Lot.ty hl, Z.s_Lot_Lot, true, rfl, iteF ?_⟩
    refine ⟨_, rfl, (many : Int), 0, 400, rfl, true, bl_t ⟨by omega, by omega⟩, iteF ?_⟩
    refine ⟨_, rfl, _, _, .type "tuple", .type "tuple", true, rfl, .ty "tuple", tyx_seqT hS, kit_ty (by decide +kernel), true, rfl, iteF ?_⟩
    refine ⟨_, rfl, tu, ys, rfl, .inr hS, _, _, rfl, rfl, false, bl_f (by omega), iteF ?_⟩
    refine ⟨_, rfl, tu, ys, rfl, .inr hS, _, rfl, by omega, by omega, ?_⟩
    rw [Int.toNat_natCast]
    refine for_range (lo := 0) (n := ys.length) (fun i σ' H' => ∃ c4 : Option V, σ' = [some (.ref x), some (.ref l), some (nV many), some (.ref tu), c4] ∧ Same H H') ⟨none, rfl, Same.refl H⟩ ?_ ?_
    · rintro i σ' H' hi ⟨c2, rfl, sm⟩
      have hy : ys[i]? = some ys[i] := List.getElem?_eq_getElem hi
      obtain ⟨u, hu2, hR⟩ := ya i _ hy
      have o := ok u (List.mem_of_getElem? hu2)
      have hR0 := hR.imm (Same.imm sm)
      obtain ⟨r, nr, er, _, _⟩ := id hR
      refine ⟨_, rfl, _, rfl, _, rfl, _, rfl, tu, ys, (i : Int), ys[i], rfl, by rw [Int.zero_add], same_seqT sm hS, atI_nat hy, l, r, many, tbs, u, by rw [er]; rfl, hL.grow sm, h1, by rw [← er]; exact hR0, o.2, fun H2 sm2 => ?_⟩
      rw [o.1]
      exact ⟨true, rfl, iteF ⟨_, rfl, sm.trans sm2⟩⟩
    · rintro σ' H' ⟨c2, rfl, sm⟩
      have hx' := sm _ _ hx
      refine ⟨_, rfl, _, rfl, x, Z.Puzzle, dx, _, rfl, hx', Z.c_Puzzle.c, Z.n_Puzzle_lot, by decide, ?_⟩
      refine ⟨_, rfl, _, rfl, x, Z.Puzzle, dx, _, rfl, upd_same, Z.c_Puzzle.c, Z.n_Puzzle_many, by show 1 < 1000; decide, ?_⟩
      rw [upd_upd]
      refine ⟨_, rfl, _, rfl, x, Z.Puzzle, dx, _, rfl, upd_same, Z.c_Puzzle.c, Z.n_Puzzle_uses, by show 2 < 1000; decide, ?_⟩
      rw [upd_upd]
      exact q _ ((Kp.of sm).trans kp_upd) upd_same
/-- __init__(self, x), x a text that is told in the message: the base's, then one field -/
def spX1S (K : PySem.W.Frag) (C : Addr) (fld : Str) : Sp := fun vs H Q _ => ∃ (a : Addr) (z : Str), vs = [.ref a, .str z] ∧ z.length ≤ 1000 ∧ H a = some (exo a C none) ∧ ∀ dx, H dx = none → dx ≠ a → Q .non (upd (upd H dx (exd dx [(fld, .str z)])) a (exo a C (some dx)))
theorem mkO_1S {C : Addr} {fld z : Str} {H : Hp} {Q : XK} (hz : z.length ≤ 1000) (k : ∀ (d : Addr) (H' : Hp), Same H H' → H d = none → H' d = some (.xd [(fld, .str z)]) → Q (.ref C) (some d) H') : ∀ a, H a = none → spX1S K C fld (.ref a :: ([.str z] ++ [])) (upd H a (exo a C none))
    (fun u H2 => u = .non ∧ ∃ (d : Addr) (fs : List (Str × V)), H2 a = some (exo a C (some d)) ∧ H2 d = some (exd d fs) ∧ H d = none ∧ Q (.ref C) (some d) (upd (del H2 a) d (.xd fs))) (fun _ _ _ => False) := fun a ha => by
  refine ⟨a, z, rfl, hz, upd_same, fun dx hd ne => ⟨rfl, dx, [(fld, .str z)], upd_same, by rw [upd_ne ne, upd_same], ?_, ?_⟩⟩
  · rw [upd_ne ne] at hd
    exact hd
  · rw [upd_ne ne] at hd
    refine k dx _ (fun b o e => ?_) hd upd_same
    have n1 : b ≠ dx := ne_of_none e hd
    have n2 : b ≠ a := ne_of_none e ha
    rw [upd_ne n1, del_ne n2, upd_ne n2, upd_ne n1, upd_ne n2]
    exact e
theorem x_BadDeed (Z : Ev K mg) (T : Bl mg) : MakX P w K mg base 1 "BadDeed" Z.BadDeed (spX1S K Z.BadDeed "deed") := by
  refine makXOf Z.k_BadDeed Z.o_BadDeed Z.d_BadDeed sc_BadDeed_init (fun _ _ _ _ _ _ us hl => match us, hl with | [_, _], _ => rfl) (fun vs H Q E h => ?_) (fun f cdv A outer s H vs Q E hr h => ?_)
  · obtain ⟨a, v, rfl, _⟩ := h
    rfl
  · obtain ⟨a, z, rfl, hz, ha, q⟩ := h
    refine ⟨_, (pss_cons (ps_expr (pe_pinit Z.b_PricedError Z.k_PricedError (by rfl) (pa_cons (pv 0) (pa_cons (pe_op op_add_str pe_str (pv 1)) pa_nil))))
      (pss_one (ps_ost (pv 0) (pv 1)))), ?_⟩
    have l10 : (Str.ofString "bad deed: ").length = 10 := by decide
    exact ⟨_, rfl, _, rfl, _, _, rfl, rfl, by rw [l10, sizeLine_eq]; omega, a, Z.BadDeed, _, rfl, by show 1 ≤ 1000; decide, Z.o_BadDeed.oex, ha, _, rfl, _, rfl, a, Z.BadDeed, rfl, Z.o_BadDeed.oex, Z.n_BadDeed_deed, .inl ⟨ha, fun dx hd ne => q dx hd ne⟩⟩
end
end L2.KK
/-! comprehensions whose target is a pair -/
namespace L2.KK
open PySem PySem.Spec PyProof.Rows C8
section
variable {K : PySem.W.Frag} {H : Hp} {D : Addr} {σ : St} {st : Nat → St} {i1 i2 : Nat} {tt : TT} {te : TE} {Qd : Hp → Prop} {n : Nat} {sel : Nat → Bool} {P : Nat → V → Hp → Prop}
structure TurnsS (H : Hp) (st : Nat → St) (n : Nat) (tt : TT) (te : TE) (sel : Nat → Bool) (P : Nat → V → Hp → Prop) : Prop where
  mono : ∀ i y H H', SameT H H' → P i y H → P i y H'
  test : ∀ i H', i < n → Same H H' → ∀ Q : Bool → Hp → Prop, (∀ H'', Same H' H'' → Q (sel i) H'') → tt (st i) H' Q
  elt : ∀ i H', i < n → sel i = true → Same H H' → ∀ Q : VK, (∀ y H'', Same H' H'' → P i y H'' → Q y H'') → te (st i) H' Q
theorem TurnsS.go (T : TurnsS H st n tt te sel P) (hD : H D = none) (hz : n ≤ sizeLine) {i : Nat} {H' : Hp} (hi : i < n) (M : Made H D sel P i H') :
    tt (st i) H' fun b H3 => if b = true then te (st i) H3 fun y H4 => ∃ acc, H4 D = some (.lst acc) ∧ acc.length < sizeLine ∧ Made H D sel P (i + 1) (upd H4 D (.lst (acc ++ [y]))) else Made H D sel P (i + 1) H3 := by
  obtain ⟨sm, ys, hd, hl, pr⟩ := M
  refine T.test i H' hi sm _ fun H3 s3 => ?_
  have rs : (List.range (i + 1)).filter sel = (List.range i).filter sel ++ (if sel i = true then [i] else []) := by
    rw [List.range_succ, List.filter_append]
    rw [List.filter_cons, List.filter_nil]
  cases hsel : sel i with
  | true =>
    refine iteT ?_
    refine T.elt i H3 hi hsel (sm.trans s3) _ fun y H4 s4 p => ?_
    refine ⟨ys, s4 _ _ (s3 _ _ hd), by omega, same_fresh ((sm.trans s3).trans s4) hD, ys ++ [y], upd_same, by rw [List.length_append]; show ys.length + 1 ≤ i + 1; omega, ?_⟩
    rw [rs, hsel, if_pos rfl]
    have s5 := sameT_lst (ys := ys ++ [y]) (s4 _ _ (s3 _ _ hd))
    exact paired_snoc (Paired.mapP pr fun y j q => T.mono _ _ _ _ s5 (T.mono _ _ _ _ (sameT_of (s3.trans s4)) q)) (T.mono _ _ _ _ s5 p)
  | false =>
    refine iteF ?_
    exact ⟨sm.trans s3, ys, s3 _ _ hd, by omega, by rw [rs, hsel, if_neg Bool.false_ne_true, List.append_nil]; exact Paired.mapP pr fun y j q => T.mono _ _ _ _ (sameT_of s3) q⟩
/-- [.. for x, y in a tuple of pairs] -/
theorem lc_pairT {a : Addr} {xs : List V} {f1 f2 : Nat → V} (hx : SqT K H a xs) (items : ∀ i, i < xs.length → ∃ p, xs[i]? = some (.ref p) ∧ SqT K H p [f1 i, f2 i])
    (hw : ∀ x y, wipe (((wipe σ [i1, i2]).set i1 (some x)).set i2 (some y)) [i1, i2] = wipe σ [i1, i2])
    (T : TurnsS H (fun i => ((wipe σ [i1, i2]).set i1 (some (f1 i))).set i2 (some (f2 i))) xs.length tt te sel P) (hD : H D = none) (hz : xs.length ≤ sizeLine)
    (hd : ∀ H' ys, Same H H' → H' D = some (.lst ys) → ys.length ≤ xs.length → Paired (fun y j => P j y H') ys ((List.range xs.length).filter sel) → Qd H') :
    ∃ W : Nat → Nat → Hp → Prop, (∃ m, W 0 m (upd H D (.lst []))) ∧ ∀ i m H, W i m H →
      ((Itt K a).stop i H ∧ Qd H) ∨ ((Itt K a).go i H ∧ ∃ Nx : Hp → Prop, (∀ H', Nx H' → ∃ m', m' < m ∧ W (i + 1) m' H') ∧ ∀ x H', (Itt K a).yld i H x H' → gTup K 2 (gCons (gName i1) (gCons (gName i2) gNil)) x (wipe σ [i1, i2]) H' fun σ2 H2 => wipe σ2 [i1, i2] = wipe σ [i1, i2] ∧ tt σ2 H2 fun b H3 =>
        if b = true then te σ2 H3 fun y H4 => ∃ acc, H4 D = some (.lst acc) ∧ acc.length < sizeLine ∧ Nx (upd H4 D (.lst (acc ++ [y]))) else Nx H3) :=
  lc_it walk_tup (Made H D sel P) (Turns.start hD) (fun _ _ _ M => same_seqT M.1 hx) (fun i x H0 H' hi M y => by
    obtain ⟨rfl, rfl⟩ := yAt_item y
    obtain ⟨p, hp, hS⟩ := items i hi
    refine ⟨p, [f1 i, f2 i], by rw [List.getD_eq_getElem?_getD, hp]; rfl, same_seqT M.1 hS, rfl, f1 i, [f2 i], rfl, f2 i, [], rfl, rfl, hw _ _, ?_⟩
    exact T.go hD hz hi M) fun H' ⟨a, ys, b, c, d⟩ => hd H' ys a b c d
end
section
variable {X : Cx} {k j : Nat} {x : Str} {sp : Sp} {p pos : Pos}
/-- a def without parameters, called -/
theorem pe_c0 (c : Cal X.prog X.w X.K X.mg X.base k x sp []) (hr : Room j X.A) (hk : k ≤ j) (hg : Gl X x) (hdb : (x == ("__debug__" : Str)) = false := by decide) : PE X (.Call (.Name x p) [] [] pos) (tCall sp [] E0 tNil) := by
  obtain ⟨f, fd, ps, ds, F, hm, kp, b, d⟩ := c.ex
  exact pe_call0 F (hr.mono hk) hg hm kp b d pass0 hdb
end
end L2.KK
namespace L2.KK
open PySem PySem.Spec PyProof.Rows C8
theorem sc_State_init : FnScope ["self", "lot", "many", "rows", "ahead"] ["self", "lot", "many", "rows", "ahead"] (defScope s_State_init) := ⟨rfl, rfl, rfl, by decide +kernel, rfl, by decide +kernel, by decide +kernel⟩
theorem sc_State_numbers : FnScope ["self", "number", "use"] ["self"] (defScope s_State_numbers) := ⟨rfl, rfl, rfl, by decide +kernel, rfl, by decide +kernel, by decide +kernel⟩
theorem sc_State_puzzle : FnScope ["self", "number", "use"] ["self"] (defScope s_State_puzzle) := ⟨rfl, rfl, rfl, by decide +kernel, rfl, by decide +kernel, by decide +kernel⟩
/-! ### states -/
def stF (l : Addr) (many : Nat) (rp : Addr) (ahead : Nat) : List (Str × V) := [("lot", .ref l), ("many", nV many), ("rows", .ref rp), ("ahead", nV ahead)]
def RowR (K : PySem.W.Frag) (H : Hp) (y : V) (r : Nat × Ui) : Prop := ∃ p yu, y = .ref p ∧ SqT K H p [nV r.1, yu] ∧ UiR K H yu r.2
theorem RowR.imm {K : PySem.W.Frag} {H H' : Hp} {y : V} {r : Nat × Ui} (h : RowR K H y r) (e : Imm H H') : RowR K H' y r := by
  obtain ⟨p, yu, h1, h2, h3⟩ := h
  exact ⟨p, yu, h1, imm_seqT e h2, h3.imm e⟩
def StAt (K : PySem.W.Frag) (CT CL CS : Addr) (H : Hp) (a : Addr) (b : Bk) : Prop := ∃ dx l rp ys, H a = some (.ins CS dx (stF l b.many rp b.ahead)) ∧ LtAt K CT CL H l b.tbs ∧ SqT K H rp ys ∧ Paired (RowR K H) ys b.rows
theorem StAt.imm {K : PySem.W.Frag} {CT CL CS : Addr} {H H' : Hp} {a : Addr} {b : Bk} (h : StAt K CT CL CS H a b) (e : Imm H H') : StAt K CT CL CS H' a b := by
  obtain ⟨dx, l, rp, ys, h1, h2, h3, h4⟩ := h
  exact ⟨dx, l, rp, ys, e _ _ h1 (by show ¬ ("lot" : Str) = "past"; decide), h2.imm e, imm_seqT e h3, Paired.mapP h4 fun _ _ q => q.imm e⟩
/-- a state, made -/
theorem mk_state {K : PySem.W.Frag} {CT CL CS : Addr} {H : Hp} {x dx l rp : Addr} {ys : List V} {b : Bk} (hx : H x = none) (hdx : H dx = none) (ne : dx ≠ x) (hL : LtAt K CT CL H l b.tbs) (hS : SqT K H rp ys) (pr : Paired (RowR K H) ys b.rows) :
    Same H (upd (upd H dx (.own x)) x (.ins CS dx (stF l b.many rp b.ahead))) ∧ StAt K CT CL CS (upd (upd H dx (.own x)) x (.ins CS dx (stF l b.many rp b.ahead))) x b := by
  have h2 : (upd H dx (.own x)) x = none := by rw [upd_ne ne.symm]; exact hx
  have sm : Same H (upd (upd H dx (.own x)) x (.ins CS dx (stF l b.many rp b.ahead))) := (same_new hdx).trans (same_new h2)
  exact ⟨sm, dx, l, rp, ys, upd_same, hL.grow sm, same_seqT sm hS, Paired.mapP pr fun _ _ q => q.imm (Same.imm sm)⟩
theorem paired_rangeD {α : Type} {F : V → α → Prop} (d : α) : ∀ {us : List α} {ys : List V}, Paired (fun y i => F y (us.getD i d)) ys (List.range us.length) → Paired F ys us := by
  intro us ys h
  have q := paired_mapR (fun i => us.getD i d) h
  rw [map_range_get] at q
  exact q
section
variable {P : Program} {w : World} {K : PySem.W.Frag} {mg : Str → Option Value} {base : Heap}
def spSt (CS : Addr) : Sp := fun vs H Q _ => ∃ (x dx l rp : Addr) (many ahead : Nat), vs = [.ref x, .ref l, nV many, .ref rp, nV ahead] ∧ H x = some (.ins CS dx []) ∧ Q .non (upd H x (.ins CS dx (stF l many rp ahead)))
theorem c_State (Z : Ev K mg) (T : Bl mg) : Mak P w K mg base 1 "State" Z.State (spSt Z.State) [] := by
  refine makOf Z.k_State Z.i_State sc_State_init (fun _ _ _ _ _ _ us hl => match us, hl with | [_, _, _, _, _], _ => rfl) (fun vs H Q E h => ?_) (fun f cdv A outer s H vs Q E hr h => ?_)
  · obtain ⟨x, dx, l, rp, many, ahead, rfl, _⟩ := h
    rfl
  · obtain ⟨x, dx, l, rp, many, ahead, rfl, hx, q⟩ := h
    refine ⟨_, (pss_cons (ps_fld (pv 0) (pv 1) (by rfl))
      (pss_cons (ps_fld (pv 0) (pv 2) (by rfl))
      (pss_cons (ps_fld (pv 0) (pv 3) (by rfl))
      (pss_one (ps_fld (pv 0) (pv 4) (by rfl)))))), ?_⟩
    refine ⟨_, rfl, _, rfl, x, Z.State, dx, _, rfl, hx, Z.c_State.c, Z.n_State_lot, by decide, ?_⟩
    refine ⟨_, rfl, _, rfl, x, Z.State, dx, _, rfl, upd_same, Z.c_State.c, Z.n_State_many, by show 1 < 1000; decide, ?_⟩
    rw [upd_upd]
    refine ⟨_, rfl, _, rfl, x, Z.State, dx, _, rfl, upd_same, Z.c_State.c, Z.n_State_rows, by show 2 < 1000; decide, ?_⟩
    rw [upd_upd]
    refine ⟨_, rfl, _, rfl, x, Z.State, dx, _, rfl, upd_same, Z.c_State.c, Z.n_State_ahead, by show 3 < 1000; decide, ?_⟩
    rw [upd_upd]
    exact q
/-- the rows' pairs -/
theorem rows_items {H : Hp} {ys : List V} {rows : List (Nat × Ui)} (pr : Paired (RowR K H) ys rows) : ∃ yu : Nat → V, (∀ i, i < ys.length → ∃ p, ys[i]? = some (.ref p) ∧ SqT K H p [nV (rows.getD i (0, ⟨0, [], 0⟩)).1, yu i]) ∧ ∀ i, i < ys.length → UiR K H (yu i) (rows.getD i (0, ⟨0, [], 0⟩)).2 := by
  obtain ⟨yl, ya⟩ := paired_at pr
  have each : ∀ i, ∃ yu, i < ys.length → (∃ p, ys[i]? = some (.ref p) ∧ SqT K H p [nV (rows.getD i (0, ⟨0, [], 0⟩)).1, yu]) ∧ UiR K H yu (rows.getD i (0, ⟨0, [], 0⟩)).2 := fun i => by
    by_cases hi : i < ys.length
    · obtain ⟨r, hr, p, yu, e, h1, h2⟩ := ya i _ (List.getElem?_eq_getElem hi)
      refine ⟨yu, fun _ => ?_⟩
      rw [List.getD_eq_getElem?_getD, hr]
      exact ⟨⟨p, by rw [List.getElem?_eq_getElem hi, e], h1⟩, h2⟩
    · exact ⟨.non, fun h => absurd h hi⟩
  exact ⟨fun i => (each i).choose, fun i hi => ((each i).choose_spec hi).1, fun i hi => ((each i).choose_spec hi).2⟩
def spNums (K : PySem.W.Frag) (CT CL CS : Addr) : Sp := fun vs H Q _ => ∃ (a : Addr) (b : Bk), vs = [.ref a] ∧ StAt K CT CL CS H a b ∧ b.rows.length ≤ 1000 ∧ NewT H Q (nL (b.rows.map (·.1)))
theorem c_State_numbers (Z : Ev K mg) (T : Bl mg) : Met P w K mg base 1 Z.State "numbers" (spNums K Z.Table Z.Lot Z.State) [] := by
  refine metOf Z.c_State.c Z.m_State_numbers sc_State_numbers (fun _ _ _ _ _ _ us hl => match us, hl with | [_], _ => rfl) (fun vs H Q E h => ?_) (fun f cdv A outer s H vs Q E hr h => ?_)
  · obtain ⟨a, b, rfl, _⟩ := h
    rfl
  · obtain ⟨a, b, rfl, ⟨dx, l, rp, ys, ha, hL, hS, pr⟩, hl, k⟩ := h
    have nd := sc_State_numbers.nd
    obtain ⟨yl, _⟩ := paired_at pr
    obtain ⟨yu, it, _⟩ := rows_items pr
    refine ⟨_, (pss_one (ps_ret (pe_callTy (crTup K) (by rfl) T.b_tuple (by decide +kernel) (pa_cons (pe_lc (own := [("number", 1), ("use", 2)]) (g := gTup K 2 (gCons (gName 1) (gCons (gName 2) gNil))) (tt := tYes) rfl nd (piTup K (peFld K (pv 0))) (blkOk_by (N := ["self", "number", "use"]) (sc := defScope s_State_numbers) (own := [("number", 1), ("use", 2)]) (by decide +kernel)) (fun _ _ _ _ _ => (pgTup K rfl (pgs_cons (pg_name (i := 1) nd rfl (by first | exact Or.inl rfl | exact Or.inr rfl)) (pgs_cons (pg_name (i := 2) nd rfl (by first | exact Or.inl rfl | exact Or.inr rfl)) pgs_nil)))) (fun _ _ _ _ _ => pts_nil) (fun _ _ _ _ _ => (pv 1))) pa_nil)))), ?_⟩
    refine ⟨_, rfl, a, Z.State, dx, _, _, rfl, ha, Z.c_State.c, Z.n_State_rows, rfl, rp, rfl, ⟨_, hS⟩, fun D hD => lc_pairT hS it (fun _ _ => rfl) (sel := fun _ => true) (P := fun i y _ => y = nV (b.rows.getD i (0, ⟨0, [], 0⟩)).1) ⟨fun _ _ _ _ _ h => h, fun i H2 _ _ R r => r H2 (Same.refl H2), fun i H2 hi _ sm R r => ?_⟩ hD (lt_line (by omega)) (fun H2 bs sm hd _ pb => ?_)⟩
    · exact ⟨_, rfl, r _ H2 (Same.refl H2) rfl⟩
    · rw [filter_yes, yl] at pb
      have ey : bs = nL (b.rows.map (·.1)) := by
        rw [paired_map_eq pb]
        have z := congrArg (List.map fun r : Nat × Ui => nV r.1) (map_range_get b.rows (0, ⟨0, [], 0⟩))
        rw [List.map_map] at z
        show _ = (b.rows.map (·.1)).map nV
        rw [List.map_map]
        exact z
      rw [ey] at hd
      refine ⟨D, _, rfl, .inl ⟨SqL.of hd, fun l hl2 => ?_⟩⟩
      exact k l _ (sm.trans (same_new hl2)) (sm.free hl2) upd_same
def spPuz (K : PySem.W.Frag) (CT CL CS CP : Addr) : Sp := fun vs H Q _ => ∃ (a : Addr) (b : Bk), vs = [.ref a] ∧ StAt K CT CL CS H a b ∧ BkOk b ∧ ∀ x H', Same H H' → PzAt K CT CL CP H' x b.tbs b.many (b.rows.map (·.2)) → Q (.ref x) H'
theorem use_names {tbs : List Tb} {many : Nat} {u : Ui} (h : useB tbs many u = true) (ok : ∀ t ∈ tbs, TbG t) : u.names.length ≤ 4 := by
  unfold useB at h
  obtain ⟨h1, h⟩ := Bool.and_eq_true_iff.mp h
  obtain ⟨h2, h⟩ := Bool.and_eq_true_iff.mp h
  obtain ⟨h3, h4⟩ := Bool.and_eq_true_iff.mp h
  have a1 := of_decide_eq_true h1
  have a3 := of_decide_eq_true h3
  have hlt : u.at_.toNat < tbs.length := by omega
  have e : tbs.getD u.at_.toNat (0, []) = tbs[u.at_.toNat] := by
    rw [List.getD_eq_getElem?_getD, List.getElem?_eq_getElem hlt]
    rfl
  rw [e] at a3
  have := (ok _ (List.getElem_mem hlt)).2.1
  omega
theorem c_State_puzzle (Z : Ev K mg) (T : Bl mg) (c_Puzzle : Mak P w K mg base 3 "Puzzle" Z.Puzzle (spPz K Z.Table Z.Lot Z.Puzzle) []) : Met P w K mg base 5 Z.State "puzzle" (spPuz K Z.Table Z.Lot Z.State Z.Puzzle) [] := by
  refine metOf Z.c_State.c Z.m_State_puzzle sc_State_puzzle (fun _ _ _ _ _ _ us hl => match us, hl with | [_], _ => rfl) (fun vs H Q E h => ?_) (fun f cdv A outer s H vs Q E hr h => ?_)
  · obtain ⟨a, b, rfl, _⟩ := h
    rfl
  · obtain ⟨a, b, rfl, ⟨dx, l, rp, ys, ha, hL, hS, pr⟩, ok, k⟩ := h
    have nd := sc_State_puzzle.nd
    obtain ⟨yl, _⟩ := paired_at pr
    obtain ⟨yu, it, hyu⟩ := rows_items pr
    have hl := ok.len
    refine ⟨_, (pss_one (ps_ret (pe_mk c_Puzzle hr (by decide) (by rfl) (pa_cons (peFld K (pv 0)) (pa_cons (peFld K (pv 0)) (pa_cons (pe_callTy (crTup K) (by rfl) T.b_tuple (by decide +kernel) (pa_cons (pe_lc (own := [("number", 1), ("use", 2)]) (g := gTup K 2 (gCons (gName 1) (gCons (gName 2) gNil))) (tt := tYes) rfl nd (piTup K (peFld K (pv 0))) (blkOk_by (N := ["self", "number", "use"]) (sc := defScope s_State_puzzle) (own := [("number", 1), ("use", 2)]) (by decide +kernel)) (fun _ _ _ _ _ => (pgTup K rfl (pgs_cons (pg_name (i := 1) nd rfl (by first | exact Or.inl rfl | exact Or.inr rfl)) (pgs_cons (pg_name (i := 2) nd rfl (by first | exact Or.inl rfl | exact Or.inr rfl)) pgs_nil)))) (fun _ _ _ _ _ => pts_nil) (fun _ _ _ _ _ => (pv 2))) pa_nil)) pa_nil)))))), ?_⟩
    refine ⟨_, rfl, a, Z.State, dx, _, _, rfl, ha, Z.c_State.c, Z.n_State_lot, rfl, _, rfl, a, Z.State, dx, _, _, rfl, ha, Z.c_State.c, Z.n_State_many, rfl, _, rfl, a, Z.State, dx, _, _, rfl, ha, Z.c_State.c, Z.n_State_rows, rfl, rp, rfl, ⟨_, hS⟩,
      fun D hD => lc_pairT hS it (fun _ _ => rfl) (sel := fun _ => true) (P := fun i y H => UiR K H y (b.rows.getD i (0, ⟨0, [], 0⟩)).2) ⟨fun _ _ _ _ sm h => h.imm (SameT.imm sm), fun i H2 _ _ R r => r H2 (Same.refl H2), fun i H2 hi _ sm R r => ?_⟩ hD (lt_line (by omega)) (fun H2 bs sm hd _ pb => ?_)⟩
    · exact ⟨_, rfl, r _ H2 (Same.refl H2) ((hyu i hi).imm (Same.imm sm))⟩
    · rw [filter_yes, yl] at pb
      refine ⟨D, _, rfl, .inl ⟨SqL.of hd, fun t ht => ?_⟩⟩
      have sm2 := sm.trans (same_new (o := .tup bs) ht)
      intro x dx2 hx hdx ne
      have sm3 := sm2.trans (same_new (o := .own x) hdx)
      have hx2 : (upd (upd H2 t (.tup bs)) dx2 (.own x)) x = none := by rw [upd_ne ne.symm]; exact hx
      have s4 : Same (upd (upd H2 t (.tup bs)) dx2 (.own x)) (upd (upd (upd H2 t (.tup bs)) dx2 (.own x)) x (.ins Z.Puzzle dx2 [])) := same_new hx2
      have pb3 : Paired (UiR K (upd (upd H2 t (.tup bs)) dx2 (.own x))) bs (b.rows.map (·.2)) := by
        have q := paired_mapR (fun i => (b.rows.getD i (0, ⟨0, [], 0⟩)).2) pb
        have e : (List.range b.rows.length).map (fun i => (b.rows.getD i (0, ⟨0, [], 0⟩)).2) = b.rows.map (·.2) := by
          have z := congrArg (List.map fun r : Nat × Ui => r.2) (map_range_get b.rows (0, ⟨0, [], 0⟩))
          rw [List.map_map] at z
          exact z
        rw [e] at q
        exact Paired.mapP q fun _ _ q => q.imm (Same.imm ((same_new ht).trans (same_new hdx)))
      have hT3 : SqT K (upd (upd H2 t (.tup bs)) dx2 (.own x)) t bs := .inl (.inl ((same_new hdx) _ _ upd_same))
      refine ⟨x, dx2, l, t, b.many, b.tbs, bs, b.rows.map (·.2), rfl, upd_same, hL.grow (sm3.trans s4), ok.t1, same_seqT s4 hT3, Paired.mapP pb3 fun _ _ q => q.imm (Same.imm s4), ok.many, by rw [List.length_map]; omega, fun u hu => ?_, fun H' kp e => ⟨rfl, ?_⟩⟩
      · obtain ⟨r, hr, rfl⟩ := List.mem_map.mp hu
        exact ⟨ok.use r hr, Nat.le_trans (use_names (ok.use r hr) ok.tb) (by decide)⟩
      · have s5 : Same (upd (upd H2 t (.tup bs)) dx2 (.own x)) H' := fun c o hc => kp _ _ (s4 _ _ hc) (ne_of_none hc hx2)
        exact k x H' (sm3.trans s5) ⟨dx2, l, t, bs, e, hL.grow (sm3.trans s5), same_seqT s5 hT3, Paired.mapP pb3 fun _ _ q => q.imm (Same.imm s5)⟩
end
end L2.KK
namespace L2.KK
open PySem PySem.Spec PyProof.Rows C8
theorem sc_named : FnScope ["state"] ["state"] (defScope s_named) := ⟨rfl, rfl, rfl, by decide +kernel, rfl, by decide +kernel, by decide +kernel⟩
theorem sc_added_use : FnScope ["state", "use"] ["state", "use"] (defScope s_added_use) := ⟨rfl, rfl, rfl, by decide +kernel, rfl, by decide +kernel, by decide +kernel⟩
theorem sc_dropped : FnScope ["state", "number", "rows", "row"] ["state", "number"] (defScope s_dropped) := ⟨rfl, rfl, rfl, by decide +kernel, rfl, by decide +kernel, by decide +kernel⟩
/-! ### deeds -/
def OverV (C : Addr) (fld : Str) (H : Hp) (E : XK) (v : V) : Prop := ∀ d H', Same H H' → H d = none → H' d = some (.xd [(fld, v)]) → E (.ref C) (some d) H'
theorem OverV.pass {C : Addr} {fld : Str} {H H' : Hp} {E : XK} {v : V} (h : OverV C fld H E v) (sm : Same H H') : OverV C fld H' E v := fun d H2 s2 hd e => h d H2 (sm.trans s2) (sm.free hd) e
def deedsL : List Str := ["name", "add", "drop", "times", "table"]
def sizesL : List (Key × V) := [(.inr "name", .int 1), (.inr "add", .int 4), (.inr "drop", .int 2), (.inr "times", .int 3), (.inr "table", .int 3)]
def sizeOf (z : Str) : Option V := valV sizesL (.inr z)
/-- a deed of another shape: what its word is -/
def BadAt (K : PySem.W.Frag) (H : Hp) (y : V) (w : Str) : Prop :=
  (w = "deed" ∧ (y = .non ∨ (∃ z, y = .str z) ∨ ∃ l xs, y = .ref l ∧ SqL K H l xs)) ∨ (w = "deed" ∧ ∃ p, y = .ref p ∧ SqT K H p []) ∨
  (∃ p z xs, y = .ref p ∧ SqT K H p (.str z :: xs) ∧ z ∉ deedsL ∧ w = "deed") ∨
  ∃ (p : Addr) (z : Str) (xs : List V) (k : Int), y = .ref p ∧ SqT K H p (.str z :: xs) ∧ z ∈ deedsL ∧ sizeOf z = some (.int k) ∧ ((xs.length : Int) + 1 ≠ k) ∧ w = z
theorem BadAt.imm {K : PySem.W.Frag} {H H' : Hp} {y : V} {w : Str} (h : BadAt K H y w) (e : Same H H') : BadAt K H' y w := by
  rcases h with ⟨h1, h2⟩ | ⟨h1, p, h2, h3⟩ | ⟨p, z, xs, h1, h2, h3, h4⟩ | ⟨p, z, xs, k, h1, h2, h3⟩
  · refine .inl ⟨h1, ?_⟩
    rcases h2 with h | h | ⟨l, xs, h, hl⟩
    · exact .inl h
    · exact .inr (.inl h)
    · exact .inr (.inr ⟨l, xs, h, e.seq hl⟩)
  · exact .inr (.inl ⟨h1, p, h2, same_seqT e h3⟩)
  · exact .inr (.inr (.inl ⟨p, z, xs, h1, same_seqT e h2, h3, h4⟩))
  · exact .inr (.inr (.inr ⟨p, z, xs, k, h1, same_seqT e h2, h3⟩))
def GdAt (K : PySem.W.Frag) (CT : Addr) (H : Hp) (y : V) : Gd → Prop
  | .bad w => BadAt K H y w
  | .name => ∃ p, y = .ref p ∧ SqT K H p [.str "name"]
  | .add u => ∃ p nr, y = .ref p ∧ SqT K H p [.str "add", .int u.at_, .ref nr, .int u.times] ∧ SqT K H nr (u.names.map V.int) ∧ u.names.length ≤ 1000
  | .drop n => ∃ p, y = .ref p ∧ SqT K H p [.str "drop", .int n]
  | .times n t => ∃ p, y = .ref p ∧ SqT K H p [.str "times", .int n, .int t]
  | .table i t => ∃ p ta, y = .ref p ∧ SqT K H p [.str "table", .int i, .ref ta] ∧ TabAt K CT H ta t.1 t.2
theorem GdAt.grow {K : PySem.W.Frag} {CT : Addr} {H H' : Hp} {y : V} {g : Gd} (h : GdAt K CT H y g) (e : Same H H') : GdAt K CT H' y g := by
  cases g with
  | bad w => exact BadAt.imm h e
  | name => obtain ⟨p, h1, h2⟩ := h; exact ⟨p, h1, same_seqT e h2⟩
  | add u => obtain ⟨p, nr, h1, h2, h3, h4⟩ := h; exact ⟨p, nr, h1, same_seqT e h2, same_seqT e h3, h4⟩
  | drop n => obtain ⟨p, h1, h2⟩ := h; exact ⟨p, h1, same_seqT e h2⟩
  | times n t => obtain ⟨p, h1, h2⟩ := h; exact ⟨p, h1, same_seqT e h2⟩
  | table i t => obtain ⟨p, ta, h1, h2, h3⟩ := h; exact ⟨p, ta, h1, same_seqT e h2, h3.grow e⟩
/-- how a deed ends -/
def OutD (K : PySem.W.Frag) (CT CL CS CX : Addr) (r : Except Str Bk) (H : Hp) (Q : VK) (E : XK) : Prop :=
  (∀ b', r = .ok b' → ∀ x H', Same H H' → StAt K CT CL CS H' x b' → Q (.ref x) H') ∧ ∀ w, r = .error w → OverV CX "deed" H E (.str w)
theorem OutD.pass {K : PySem.W.Frag} {CT CL CS CX : Addr} {r : Except Str Bk} {H H' : Hp} {Q : VK} {E : XK} (h : OutD K CT CL CS CX r H Q E) (sm : Same H H') : OutD K CT CL CS CX r H' Q E :=
  ⟨fun b' e x H2 s2 hx => h.1 b' e x H2 (sm.trans s2) hx, fun w e => (h.2 w e).pass sm⟩
theorem inV_str (z : Str) : ∀ l : List Str, inV (.str z) (l.map V.str) = decide (z ∈ l)
  | [] => rfl
  | y :: l => by
    have e : inV (.str z) ((y :: l).map V.str) = (eqV (.str y) (.str z) || inV (.str z) (l.map V.str)) := rfl
    rw [e, inV_str z l, Bool.eq_iff_iff, Bool.or_eq_true, decide_eq_true_iff, decide_eq_true_iff, List.mem_cons]
    show (y == z) = true ∨ _ ↔ _
    rw [beq_iff_eq]
    exact ⟨fun h => h.imp Eq.symm id, fun h => h.imp Eq.symm id⟩
theorem inV_nums (n : Int) : ∀ l : List Nat, inV (.int n) (nL l) = decide (n ∈ l.map fun r : Nat => (r : Int))
  | [] => rfl
  | y :: l => by
    have e : inV (.int n) (nL (y :: l)) = (eqV (nV y) (.int n) || inV (.int n) (nL l)) := rfl
    rw [e, inV_nums n l, Bool.eq_iff_iff, Bool.or_eq_true, decide_eq_true_iff, decide_eq_true_iff, List.map_cons, List.mem_cons]
    show ((y : Int) == n) = true ∨ _ ↔ _
    rw [beq_iff_eq]
    exact ⟨fun h => h.imp Eq.symm id, fun h => h.imp Eq.symm id⟩
theorem flat_strs (l : List Str) : (l.map V.str).all flatV = true := by
  rw [List.all_map]
  exact List.all_eq_true.mpr fun _ _ => rfl
theorem flat_nats (l : List Nat) : (nL l).all flatV = true := by
  rw [List.all_map]
  exact List.all_eq_true.mpr fun _ _ => rfl
theorem filter_get {α : Type} (p : α → Bool) (d : α) (xs : List α) : ((List.range xs.length).filter fun i => p (xs.getD i d)).map (fun i => xs.getD i d) = xs.filter p := by
  have q := congrArg (List.filter p) (map_range_get xs d)
  rw [List.filter_map] at q
  exact q
theorem dec_sNe {a b : Str} (h : ¬ a = b) : decide (V.str a = V.str b) = false := decide_eq_false fun z => h (V.str.inj z)
section
variable {P : Program} {w : World} {K : PySem.W.Frag} {mg : Str → Option Value} {base : Heap}
def spNamed (K : PySem.W.Frag) (CT CL CS CX : Addr) : Sp := fun vs H Q E => ∃ (a : Addr) (b : Bk), vs = [.ref a] ∧ StAt K CT CL CS H a b ∧ OutD K CT CL CS CX (doneG b .name) H Q E
theorem c_named (D : FnAt K mg "named" s_named) (Z : Ev K mg) (T : Bl mg) (x_BadDeed : MakX P w K mg base 1 "BadDeed" Z.BadDeed (spX1S K Z.BadDeed "deed")) (c_State : Mak P w K mg base 1 "State" Z.State (spSt Z.State) []) : CalX P w K mg base 3 "named" (spNamed K Z.Table Z.Lot Z.State Z.BadDeed) := by
  refine calOfX D sc_named (fun _ _ _ _ _ _ us hl => match us, hl with | [_], _ => rfl) (fun vs H Q E h => ?_) (fun f cdv A outer s H vs Q E hr h => ?_)
  · obtain ⟨a, b, rfl, _⟩ := h
    rfl
  · obtain ⟨a, b, rfl, ⟨dx, l, rp, ys, ha, hL, hS, pr⟩, k⟩ := h
    refine ⟨_, (pss_cons (ps_if (pt_cmpR op_eq (peFld K (pv 0)) (pe_gc (by rfl) T.g_NAMES) (nomark _))
        (pss_one (ps_rx x_BadDeed hr (by decide) (by rfl) rfl (takes_of rfl rfl rfl rfl) (pa_cons pe_str pa_nil)))
        pss_nil)
      (pss_one (ps_ret (pe_mk c_State hr (by decide) (by rfl) (pa_cons (peFld K (pv 0)) (pa_cons (pe_op op_addNN (peFld K (pv 0)) pe_int) (pa_cons (peFld K (pv 0)) (pa_cons (peFld K (pv 0)) pa_nil)))))))), ?_⟩
    rw [done_name] at k
    refine ⟨_, rfl, a, Z.State, dx, _, _, rfl, ha, Z.c_State.c, Z.n_State_many, rfl, rfl, _, rfl, ite2 (fun h => ?_) (fun h => ?_)⟩
    · have e : b.many = 400 := by
        have := of_decide_eq_true h
        injection this with e
        omega
      rw [if_pos e] at k
      exact ⟨by show 1 ≤ 1000; decide, mkO_1S (by decide) fun d H' sm hd e => k.2 _ rfl d H' sm hd e⟩
    · have e : ¬ b.many = 400 := fun z => h (decide_eq_true (by rw [z]; rfl))
      rw [if_neg e] at k
      refine ⟨_, rfl, a, Z.State, dx, _, _, rfl, ha, Z.c_State.c, Z.n_State_lot, rfl, _, rfl, a, Z.State, dx, _, _, rfl, ha, Z.c_State.c, Z.n_State_many, rfl, b.many, 1, rfl, rfl, _, rfl, a, Z.State, dx, _, _, rfl, ha, Z.c_State.c, Z.n_State_rows, rfl, _, rfl, a, Z.State, dx, _, _, rfl, ha, Z.c_State.c, Z.n_State_ahead, rfl, ?_⟩
      intro x dx2 hx hdx ne
      refine ⟨x, dx2, l, rp, b.many + 1, b.ahead, rfl, upd_same, rfl, ?_⟩
      rw [upd_upd]
      obtain ⟨sm, st⟩ := mk_state (CS := Z.State) (b := { b with many := b.many + 1 }) hx hdx ne hL hS pr
      exact k.1 _ rfl x _ sm st
def spAdd (K : PySem.W.Frag) (CT CL CS CX : Addr) : Sp := fun vs H Q E => ∃ (a r : Addr) (b : Bk) (u : Ui), vs = [.ref a, .ref r] ∧ StAt K CT CL CS H a b ∧ BkOk b ∧ UiR K H (.ref r) u ∧ u.names.length ≤ 1000 ∧ OutD K CT CL CS CX (doneG b (.add u)) H Q E
theorem c_added_use (D : FnAt K mg "added_use" s_added_use) (Z : Ev K mg) (T : Bl mg) (x_BadDeed : MakX P w K mg base 1 "BadDeed" Z.BadDeed (spX1S K Z.BadDeed "deed")) (c_State : Mak P w K mg base 1 "State" Z.State (spSt Z.State) []) (c_is_use : Cal P w K mg base 2 "is_use" (spUseB K Z.Table Z.Lot) []) : CalX P w K mg base 3 "added_use" (spAdd K Z.Table Z.Lot Z.State Z.BadDeed) := by
  refine calOfX D sc_added_use (fun _ _ _ _ _ _ us hl => match us, hl with | [_, _], _ => rfl) (fun vs H Q E h => ?_) (fun f cdv A outer s H vs Q E hr h => ?_)
  · obtain ⟨a, r, b, u, rfl, _⟩ := h
    rfl
  · obtain ⟨a, r, b, u, rfl, ⟨dx, l, rp, ys, ha, hL, hS, pr⟩, ok, hU, hn, k⟩ := h
    obtain ⟨yl, _⟩ := paired_at pr
    have hlen := ok.len
    refine ⟨_, (pss_cons (ps_if (PW.pt (pw_or (pt_not (pt_val (pe_c c_is_use hr (by decide) (by rfl) (pa_cons (peFld K (pv 0)) (pa_cons (peFld K (pv 0)) (pa_cons (pv 1) pa_nil)))))) (pw_or1 (pt_cmpR op_eq (pe_callB (crLen K) (by rfl) T.b_len (by decide +kernel) (pa_cons (peFld K (pv 0)) pa_nil)) (pe_gc (by rfl) T.g_MOST_USES) (nomark _)))))
        (pss_one (ps_rx x_BadDeed hr (by decide) (by rfl) rfl (takes_of rfl rfl rfl rfl) (pa_cons pe_str pa_nil)))
        pss_nil)
      (pss_one (ps_ret (pe_mk c_State hr (by decide) (by rfl) (pa_cons (peFld K (pv 0)) (pa_cons (peFld K (pv 0)) (pa_cons (pe_tup (pa_starK K (peFld K (pv 0)) (pa_cons (pe_tup (pa_cons (peFld K (pv 0)) (pa_cons (pv 1) pa_nil))) pa_nil))) (pa_cons (pe_op op_addNN (peFld K (pv 0)) pe_int) pa_nil)))))))), ?_⟩
    rw [done_add] at k
    refine ⟨_, rfl, a, Z.State, dx, _, _, rfl, ha, Z.c_State.c, Z.n_State_lot, rfl, _, rfl, a, Z.State, dx, _, _, rfl, ha, Z.c_State.c, Z.n_State_many, rfl, _, rfl, l, r, b.many, b.tbs, u, rfl, hL, ok.t1, hU, hn, fun H1 sm1 => ⟨_, rfl, ite2 (fun h => ?_) (fun h => ?_)⟩⟩
    · rw [Bool.not_eq_true'] at h
      rw [if_neg (fun z => by rw [z.1] at h; cases h)] at k
      exact ⟨by show 1 ≤ 1000; decide, mkO_1S (by decide) fun d H' sm hd e => (k.pass sm1).2 _ rfl d H' sm hd e⟩
    · rw [Bool.not_eq_true', Bool.not_eq_false] at h
      have ha1 := sm1 _ _ ha
      have hS1 := same_seqT sm1 hS
      refine ⟨_, rfl, a, Z.State, dx, _, _, rfl, ha1, Z.c_State.c, Z.n_State_rows, rfl, rp, ys, rfl, .inr hS1, rfl, _, rfl, ite2 (fun h2 => ?_) (fun h2 => ?_)⟩
      · have e : b.rows.length = 200 := by
          have := of_decide_eq_true h2
          injection this with e
          omega
        rw [if_neg (fun z => z.2 e)] at k
        exact ⟨by show 1 ≤ 1000; decide, mkO_1S (by decide) fun d H' sm hd e => (k.pass sm1).2 _ rfl d H' sm hd e⟩
      · have e : b.rows.length ≠ 200 := fun z => h2 (decide_eq_true (by rw [yl, z]; rfl))
        rw [if_pos ⟨h, e⟩] at k
        refine ⟨_, rfl, a, Z.State, dx, _, _, rfl, ha1, Z.c_State.c, Z.n_State_lot, rfl, _, rfl, a, Z.State, dx, _, _, rfl, ha1, Z.c_State.c, Z.n_State_many, rfl, ?_⟩
        refine ⟨_, rfl, a, Z.State, dx, _, _, rfl, ha1, Z.c_State.c, Z.n_State_rows, rfl, rp, ys, rfl, .inl hS1, _, rfl, a, Z.State, dx, _, _, rfl, ha1, Z.c_State.c, Z.n_State_ahead, rfl, _, rfl, by show 2 ≤ sizeLine; decide, fun q hq => ?_⟩
        have sm2 := sm1.trans (same_new (o := .tup [nV b.ahead, .ref r]) hq)
        refine ⟨lt_line (by rw [List.length_append]; show ys.length + 1 ≤ _; omega), fun t ht => ?_⟩
        have sm3 := sm2.trans (same_new (o := .tup (ys ++ [.ref q])) ht)
        refine ⟨_, rfl, a, Z.State, dx, _, _, rfl, sm3 _ _ ha, Z.c_State.c, Z.n_State_ahead, rfl, b.ahead, 1, rfl, rfl, ?_⟩
        intro x dx2 hx hdx ne
        refine ⟨x, dx2, l, t, b.many, b.ahead + 1, rfl, upd_same, rfl, ?_⟩
        rw [upd_upd]
        have rq : RowR K (upd (upd H1 q (.tup [nV b.ahead, .ref r])) t (.tup (ys ++ [.ref q]))) (.ref q) (b.ahead, u) := ⟨q, .ref r, rfl, .inl (.inl ((same_new ht) _ _ upd_same)), hU.imm (Same.imm sm3)⟩
        have pr3 : Paired (RowR K (upd (upd H1 q (.tup [nV b.ahead, .ref r])) t (.tup (ys ++ [.ref q])))) (ys ++ [.ref q]) (b.rows ++ [(b.ahead, u)]) := paired_snoc (Paired.mapP pr fun _ _ z => z.imm (Same.imm sm3)) rq
        obtain ⟨sm, st⟩ := mk_state (CS := Z.State) (b := { b with rows := b.rows ++ [(b.ahead, u)], ahead := b.ahead + 1 }) hx hdx ne (hL.grow sm3) (.inl (.inl upd_same)) pr3
        exact k.1 _ rfl x _ (sm3.trans sm) st
def spDrop (K : PySem.W.Frag) (CT CL CS CX : Addr) : Sp := fun vs H Q E => ∃ (a : Addr) (b : Bk) (n : Int), vs = [.ref a, .int n] ∧ StAt K CT CL CS H a b ∧ BkOk b ∧ OutD K CT CL CS CX (doneG b (.drop n)) H Q E
theorem nums_eq (b : Bk) : (b.rows.map (·.1)).map (fun r : Nat => (r : Int)) = numsB b := by
  unfold numsB
  rw [List.map_map]
  rfl
theorem c_dropped (D : FnAt K mg "dropped" s_dropped) (Z : Ev K mg) (T : Bl mg) (x_BadDeed : MakX P w K mg base 1 "BadDeed" Z.BadDeed (spX1S K Z.BadDeed "deed")) (c_State : Mak P w K mg base 1 "State" Z.State (spSt Z.State) []) (c_State_numbers : Met P w K mg base 1 Z.State "numbers" (spNums K Z.Table Z.Lot Z.State) []) : CalX P w K mg base 3 "dropped" (spDrop K Z.Table Z.Lot Z.State Z.BadDeed) := by
  refine calOfX D sc_dropped (fun _ _ _ _ _ _ us hl => match us, hl with | [_, _], _ => rfl) (fun vs H Q E h => ?_) (fun f cdv A outer s H vs Q E hr h => ?_)
  · obtain ⟨a, b, n, rfl, _⟩ := h
    rfl
  · obtain ⟨a, b, n, rfl, hSt, ok, k⟩ := h
    have nd := sc_dropped.nd
    obtain ⟨dx, l, rp, ys, ha, hL, hS, pr⟩ := id hSt
    obtain ⟨yl, ya⟩ := paired_at pr
    have hlen := ok.len
    refine ⟨_, (pss_cons (ps_if (pt_cmpR (notInSeq K) (pv 1) (pe_mt0 c_State_numbers hr (by decide) (pv 0) ) (by rfl))
        (pss_one (ps_rx x_BadDeed hr (by decide) (by rfl) rfl (takes_of rfl rfl rfl rfl) (pa_cons pe_str pa_nil)))
        pss_nil)
      (pss_cons (ps_set (i := 2) nd rfl (by first | exact Or.inl rfl | exact Or.inr rfl) (pe_callTy (crTup K) (by rfl) T.b_tuple (by decide +kernel) (pa_cons (pe_lc (own := [("row", 3)]) (g := gName 3) rfl nd (piTup K (peFld K (pv 0))) (blkOk_by (N := ["state", "number", "rows", "row"]) (sc := defScope s_dropped) (own := [("row", 3)]) (by decide +kernel)) (fun _ _ _ _ _ => (pg_name (i := 3) nd rfl (by first | exact Or.inl rfl | exact Or.inr rfl))) (fun _ _ _ _ _ => (pts_one (pt_cmpR op_ne (pe_ix (ixT K) (pv 3) pe_int (fun _ _ => rfl)) (pv 1) (nomark _)))) (fun _ _ _ _ _ => (pv 3))) pa_nil)))
      (pss_one (ps_ret (pe_mk c_State hr (by decide) (by rfl) (pa_cons (peFld K (pv 0)) (pa_cons (peFld K (pv 0)) (pa_cons (pv 2) (pa_cons (peFld K (pv 0)) pa_nil))))))))), ?_⟩
    rw [done_drop] at k
    refine ⟨_, rfl, _, rfl, a, dx, _, rfl, ha, rfl, a, b, rfl, hSt, by omega, fun p H1 sm1 hp0 hp => ?_⟩
    refine ⟨p, _, rfl, .inr (.inl (.inl hp)), rfl, flat_nats _, _, rfl, ?_⟩
    show if (!inV (.int n) (nL (b.rows.map (·.1)))) = true then _ else _
    rw [inV_nums, nums_eq]
    refine ite2 (fun h => ?_) (fun h => ?_)
    · rw [Bool.not_eq_true', decide_eq_false_iff_not] at h
      rw [if_neg h] at k
      exact ⟨by show 1 ≤ 1000; decide, mkO_1S (by decide) fun d H' sm hd e => (k.pass sm1).2 _ rfl d H' sm hd e⟩
    · rw [Bool.not_eq_true', Bool.not_eq_false, decide_eq_true_eq] at h
      rw [if_pos h] at k
      have ha1 := sm1 _ _ ha
      have hS1 := same_seqT sm1 hS
      refine ⟨_, rfl, a, Z.State, dx, _, _, rfl, ha1, Z.c_State.c, Z.n_State_rows, rfl, rp, rfl, ⟨_, hS1⟩, fun W hW => lc_tupT hS1 (sel := fun i => !decide (((b.rows.getD i (0, ⟨0, [], 0⟩)).1 : Int) = n)) (P := fun i y H => RowR K H y (b.rows.getD i (0, ⟨0, [], 0⟩))) ⟨fun _ _ _ _ sm h => h.imm (SameT.imm sm), fun i H2 hi sm R r => ?_, fun i H2 hi _ sm R r => ?_⟩ hW (lt_line (by omega)) (fun H2 bs sm hd _ pb => ?_)⟩
      · obtain ⟨r0, hr0, q, yu, eq, h1, h2⟩ := ya i _ (List.getElem?_eq_getElem hi)
        have er : b.rows.getD i (0, ⟨0, [], 0⟩) = r0 := by rw [List.getD_eq_getElem?_getD, hr0]; rfl
        have ey : ys.getD i .non = .ref q := by rw [List.getD_eq_getElem?_getD, List.getElem?_eq_getElem hi, eq]; rfl
        rw [er] at r
        refine ⟨_, rfl, q, _, (0 : Int), nV r0.1, ey, rfl, same_seqT (sm1.trans sm) h1, rfl, _, rfl, rfl, _, rfl, ?_⟩
        have e2 : (!decide (nV r0.1 = V.int n)) = !decide ((r0.1 : Int) = n) := by
          congr 1
          rw [Bool.eq_iff_iff, decide_eq_true_iff, decide_eq_true_iff]
          exact ⟨fun z => V.int.inj z, fun z => congrArg V.int z⟩
        rw [e2]
        exact r H2 (Same.refl H2)
      · obtain ⟨r0, hr0, hR⟩ := ya i _ (List.getElem?_eq_getElem hi)
        have er : b.rows.getD i (0, ⟨0, [], 0⟩) = r0 := by rw [List.getD_eq_getElem?_getD, hr0]; rfl
        have ey : ys.getD i .non = ys[i] := by rw [List.getD_eq_getElem?_getD, List.getElem?_eq_getElem hi]; rfl
        exact ⟨_, rfl, r _ H2 (Same.refl H2) (by rw [er, ey]; exact hR.imm (Same.imm (sm1.trans sm)))⟩
      · rw [yl] at pb
        have pb2 := paired_mapR (fun i => b.rows.getD i (0, ⟨0, [], 0⟩)) pb
        rw [filter_get (fun r : Nat × Ui => !decide ((r.1 : Int) = n))] at pb2
        refine ⟨W, _, rfl, .inl ⟨SqL.of hd, fun t ht => ?_⟩⟩
        have sm2 := (sm1.trans sm).trans (same_new (o := .tup bs) ht)
        have ha2 := sm2 _ _ ha
        refine ⟨_, rfl, a, Z.State, dx, _, _, rfl, ha2, Z.c_State.c, Z.n_State_lot, rfl, _, rfl, a, Z.State, dx, _, _, rfl, ha2, Z.c_State.c, Z.n_State_many, rfl, _, rfl, _, rfl, a, Z.State, dx, _, _, rfl, ha2, Z.c_State.c, Z.n_State_ahead, rfl, ?_⟩
        intro x dx2 hx hdx ne
        refine ⟨x, dx2, l, t, b.many, b.ahead, rfl, upd_same, rfl, ?_⟩
        rw [upd_upd]
        obtain ⟨sm3, st⟩ := mk_state (CS := Z.State) (b := { b with rows := b.rows.filter fun r => !decide ((r.1 : Int) = n) }) hx hdx ne (hL.grow sm2) (.inl (.inl upd_same)) (Paired.mapP pb2 fun _ _ z => z.imm (Same.imm (same_new ht)))
        exact k.1 _ rfl x _ (sm2.trans sm3) st
end
end L2.KK
namespace L2.KK
open PySem PySem.Spec PyProof.Rows C8
theorem sc_with_times : FnScope ["state", "number", "times", "rows", "here", "use"] ["state", "number", "times"] (defScope s_with_times) := ⟨rfl, rfl, rfl, by decide +kernel, rfl, by decide +kernel, by decide +kernel⟩
theorem sc_with_table : FnScope ["state", "at", "table", "tables"] ["state", "at", "table"] (defScope s_with_table) := ⟨rfl, rfl, rfl, by decide +kernel, rfl, by decide +kernel, by decide +kernel⟩
theorem ixN_lt {n j : Nat} (h : j < n) : ixN n (j : Int) = some j := by
  have e := atI_nat (xs := List.range n) (j := j) (v := j) (List.getElem?_range h)
  unfold atI at e
  rw [List.length_range] at e
  cases q : ixN n (j : Int) with
  | none => rw [q] at e; cases e
  | some m =>
    rw [q] at e
    have e2 : (List.range n)[m]? = some j := e
    obtain ⟨h1, h2⟩ := List.getElem?_eq_some_iff.mp e2
    rw [List.getElem_range] at h2
    rw [h2]
theorem dec_nI {a : Nat} {n : Int} : decide (nV a = V.int n) = decide ((a : Int) = n) := by
  rw [Bool.eq_iff_iff, decide_eq_true_iff, decide_eq_true_iff]
  exact ⟨fun z => V.int.inj z, fun z => congrArg V.int z⟩
section
variable {P : Program} {w : World} {K : PySem.W.Frag} {mg : Str → Option Value} {base : Heap}
def spTimesG (K : PySem.W.Frag) (CT CL CS CX : Addr) : Sp := fun vs H Q E => ∃ (a : Addr) (b : Bk) (n t : Int), vs = [.ref a, .int n, .int t] ∧ StAt K CT CL CS H a b ∧ BkOk b ∧ OutD K CT CL CS CX (doneG b (.times n t)) H Q E
def timR (n t : Int) (r : Nat × Ui) : Nat × Ui := if (r.1 : Int) = n then (r.1, setT t r.2) else r
theorem c_with_times (D : FnAt K mg "with_times" s_with_times) (Z : Ev K mg) (T : Bl mg) (x_BadDeed : MakX P w K mg base 1 "BadDeed" Z.BadDeed (spX1S K Z.BadDeed "deed")) (c_State : Mak P w K mg base 1 "State" Z.State (spSt Z.State) []) (c_State_numbers : Met P w K mg base 1 Z.State "numbers" (spNums K Z.Table Z.Lot Z.State) []) (c_is_whole : Cal P w K mg base 1 "is_whole" spWhole []) : CalX P w K mg base 3 "with_times" (spTimesG K Z.Table Z.Lot Z.State Z.BadDeed) := by
  refine calOfX D sc_with_times (fun _ _ _ _ _ _ us hl => match us, hl with | [_, _, _], _ => rfl) (fun vs H Q E h => ?_) (fun f cdv A outer s H vs Q E hr h => ?_)
  · obtain ⟨a, b, n, t, rfl, _⟩ := h
    rfl
  · obtain ⟨a, b, n, t, rfl, hSt, ok, k⟩ := h
    have nd := sc_with_times.nd
    obtain ⟨dx, l, rp, ys, ha, hL, hS, pr⟩ := id hSt
    obtain ⟨yl, ya⟩ := paired_at pr
    have hlen := ok.len
    refine ⟨_, (pss_cons (ps_if (PW.pt (pw_or (pt_cmpR (notInSeq K) (pv 1) (pe_mt0 c_State_numbers hr (by decide) (pv 0) ) (by rfl)) (pw_or1 (pt_not (pt_val (pe_c c_is_whole hr (by decide) (by rfl) (pa_cons (pv 2) (pa_cons pe_int (pa_cons (pe_op op_pow pe_int pe_int) pa_nil)))))))))
        (pss_one (ps_rx x_BadDeed hr (by decide) (by rfl) rfl (takes_of rfl rfl rfl rfl) (pa_cons pe_str pa_nil)))
        pss_nil)
      (pss_cons (ps_setLc (i := 3) (own := [("here", 4), ("use", 5)]) (g := gTup K 2 (gCons (gName 4) (gCons (gName 5) gNil))) (tt := tYes) rfl nd rfl rfl (sw_true rfl rfl rfl (by decide +kernel)) (piTup K (peFld K (pv 0))) (blkOk_by (N := ["state", "number", "times", "rows", "here", "use"]) (sc := defScope s_with_times) (own := [("here", 4), ("use", 5)]) (by decide +kernel)) (fun _ _ _ _ _ => (pgTup K rfl (pgs_cons (pg_name (i := 4) nd rfl (by first | exact Or.inl rfl | exact Or.inr rfl)) (pgs_cons (pg_name (i := 5) nd rfl (by first | exact Or.inl rfl | exact Or.inr rfl)) pgs_nil)))) (fun _ _ _ _ _ => pts_nil) (fun _ _ _ _ _ => (pe_tup (pa_cons (pv 4) (pa_cons (pe_ifExp (pt_cmpR op_eq (pv 4) (pv 1) (nomark _)) (pe_tup (pa_cons (pe_ix (ixT K) (pv 5) pe_int (fun _ _ => rfl)) (pa_cons (pe_ix (ixT K) (pv 5) pe_int (fun _ _ => rfl)) (pa_cons (pv 2) pa_nil)))) (pv 5)) pa_nil)))))
      (pss_one (ps_ret (pe_mk c_State hr (by decide) (by rfl) (pa_cons (peFld K (pv 0)) (pa_cons (peFld K (pv 0)) (pa_cons (pe_callTy (crTup K) (by rfl) T.b_tuple (by decide +kernel) (pa_cons (pv 3) pa_nil)) (pa_cons (peFld K (pv 0)) pa_nil))))))))), ?_⟩
    rw [done_times] at k
    refine ⟨_, rfl, _, rfl, a, dx, _, rfl, ha, rfl, a, b, rfl, hSt, by omega, fun p H1 sm1 hp0 hp => ?_⟩
    refine ⟨p, _, rfl, .inr (.inl (.inl hp)), rfl, flat_nats _, _, rfl, ?_⟩
    show if (!inV (.int n) (nL (b.rows.map (·.1)))) = true then _ else _
    rw [inV_nums, nums_eq]
    refine ite2 (fun h => ?_) (fun h => ?_)
    · rw [Bool.not_eq_true', decide_eq_false_iff_not] at h
      rw [if_neg (fun z => h z.1)] at k
      exact ⟨by show 1 ≤ 1000; decide, mkO_1S (by decide) fun d H' sm hd e => (k.pass sm1).2 _ rfl d H' sm hd e⟩
    rw [Bool.not_eq_true', Bool.not_eq_false, decide_eq_true_eq] at h
    refine ⟨_, rfl, 10, 6, rfl, rfl, ⟨by decide, by decide, by decide⟩, t, 1, 10 ^ 6, rfl, _, rfl, ite2 (fun h2 => ?_) (fun h2 => ?_)⟩
    · rw [Bool.not_eq_true', decide_eq_false_iff_not] at h2
      rw [if_neg (fun z => h2 z.2)] at k
      exact ⟨by show 1 ≤ 1000; decide, mkO_1S (by decide) fun d H' sm hd e => (k.pass sm1).2 _ rfl d H' sm hd e⟩
    rw [Bool.not_eq_true', Bool.not_eq_false, decide_eq_true_eq] at h2
    rw [if_pos ⟨h, h2⟩] at k
    have ha1 := sm1 _ _ ha
    have hS1 := same_seqT sm1 hS
    have pr1 := Paired.mapP pr fun _ _ z => z.imm (Same.imm sm1)
    obtain ⟨yu, it, hyu⟩ := rows_items pr1
    refine ⟨_, rfl, a, Z.State, dx, _, _, rfl, ha1, Z.c_State.c, Z.n_State_rows, rfl, rp, rfl, ⟨_, hS1⟩, fun W hW => lc_pairT hS1 it (fun _ _ => rfl) (sel := fun _ => true) (P := fun i y H => RowR K H y (timR n t (b.rows.getD i (0, ⟨0, [], 0⟩)))) ⟨fun _ _ _ _ sm h => h.imm (SameT.imm sm), fun i H2 _ _ R r => r H2 (Same.refl H2), fun i H2 hi _ sm R r => ?_⟩ hW (lt_line (by omega)) (fun H2 bs sm hd _ pb => ?_)⟩
    · obtain ⟨q, nr, eq, h3, h4⟩ := (hyu i hi).imm (Same.imm sm)
      have fin : ∀ (y : V) (H3 : Hp), Same H2 H3 → UiR K H3 y (timR n t (b.rows.getD i (0, ⟨0, [], 0⟩))).2 → (timR n t (b.rows.getD i (0, ⟨0, [], 0⟩))).1 = (b.rows.getD i (0, ⟨0, [], 0⟩)).1 → 2 ≤ sizeLine ∧ ∀ p', H3 p' = none → R (.ref p') (upd H3 p' (.tup [nV (b.rows.getD i (0, ⟨0, [], 0⟩)).1, y])) := fun y H3 sm3 hy e1 => by
        refine ⟨by decide, fun p' hp' => r _ _ (sm3.trans (same_new hp')) ⟨p', y, rfl, ?_, hy.imm (Same.imm (same_new hp'))⟩⟩
        rw [e1]
        exact .inl (.inl upd_same)
      refine ⟨_, rfl, _, rfl, _, rfl, rfl, _, rfl, ?_⟩
      show if decide (nV (b.rows.getD i (0, ⟨0, [], 0⟩)).1 = V.int n) = true then _ else _
      rw [dec_nI]
      refine ite2 (fun h5 => ?_) (fun h5 => ?_)
      · have e5 := of_decide_eq_true h5
        have et : timR n t (b.rows.getD i (0, ⟨0, [], 0⟩)) = ((b.rows.getD i (0, ⟨0, [], 0⟩)).1, setT t (b.rows.getD i (0, ⟨0, [], 0⟩)).2) := if_pos e5
        refine ⟨_, rfl, q, _, (0 : Int), .int (b.rows.getD i (0, ⟨0, [], 0⟩)).2.at_, eq, rfl, h3, rfl, _, rfl, q, _, (1 : Int), .ref nr, eq, rfl, h3, rfl, _, rfl, by show 3 ≤ sizeLine; decide, fun z hz => ?_⟩
        have sm3 := same_new (o := .tup [.int (b.rows.getD i (0, ⟨0, [], 0⟩)).2.at_, .ref nr, .int t]) hz
        refine fin (.ref z) _ sm3 ?_ (by rw [et])
        rw [et]
        exact ⟨z, nr, rfl, .inl (.inl upd_same), same_seqT sm3 h4⟩
      · have e5 : ¬ ((b.rows.getD i (0, ⟨0, [], 0⟩)).1 : Int) = n := fun z => h5 (decide_eq_true z)
        have et : timR n t (b.rows.getD i (0, ⟨0, [], 0⟩)) = b.rows.getD i (0, ⟨0, [], 0⟩) := if_neg e5
        refine ⟨_, rfl, ?_⟩
        refine fin (yu i) _ (Same.refl H2) ?_ (by rw [et])
        rw [et]
        exact (hyu i hi).imm (Same.imm sm)
    · rw [filter_yes, yl] at pb
      have pb2 := paired_mapR (fun i => timR n t (b.rows.getD i (0, ⟨0, [], 0⟩))) pb
      have e : (List.range b.rows.length).map (fun i => timR n t (b.rows.getD i (0, ⟨0, [], 0⟩))) = b.rows.map (timR n t) := by
        have z := congrArg (List.map (timR n t)) (map_range_get b.rows (0, ⟨0, [], 0⟩))
        rw [List.map_map] at z
        exact z
      rw [e] at pb2
      have sm2 := sm1.trans sm
      have ha2 := sm2 _ _ ha
      refine ⟨_, rfl, a, Z.State, dx, _, _, rfl, ha2, Z.c_State.c, Z.n_State_lot, rfl, _, rfl, a, Z.State, dx, _, _, rfl, ha2, Z.c_State.c, Z.n_State_many, rfl, _, rfl, W, bs, rfl, .inl ⟨SqL.of hd, fun tt htt => ?_⟩⟩
      have sm3 := sm2.trans (same_new (o := .tup bs) htt)
      have ha3 := sm3 _ _ ha
      refine ⟨_, rfl, a, Z.State, dx, _, _, rfl, ha3, Z.c_State.c, Z.n_State_ahead, rfl, ?_⟩
      intro x dx2 hx hdx ne
      refine ⟨x, dx2, l, tt, b.many, b.ahead, rfl, upd_same, rfl, ?_⟩
      rw [upd_upd]
      obtain ⟨sm4, st⟩ := mk_state (CS := Z.State) (b := { b with rows := b.rows.map (timR n t) }) hx hdx ne (hL.grow sm3) (.inl (.inl upd_same)) (Paired.mapP pb2 fun _ _ z => z.imm (Same.imm (same_new htt)))
      exact k.1 _ rfl x _ (sm3.trans sm4) st
def spTabG (K : PySem.W.Frag) (CT CL CS CX : Addr) : Sp := fun vs H Q E => ∃ (a ta : Addr) (b : Bk) (i : Int) (t : Tb), vs = [.ref a, .int i, .ref ta] ∧ StAt K CT CL CS H a b ∧ BkOk b ∧ TabAt K CT H ta t.1 t.2 ∧ t.1 ≤ 4 ∧ t.2.length = 2 ^ t.1 ∧ OutD K CT CL CS CX (doneG b (.table i t)) H Q E
theorem paired_set {α β : Type} {F : α → β → Prop} : ∀ {xs : List α} {ys : List β} {i : Nat} {x : α} {y : β}, Paired F xs ys → F x y → Paired F (xs.set i x) (ys.set i y)
  | _, _, _, _, _, .nil, _ => .nil
  | _, _, 0, _, _, .cons _ t, h => .cons h t
  | _, _, _ + 1, _, _, .cons r t, h => .cons r (paired_set t h)
theorem c_with_table (D : FnAt K mg "with_table" s_with_table) (Z : Ev K mg) (T : Bl mg) (x_BadDeed : MakX P w K mg base 1 "BadDeed" Z.BadDeed (spX1S K Z.BadDeed "deed")) (c_State : Mak P w K mg base 1 "State" Z.State (spSt Z.State) []) (c_is_whole : Cal P w K mg base 1 "is_whole" spWhole []) (c_is_told : Cal P w K mg base 1 "is_told" (spToldB K Z.Table) []) (c_Lot : Mak P w K mg base 6 "Lot" Z.Lot (spLot K Z.Table Z.Lot) []) : CalX P w K mg base 8 "with_table" (spTabG K Z.Table Z.Lot Z.State Z.BadDeed) := by
  refine calOfX D sc_with_table (fun _ _ _ _ _ _ us hl => match us, hl with | [_, _, _], _ => rfl) (fun vs H Q E h => ?_) (fun f cdv A outer s H vs Q E hr h => ?_)
  · obtain ⟨a, ta, b, i, t, rfl, _⟩ := h
    rfl
  · obtain ⟨a, ta, b, i, t, rfl, ⟨dx, l, rp, ys, ha, hL, hS, pr⟩, ok, hT, h4, h2k, k⟩ := h
    have nd := sc_with_table.nd
    obtain ⟨dl, tt, sb, zs, hl, hts, pT⟩ := id hL
    obtain ⟨zl, za⟩ := paired_at pT
    have t1 := ok.t1
    have t16 := ok.t16
    refine ⟨_, (pss_cons (ps_if (PW.pt (pw_or (pt_not (pt_val (pe_c c_is_whole hr (by decide) (by rfl) (pa_cons (pv 1) (pa_cons pe_int (pa_cons (pe_op op_subNN (pe_callB (crLen K) (by rfl) T.b_len (by decide +kernel) (pa_cons (peFld K (peFld K (pv 0))) pa_nil)) pe_int) pa_nil)))))) (pw_or1 (pt_not (pt_val (pe_c c_is_told hr (by decide) (by rfl) (pa_cons (pv 2) pa_nil)))))))
        (pss_one (ps_rx x_BadDeed hr (by decide) (by rfl) rfl (takes_of rfl rfl rfl rfl) (pa_cons pe_str pa_nil)))
        pss_nil)
      (pss_cons (ps_if (pt_cmpR op_ne (peFld K (pv 2)) (peFld K (pe_ix (ixT K) (peFld K (peFld K (pv 0))) (pv 1) (fun _ _ => rfl))) (nomark _))
        (pss_one (ps_rx x_BadDeed hr (by decide) (by rfl) rfl (takes_of rfl rfl rfl rfl) (pa_cons pe_str pa_nil)))
        pss_nil)
      (pss_cons (ps_set (i := 3) nd rfl (by first | exact Or.inl rfl | exact Or.inr rfl) (pe_callTy (crList K) (by rfl) T.b_list (by decide +kernel) (pa_cons (peFld K (peFld K (pv 0))) pa_nil)))
      (pss_cons (ps_asg (pv 2) (pg_sub (pv 3) (pv 1) set_list))
      (pss_one (ps_ret (pe_mk c_State hr (by decide) (by rfl) (pa_cons (pe_mk c_Lot hr (by decide) (by rfl) (pa_cons (pe_callTy (crTup K) (by rfl) T.b_tuple (by decide +kernel) (pa_cons (pv 3) pa_nil)) pa_nil)) (pa_cons (peFld K (pv 0)) (pa_cons (peFld K (pv 0)) (pa_cons (peFld K (pv 0)) pa_nil))))))))))), ?_⟩
    rw [done_table] at k
    have lc : ((zs.length - 1 : Nat) : Int) = (b.tbs.length : Int) - 1 := by omega
    refine ⟨_, rfl, _, rfl, a, Z.State, dx, _, _, rfl, ha, Z.c_State.c, Z.n_State_lot, rfl, l, Z.Lot, dl, _, _, rfl, hl, Z.c_Lot.c, Z.n_Lot_tables, rfl, tt, zs, rfl, .inr hts, zs.length, 1, rfl, rfl, by omega, i, 0, _, rfl, _, rfl, ite2 (fun h => ?_) (fun h => ?_)⟩
    · rw [lc, Bool.not_eq_true', decide_eq_false_iff_not] at h
      rw [if_neg (fun z => h z.1)] at k
      exact ⟨by show 1 ≤ 1000; decide, mkO_1S (by decide) fun d H' sm hd e => k.2 _ rfl d H' sm hd e⟩
    rw [lc, Bool.not_eq_true', Bool.not_eq_false, decide_eq_true_eq] at h
    refine ⟨_, rfl, ta, t, rfl, hT, _, rfl, ite2 (fun h2 => ?_) (fun h2 => ?_)⟩
    · rw [Bool.not_eq_true'] at h2
      rw [if_neg (fun z => by rw [z.2.1] at h2; cases h2)] at k
      exact ⟨by show 1 ≤ 1000; decide, mkO_1S (by decide) fun d H' sm hd e => k.2 _ rfl d H' sm hd e⟩
    rw [Bool.not_eq_true', Bool.not_eq_false] at h2
    obtain ⟨j, hj⟩ : ∃ n : Nat, i = (n : Int) := ⟨i.toNat, by omega⟩
    subst hj
    have hlt : j < zs.length := by omega
    have hz : zs[j]? = some zs[j] := List.getElem?_eq_getElem hlt
    obtain ⟨t0, ht0, a0, ea0, d0, tp0, ha0, htp0⟩ := za _ _ hz
    have eg : (b.tbs.getD ((j : Int)).toNat (0, [])).1 = t0.1 := by
      rw [Int.toNat_natCast, List.getD_eq_getElem?_getD, ht0]
      rfl
    obtain ⟨dT, tpT, hta, htpT⟩ := id hT
    refine ⟨_, rfl, ta, Z.Table, dT, _, _, rfl, hta, Z.c_Table.c, Z.n_Table_places, rfl, _, rfl, a, Z.State, dx, _, _, rfl, ha, Z.c_State.c, Z.n_State_lot, rfl, l, Z.Lot, dl, _, _, rfl, hl, Z.c_Lot.c, Z.n_Lot_tables, rfl, _, rfl, tt, zs, (j : Int), zs[j], rfl, rfl, hts, atI_nat hz, a0, Z.Table, d0, _, _, ea0, ha0, Z.c_Table.c, Z.n_Table_places, rfl, rfl, _, rfl, ite2 (fun h3 => ?_) (fun h3 => ?_)⟩
    · have ne : ¬ t.1 = t0.1 := fun z => by
        rw [Bool.not_eq_true', decide_eq_false_iff_not] at h3
        exact h3 (by rw [z])
      rw [if_neg (fun z => ne (z.2.2.trans eg))] at k
      exact ⟨by show 1 ≤ 1000; decide, mkO_1S (by decide) fun d H' sm hd e => k.2 _ rfl d H' sm hd e⟩
    have e3 : t.1 = t0.1 := by
      rw [Bool.not_eq_true', Bool.not_eq_false, decide_eq_true_eq] at h3
      have := V.int.inj h3
      omega
    rw [if_pos ⟨h, h2, e3.trans eg.symm⟩] at k
    refine ⟨_, rfl, a, Z.State, dx, _, _, rfl, ha, Z.c_State.c, Z.n_State_lot, rfl, l, Z.Lot, dl, _, _, rfl, hl, Z.c_Lot.c, Z.n_Lot_tables, rfl, tt, zs, rfl, .inr hts, fun W hW => ?_⟩
    have smW := same_new (o := .lst zs) hW
    refine ⟨_, rfl, _, rfl, _, rfl, W, zs, (j : Int), j, rfl, rfl, upd_same, ixN_lt hlt, ?_⟩
    rw [upd_upd]
    have sm1 : Same H (upd H W (.lst (zs.set j (.ref ta)))) := same_new hW
    refine ⟨_, rfl, W, _, rfl, .inl ⟨SqL.of upd_same, fun q hq => ?_⟩⟩
    have sm2 := sm1.trans (same_new (o := .tup (zs.set j (.ref ta))) hq)
    intro x dx2 hx hdx ne
    have sm3 := sm2.trans (same_new (o := .own x) hdx)
    have hx2 : (upd (upd (upd H W (.lst (zs.set j (.ref ta)))) q (.tup (zs.set j (.ref ta)))) dx2 (.own x)) x = none := by rw [upd_ne ne.symm]; exact hx
    have sm4 := sm3.trans (same_new (o := .ins Z.Lot dx2 []) hx2)
    have s34 : Same (upd (upd (upd H W (.lst (zs.set j (.ref ta)))) q (.tup (zs.set j (.ref ta)))) dx2 (.own x)) _ := same_new (o := .ins Z.Lot dx2 []) hx2
    have hq3 : SqT K (upd (upd (upd H W (.lst (zs.set j (.ref ta)))) q (.tup (zs.set j (.ref ta)))) dx2 (.own x)) q (zs.set j (.ref ta)) := .inl (.inl ((same_new hdx) _ _ upd_same))
    have tbOk : ∀ t' ∈ b.tbs.set j t, TbOk t' := fun t' ht' => by
      rcases List.mem_or_eq_of_mem_set ht' with z | z
      · exact ok.tb _ z
      · rw [z]; exact told_ok h2 h4 h2k
    have prS : ∀ {H' : Hp}, Same H H' → Paired (TabR K Z.Table H') (zs.set j (.ref ta)) (b.tbs.set j t) := fun sm => paired_set (Paired.mapP pT fun _ _ z => z.grow sm) ⟨ta, rfl, hT.grow sm⟩
    refine ⟨x, dx2, q, zs.set j (.ref ta), b.tbs.set j t, rfl, upd_same, same_seqT s34 hq3, prS sm4, by rw [List.length_set]; exact t1, by rw [List.length_set]; exact t16, tbOk, fun sw H5 kp e5 => ⟨rfl, ?_⟩⟩
    have s5 : Same (upd (upd (upd H W (.lst (zs.set j (.ref ta)))) q (.tup (zs.set j (.ref ta)))) dx2 (.own x)) H5 := fun c o hc => kp _ _ (s34 _ _ hc) (ne_of_none hc hx2)
    have sm5 := sm3.trans s5
    have hL5 : LtAt K Z.Table Z.Lot H5 x (b.tbs.set j t) := ⟨dx2, q, sw, _, e5, same_seqT s5 hq3, prS sm5⟩
    have ha5 := sm5 _ _ ha
    refine ⟨_, rfl, a, Z.State, dx, _, _, rfl, ha5, Z.c_State.c, Z.n_State_many, rfl, _, rfl, a, Z.State, dx, _, _, rfl, ha5, Z.c_State.c, Z.n_State_rows, rfl, _, rfl, a, Z.State, dx, _, _, rfl, ha5, Z.c_State.c, Z.n_State_ahead, rfl, ?_⟩
    intro x6 dx6 hx6 hdx6 ne6
    refine ⟨x6, dx6, x, rp, b.many, b.ahead, rfl, upd_same, rfl, ?_⟩
    rw [upd_upd]
    obtain ⟨sm6, st⟩ := mk_state (CS := Z.State) (b := { b with tbs := b.tbs.set j t }) hx6 hdx6 ne6 hL5 (same_seqT sm5 hS) (Paired.mapP pr fun _ _ z => z.imm (Same.imm sm5))
    exact k.1 _ (by rw [Int.toNat_natCast]) x6 _ (sm5.trans sm6) st
end
end L2.KK
namespace L2.KK
open PySem PySem.Spec PyProof.Rows C8
theorem sc_check_deed : FnScope ["deed", "sizes"] ["deed"] (defScope s_check_deed) := ⟨rfl, rfl, rfl, by decide +kernel, rfl, by decide +kernel, by decide +kernel⟩
theorem sc_done : FnScope ["state", "deed"] ["state", "deed"] (defScope s_done) := ⟨rfl, rfl, rfl, by decide +kernel, rfl, by decide +kernel, by decide +kernel⟩
/-- what is seen of a deed ahead of its parts -/
theorem GdAt.shape {K : PySem.W.Frag} {CT : Addr} {H : Hp} {y : V} {g : Gd} (h : GdAt K CT H y g) :
    (g = .bad "deed" ∧ (y = .non ∨ (∃ z, y = .str z) ∨ ∃ l xs, y = .ref l ∧ SqL K H l xs)) ∨ (g = .bad "deed" ∧ ∃ p, y = .ref p ∧ SqT K H p []) ∨
    ∃ p z xs, y = .ref p ∧ SqT K H p (.str z :: xs) ∧ ((z ∉ deedsL ∧ g = .bad "deed") ∨ (z ∈ deedsL ∧ ∃ k : Int, sizeOf z = some (.int k) ∧ (((xs.length : Int) + 1 ≠ k ∧ g = .bad z) ∨ ((xs.length : Int) + 1 = k ∧ ∀ w, g ≠ .bad w)))) := by
  cases g with
  | bad w =>
    rcases (show BadAt K H y w from h) with ⟨h1, h2⟩ | ⟨h1, h2⟩ | ⟨p, z, xs, h1, h2, h3, h4⟩ | ⟨p, z, xs, k, h1, h2, h3, h4, h5, h6⟩
    · exact .inl ⟨by rw [h1], h2⟩
    · exact .inr (.inl ⟨by rw [h1], h2⟩)
    · exact .inr (.inr ⟨p, z, xs, h1, h2, .inl ⟨h3, by rw [h4]⟩⟩)
    · exact .inr (.inr ⟨p, z, xs, h1, h2, .inr ⟨h3, k, h4, .inl ⟨h5, by rw [h6]⟩⟩⟩)
  | name => obtain ⟨p, h1, h2⟩ := h; exact .inr (.inr ⟨p, _, _, h1, h2, .inr ⟨by decide, 1, rfl, .inr ⟨rfl, fun _ z => nomatch z⟩⟩⟩)
  | add u => obtain ⟨p, nr, h1, h2, _⟩ := h; exact .inr (.inr ⟨p, _, _, h1, h2, .inr ⟨by decide, 4, rfl, .inr ⟨rfl, fun _ z => nomatch z⟩⟩⟩)
  | drop n => obtain ⟨p, h1, h2⟩ := h; exact .inr (.inr ⟨p, _, _, h1, h2, .inr ⟨by decide, 2, rfl, .inr ⟨rfl, fun _ z => nomatch z⟩⟩⟩)
  | times n t => obtain ⟨p, h1, h2⟩ := h; exact .inr (.inr ⟨p, _, _, h1, h2, .inr ⟨by decide, 3, rfl, .inr ⟨rfl, fun _ z => nomatch z⟩⟩⟩)
  | table i t => obtain ⟨p, ta, h1, h2, _⟩ := h; exact .inr (.inr ⟨p, _, _, h1, h2, .inr ⟨by decide, 3, rfl, .inr ⟨rfl, fun _ z => nomatch z⟩⟩⟩)
theorem deeds_len : ∀ z ∈ deedsL, z.length ≤ 1000 := by decide
section
variable {P : Program} {w : World} {K : PySem.W.Frag} {mg : Str → Option Value} {base : Heap}
def spCheck (K : PySem.W.Frag) (CT CX : Addr) : Sp := fun vs H Q E => ∃ (y : V) (g : Gd), vs = [y] ∧ GdAt K CT H y g ∧ (∀ w, g = .bad w → OverV CX "deed" H E (.str w)) ∧ ((∀ w, g ≠ .bad w) → ∀ H', Same H H' → Q .non H')
theorem c_check_deed (D : FnAt K mg "check_deed" s_check_deed) (Z : Ev K mg) (T : Bl mg) (x_BadDeed : MakX P w K mg base 1 "BadDeed" Z.BadDeed (spX1S K Z.BadDeed "deed")) : CalX P w K mg base 3 "check_deed" (spCheck K Z.Table Z.BadDeed) := by
  refine calOfX D sc_check_deed (fun _ _ _ _ _ _ us hl => match us, hl with | [_], _ => rfl) (fun vs H Q E h => ?_) (fun f cdv A outer s H vs Q E hr h => ?_)
  · obtain ⟨y, g, rfl, _⟩ := h
    rfl
  · obtain ⟨y, g, rfl, hg, kE, k⟩ := h
    have nd := sc_check_deed.nd
    have hu := hr.units
    refine ⟨_, (pss_cons (ps_if (PW.pt (pw_or (pt_not (pt_val (pe_callB (crIsi K) (by rfl) T.b_isinstance (by decide +kernel) (pa_cons (pv 0) (pa_cons (pe_bltn (v := .ty "tuple") (u := .type "tuple") (by rfl) T.b_tuple (by decide +kernel) (by rfl)) pa_nil))))) (pw_or (pt_not (ptTru K (pv 0))) (pw_or1 (pt_cmpR (notInSeq K) (pe_ix (ixT K) (pv 0) pe_int (fun _ _ => rfl)) (pe_glob (v := .ref Z.DEEDS) (by rfl) Z.k_DEEDS (by rfl)) (by rfl))))))
        (pss_one (ps_rx x_BadDeed hr (by decide) (by rfl) rfl (takes_of rfl rfl rfl rfl) (pa_cons pe_str pa_nil)))
        pss_nil)
      (pss_cons (ps_set (i := 1) nd rfl (by first | exact Or.inl rfl | exact Or.inr rfl) (pe_disp (pps_cons pe_str pe_int (pps_cons pe_str pe_int (pps_cons pe_str pe_int (pps_cons pe_str pe_int (pps_cons pe_str pe_int pps_nil))))) (by rfl) (by rfl) (by simp) (by decide)))
      (pss_one (ps_if (pt_cmpR op_ne (pe_callB (crLen K) (by rfl) T.b_len (by decide +kernel) (pa_cons (pv 0) pa_nil)) (pe_dget (units1 hu) (pv 1) (pe_ix (ixT K) (pv 0) pe_int (fun _ _ => rfl)) (fun _ _ => rfl)) (nomark _))
        (pss_one (ps_rx x_BadDeed hr (by decide) (by rfl) rfl (takes_of rfl rfl rfl rfl) (pa_cons (pe_ix (ixT K) (pv 0) pe_int (fun _ _ => rfl)) pa_nil)))
        pss_nil)))), ?_⟩
    rcases hg.shape with ⟨h1, h2⟩ | ⟨h1, p, rfl, hS⟩ | ⟨p, z, xs, rfl, hS, h3⟩
    · have no : ∃ t : Value, TyX K H y t ∧ PySem.W.kitOne K t (.type "tuple") = some false := by
        rcases h2 with rfl | ⟨z, rfl⟩ | ⟨l, xs, rfl, hl⟩
        · exact ⟨_, .base .non, kit_ty (by decide +kernel)⟩
        · exact ⟨_, .base (.str z), kit_ty (by decide +kernel)⟩
        · exact ⟨_, tyx_seqL hl, kit_ty (by decide +kernel)⟩
      obtain ⟨t, ht, hk⟩ := no
      refine ⟨_, rfl, _, _, _, .type "tuple", false, rfl, .ty "tuple", ht, hk, false, rfl, iteT ?_⟩
      exact ⟨by show 1 ≤ 1000; decide, mkO_1S (by decide) fun d H' sm hd e => kE _ h1 d H' sm hd e⟩
    · refine ⟨_, rfl, _, _, .type "tuple", .type "tuple", true, rfl, .ty "tuple", tyx_seqT hS, kit_ty (by decide +kernel), true, rfl, iteF ?_⟩
      refine ⟨_, rfl, false, .inr (.inl ⟨[], hS, rfl⟩), iteT ?_⟩
      exact ⟨by show 1 ≤ 1000; decide, mkO_1S (by decide) fun d H' sm hd e => kE _ h1 d H' sm hd e⟩
    · refine ⟨_, rfl, _, _, .type "tuple", .type "tuple", true, rfl, .ty "tuple", tyx_seqT hS, kit_ty (by decide +kernel), true, rfl, iteF ?_⟩
      refine ⟨_, rfl, true, .inr (.inl ⟨_, hS, rfl⟩), iteF ?_⟩
      refine ⟨_, rfl, p, _, (0 : Int), .str z, rfl, rfl, hS, atI_nat (j := 0) rfl, Z.DEEDS, deedsL.map V.str, rfl, .inr (Z.t_DEEDS H), rfl, flat_strs _, _, rfl, ?_⟩
      show if (!inV (.str z) (deedsL.map V.str)) = true then _ else _
      rw [inV_str]
      refine ite2 (fun h => ?_) (fun h => ?_)
      · rw [Bool.not_eq_true', decide_eq_false_iff_not] at h
        rcases h3 with ⟨_, h4⟩ | ⟨h4, _⟩
        · exact ⟨by show 1 ≤ 1000; decide, mkO_1S (by decide) fun d H' sm hd e => kE _ h4 d H' sm hd e⟩
        · exact absurd h4 h
      · rw [Bool.not_eq_true', Bool.not_eq_false, decide_eq_true_eq] at h
        rcases h3 with ⟨h4, _⟩ | ⟨_, n, hn, h5⟩
        · exact absurd h h4
        intro q hq
        have sm : Same H (upd H q (.dK sizesL)) := same_new hq
        have hS1 := same_seqT sm hS
        refine ⟨upd_same, sizesL, rfl, by decide, ?_⟩
        rw [upd_upd]
        have em : mergeK [] sizesL = sizesL := by rfl
        rw [em]
        refine ⟨_, rfl, p, _, rfl, .inr hS1, _, rfl, _, rfl, p, _, (0 : Int), .str z, rfl, rfl, hS1, atI_nat (j := 0) rfl, q, .int n, rfl, .inl ⟨sizesL, .inr z, .inl upd_same, rfl, hn.symm⟩, rfl, _, rfl, ?_⟩
        have el : decide (V.int (((V.str z :: xs).length : Nat) : Int) = V.int n) = decide ((xs.length : Int) + 1 = n) := by
          rw [Bool.eq_iff_iff, decide_eq_true_iff, decide_eq_true_iff, List.length_cons]
          constructor
          · intro e
            have := V.int.inj e
            omega
          · intro e
            exact congrArg V.int (by omega)
        rw [el]
        refine ite2 (fun h6 => ?_) (fun h6 => ?_)
        · rw [Bool.not_eq_true', decide_eq_false_iff_not] at h6
          rcases h5 with ⟨_, h7⟩ | ⟨h7, _⟩
          · refine ⟨_, rfl, p, _, (0 : Int), .str z, rfl, rfl, hS1, atI_nat (j := 0) rfl, by show 1 ≤ 1000; decide, mkO_1S (deeds_len z h) fun d H' sm2 hd e => ((kE _ h7).pass sm) d H' sm2 hd e⟩
          · exact absurd h7 h6
        · rw [Bool.not_eq_true', Bool.not_eq_false, decide_eq_true_eq] at h6
          rcases h5 with ⟨h7, _⟩ | ⟨_, h7⟩
          · exact absurd h6 h7
          · exact k h7 _ sm
def spDone (K : PySem.W.Frag) (CT CL CS CX : Addr) : Sp := fun vs H Q E => ∃ (a : Addr) (y : V) (b : Bk) (g : Gd), vs = [.ref a, y] ∧ StAt K CT CL CS H a b ∧ GdAt K CT H y g ∧ BkOk b ∧ GdOk g ∧ OutD K CT CL CS CX (doneG b g) H Q E
theorem str_ne {a b : Str} (n : ¬ a = b) : ¬ decide (V.str a = V.str b) = true := fun h => n (V.str.inj (of_decide_eq_true h))
theorem c_done (D : FnAt K mg "done" s_done) (Z : Ev K mg) (T : Bl mg) (c_check_deed : CalX P w K mg base 3 "check_deed" (spCheck K Z.Table Z.BadDeed)) (c_named : CalX P w K mg base 3 "named" (spNamed K Z.Table Z.Lot Z.State Z.BadDeed)) (c_added_use : CalX P w K mg base 3 "added_use" (spAdd K Z.Table Z.Lot Z.State Z.BadDeed))
    (c_dropped : CalX P w K mg base 3 "dropped" (spDrop K Z.Table Z.Lot Z.State Z.BadDeed)) (c_with_times : CalX P w K mg base 3 "with_times" (spTimesG K Z.Table Z.Lot Z.State Z.BadDeed)) (c_with_table : CalX P w K mg base 8 "with_table" (spTabG K Z.Table Z.Lot Z.State Z.BadDeed)) : CalX P w K mg base 9 "done" (spDone K Z.Table Z.Lot Z.State Z.BadDeed) := by
  refine calOfX D sc_done (fun _ _ _ _ _ _ us hl => match us, hl with | [_, _], _ => rfl) (fun vs H Q E h => ?_) (fun f cdv A outer s H vs Q E hr h => ?_)
  · obtain ⟨a, y, b, g, rfl, _⟩ := h
    rfl
  · obtain ⟨a, y, b, g, rfl, hSt, hg, ok, gok, k⟩ := h
    refine ⟨_, (pss_cons (ps_expr (pe_cx c_check_deed hr (by decide) (by rfl) (takes_of rfl rfl rfl rfl) (pa_cons (pv 1) pa_nil)))
      (pss_cons (ps_if (pt_cmpR op_eq (pe_ix (ixT K) (pv 1) pe_int (fun _ _ => rfl)) pe_str (nomark _))
        (pss_one (ps_ret (pe_cx c_named hr (by decide) (by rfl) (takes_of rfl rfl rfl rfl) (pa_cons (pv 0) pa_nil))))
        pss_nil)
      (pss_cons (ps_if (pt_cmpR op_eq (pe_ix (ixT K) (pv 1) pe_int (fun _ _ => rfl)) pe_str (nomark _))
        (pss_one (ps_ret (pe_cx c_added_use hr (by decide) (by rfl) (takes_of rfl rfl rfl rfl) (pa_cons (pv 0) (pa_cons (pe_tup (pa_cons (pe_ix (ixT K) (pv 1) pe_int (fun _ _ => rfl)) (pa_cons (pe_ix (ixT K) (pv 1) pe_int (fun _ _ => rfl)) (pa_cons (pe_ix (ixT K) (pv 1) pe_int (fun _ _ => rfl)) pa_nil)))) pa_nil)))))
        pss_nil)
      (pss_cons (ps_if (pt_cmpR op_eq (pe_ix (ixT K) (pv 1) pe_int (fun _ _ => rfl)) pe_str (nomark _))
        (pss_one (ps_ret (pe_cx c_dropped hr (by decide) (by rfl) (takes_of rfl rfl rfl rfl) (pa_cons (pv 0) (pa_cons (pe_ix (ixT K) (pv 1) pe_int (fun _ _ => rfl)) pa_nil)))))
        pss_nil)
      (pss_cons (ps_if (pt_cmpR op_eq (pe_ix (ixT K) (pv 1) pe_int (fun _ _ => rfl)) pe_str (nomark _))
        (pss_one (ps_ret (pe_cx c_with_times hr (by decide) (by rfl) (takes_of rfl rfl rfl rfl) (pa_cons (pv 0) (pa_cons (pe_ix (ixT K) (pv 1) pe_int (fun _ _ => rfl)) (pa_cons (pe_ix (ixT K) (pv 1) pe_int (fun _ _ => rfl)) pa_nil))))))
        pss_nil)
      (pss_one (ps_ret (pe_cx c_with_table hr (by decide) (by rfl) (takes_of rfl rfl rfl rfl) (pa_cons (pv 0) (pa_cons (pe_ix (ixT K) (pv 1) pe_int (fun _ _ => rfl)) (pa_cons (pe_ix (ixT K) (pv 1) pe_int (fun _ _ => rfl)) pa_nil))))))))))), ?_⟩
    refine ⟨_, rfl, y, g, rfl, hg, fun w e => k.2 w (by rw [e]; rfl), fun good H1 sm1 => ?_⟩
    have hSt1 := hSt.imm (Same.imm sm1)
    have k1 := k.pass sm1
    have hg1 := hg.grow sm1
    cases g with
    | bad w => exact absurd rfl (good w)
    | name =>
      obtain ⟨p, rfl, hS⟩ := hg1
      refine ⟨_, rfl, p, _, (0 : Int), .str "name", rfl, rfl, hS, rfl, rfl, _, rfl, ite2 (fun _ => ?_) (fun h => absurd (decide_eq_true rfl) h)⟩
      exact ⟨_, rfl, a, b, rfl, hSt1, k1⟩
    | add u =>
      obtain ⟨p, nr, rfl, hS, hn, hl⟩ := hg1
      refine ⟨_, rfl, p, _, (0 : Int), .str "add", rfl, rfl, hS, rfl, rfl, _, rfl, ite2 (fun h => absurd h (str_ne (by decide))) (fun _ => ?_)⟩
      refine ⟨_, rfl, p, _, (0 : Int), .str "add", rfl, rfl, hS, rfl, rfl, _, rfl, ite2 (fun _ => ?_) (fun h => absurd (decide_eq_true rfl) h)⟩
      refine ⟨_, rfl, _, rfl, p, _, (1 : Int), .int u.at_, rfl, rfl, hS, rfl, _, rfl, p, _, (2 : Int), .ref nr, rfl, rfl, hS, rfl, _, rfl, p, _, (3 : Int), .int u.times, rfl, rfl, hS, rfl, by show 3 ≤ sizeLine; decide, fun r hr0 => ?_⟩
      have sm2 := same_new (o := .tup [.int u.at_, .ref nr, .int u.times]) hr0
      exact ⟨a, r, b, u, rfl, hSt1.imm (Same.imm sm2), ok, ⟨r, nr, rfl, .inl (.inl upd_same), same_seqT sm2 hn⟩, hl, k1.pass sm2⟩
    | drop n =>
      obtain ⟨p, rfl, hS⟩ := hg1
      refine ⟨_, rfl, p, _, (0 : Int), .str "drop", rfl, rfl, hS, rfl, rfl, _, rfl, ite2 (fun h => absurd h (str_ne (by decide))) (fun _ => ?_)⟩
      refine ⟨_, rfl, p, _, (0 : Int), .str "drop", rfl, rfl, hS, rfl, rfl, _, rfl, ite2 (fun h => absurd h (str_ne (by decide))) (fun _ => ?_)⟩
      refine ⟨_, rfl, p, _, (0 : Int), .str "drop", rfl, rfl, hS, rfl, rfl, _, rfl, ite2 (fun _ => ?_) (fun h => absurd (decide_eq_true rfl) h)⟩
      exact ⟨_, rfl, _, rfl, p, _, (1 : Int), .int n, rfl, rfl, hS, rfl, a, b, n, rfl, hSt1, ok, k1⟩
    | times n t =>
      obtain ⟨p, rfl, hS⟩ := hg1
      refine ⟨_, rfl, p, _, (0 : Int), .str "times", rfl, rfl, hS, rfl, rfl, _, rfl, ite2 (fun h => absurd h (str_ne (by decide))) (fun _ => ?_)⟩
      refine ⟨_, rfl, p, _, (0 : Int), .str "times", rfl, rfl, hS, rfl, rfl, _, rfl, ite2 (fun h => absurd h (str_ne (by decide))) (fun _ => ?_)⟩
      refine ⟨_, rfl, p, _, (0 : Int), .str "times", rfl, rfl, hS, rfl, rfl, _, rfl, ite2 (fun h => absurd h (str_ne (by decide))) (fun _ => ?_)⟩
      refine ⟨_, rfl, p, _, (0 : Int), .str "times", rfl, rfl, hS, rfl, rfl, _, rfl, ite2 (fun _ => ?_) (fun h => absurd (decide_eq_true rfl) h)⟩
      exact ⟨_, rfl, _, rfl, p, _, (1 : Int), .int n, rfl, rfl, hS, rfl, _, rfl, p, _, (2 : Int), .int t, rfl, rfl, hS, rfl, a, b, n, t, rfl, hSt1, ok, k1⟩
    | table i t =>
      obtain ⟨p, ta, rfl, hS, hT⟩ := hg1
      refine ⟨_, rfl, p, _, (0 : Int), .str "table", rfl, rfl, hS, rfl, rfl, _, rfl, ite2 (fun h => absurd h (str_ne (by decide))) (fun _ => ?_)⟩
      refine ⟨_, rfl, p, _, (0 : Int), .str "table", rfl, rfl, hS, rfl, rfl, _, rfl, ite2 (fun h => absurd h (str_ne (by decide))) (fun _ => ?_)⟩
      refine ⟨_, rfl, p, _, (0 : Int), .str "table", rfl, rfl, hS, rfl, rfl, _, rfl, ite2 (fun h => absurd h (str_ne (by decide))) (fun _ => ?_)⟩
      refine ⟨_, rfl, p, _, (0 : Int), .str "table", rfl, rfl, hS, rfl, rfl, _, rfl, ite2 (fun h => absurd h (str_ne (by decide))) (fun _ => ?_)⟩
      exact ⟨_, rfl, _, rfl, p, _, (1 : Int), .int i, rfl, rfl, hS, rfl, _, rfl, p, _, (2 : Int), .ref ta, rfl, rfl, hS, rfl, a, ta, b, i, t, rfl, hSt1, ok, hT, gok.1, gok.2, k1⟩
end
end L2.KK
namespace L2.KK
open PySem PySem.Spec PyProof.Rows C8
theorem sc_Ledger_init : FnScope ["self", "lot"] ["self", "lot"] (defScope s_Ledger_init) := ⟨rfl, rfl, rfl, by decide +kernel, rfl, by decide +kernel, by decide +kernel⟩
theorem sc_Ledger_go : FnScope ["self", "state"] ["self", "state"] (defScope s_Ledger_go) := ⟨rfl, rfl, rfl, by decide +kernel, rfl, by decide +kernel, by decide +kernel⟩
/-! ### ledgers -/
def lgF (pl sa ll : Addr) : List (Str × V) := [("past", .ref pl), ("state", .ref sa), ("later", .ref ll), ("told", .non), ("reply", .non), ("verdicts_made", .int 0), ("answers_made", .int 0)]
def StR (K : PySem.W.Frag) (CT CL CS : Addr) (H : Hp) (y : V) (b : Bk) : Prop := ∃ s, y = .ref s ∧ StAt K CT CL CS H s b
theorem StR.imm {K : PySem.W.Frag} {CT CL CS : Addr} {H H' : Hp} {y : V} {b : Bk} (h : StR K CT CL CS H y b) (e : Imm H H') : StR K CT CL CS H' y b := by
  obtain ⟨s, h1, h2⟩ := h
  exact ⟨s, h1, h2.imm e⟩
/-- a ledger at a, its lists at pl and ll -/
def LgAt (K : PySem.W.Frag) (CT CL CS CG : Addr) (H : Hp) (a pl ll : Addr) (past : List Bk) (cur : Bk) (later : List Bk) : Prop :=
  ∃ dx sa pys lys, H a = some (.ins CG dx (lgF pl sa ll)) ∧ H pl = some (.lst pys) ∧ Paired (StR K CT CL CS H) pys past ∧ StAt K CT CL CS H sa cur ∧ H ll = some (.lst lys) ∧ Paired (StR K CT CL CS H) lys later ∧ pl ≠ ll
theorem LgAt.chg {K : PySem.W.Frag} {CT CL CS CG : Addr} {H H' : Hp} {a pl ll : Addr} {past later : List Bk} {cur : Bk} (h : LgAt K CT CL CS CG H a pl ll past cur later) (e : Imm H H') (k : ∀ b o, b = a ∨ b = pl ∨ b = ll → H b = some o → H' b = some o) : LgAt K CT CL CS CG H' a pl ll past cur later := by
  obtain ⟨dx, sa, pys, lys, h1, h2, h3, h4, h5, h6, h7⟩ := h
  exact ⟨dx, sa, pys, lys, k _ _ (.inl rfl) h1, k _ _ (.inr (.inl rfl)) h2, Paired.mapP h3 fun _ _ q => q.imm e, h4.imm e, k _ _ (.inr (.inr rfl)) h5, Paired.mapP h6 fun _ _ q => q.imm e, h7⟩
theorem LgAt.grow {K : PySem.W.Frag} {CT CL CS CG : Addr} {H H' : Hp} {a pl ll : Addr} {past later : List Bk} {cur : Bk} (h : LgAt K CT CL CS CG H a pl ll past cur later) (e : Same H H') : LgAt K CT CL CS CG H' a pl ll past cur later := h.chg (Same.imm e) fun b o _ q => e b o q
theorem done_len {b b' : Bk} {g : Gd} (h : doneG b g = .ok b') : b'.tbs.length = b.tbs.length := by
  cases g with
  | bad w => cases h
  | name => rw [done_name] at h; split at h <;> cases h; rfl
  | add u => rw [done_add] at h; split at h <;> cases h; rfl
  | drop n => rw [done_drop] at h; split at h <;> cases h; rfl
  | times n t => rw [done_times] at h; split at h <;> cases h; rfl
  | table i t =>
    rw [done_table] at h
    split at h <;> cases h
    exact List.length_set ..
/-- what is told of a deed that was done -/
def toldV (g : Gd) (b : Bk) : V := match g with
  | .add _ => nV (b.ahead - 1)
  | _ => .non
def NotLot (K : PySem.W.Frag) (H : Hp) (v : V) : Prop := v = .non ∨ (∃ i, v = .int i) ∨ (∃ z, v = .str z) ∨ ∃ p xs, v = .ref p ∧ SqT K H p xs
section
variable {P : Program} {w : World} {K : PySem.W.Frag} {mg : Str → Option Value} {base : Heap}
def b0 (tbs : List Tb) : Bk := ⟨tbs, 0, [], 0⟩
def spLgI (K : PySem.W.Frag) (CT CL CS CG CX : Addr) : Sp := fun vs H Q E => ∃ (x dx : Addr) (v : V), vs = [.ref x, v] ∧ H x = some (.ins CG dx []) ∧
  ((∃ l tbs, v = .ref l ∧ LtAt K CT CL H l tbs ∧ ∀ pl ll H', H pl = none → H ll = none → Kp x H H' → LgAt K CT CL CS CG H' x pl ll [] (b0 tbs) [] → Q .non H') ∨ (NotLot K H v ∧ OverV CX "deed" H E (.str "lot")))
theorem c_Ledger (Z : Ev K mg) (T : Bl mg) (x_BadDeed : MakX P w K mg base 1 "BadDeed" Z.BadDeed (spX1S K Z.BadDeed "deed")) (c_State : Mak P w K mg base 1 "State" Z.State (spSt Z.State) []) : MakY P w K mg base 3 "Ledger" Z.Ledger (spLgI K Z.Table Z.Lot Z.State Z.Ledger Z.BadDeed) := by
  refine makOfY Z.k_Ledger Z.i_Ledger sc_Ledger_init (fun _ _ _ _ _ _ us hl => match us, hl with | [_, _], _ => rfl) (fun vs H Q E h => ?_) (fun f cdv A outer s H vs Q E hr h => ?_)
  · obtain ⟨x, dx, v, rfl, _⟩ := h
    rfl
  · obtain ⟨x, dx, v, rfl, hx, h⟩ := h
    refine ⟨_, (pss_cons (ps_if (pt_not (pt_val (pe_callB (crIsi K) (by rfl) T.b_isinstance (by decide +kernel) (pa_cons (pv 1) (pa_cons (pe_glob (v := .ref Z.Lot) (by rfl) Z.k_Lot (by rfl)) pa_nil)))))
        (pss_one (ps_rx x_BadDeed hr (by decide) (by rfl) rfl (takes_of rfl rfl rfl rfl) (pa_cons pe_str pa_nil)))
        pss_nil)
      (pss_cons (ps_fld (pv 0) (pe_lst pa_nil) (by rfl))
      (pss_cons (ps_fld (pv 0) (pe_mk c_State hr (by decide) (by rfl) (pa_cons (pv 1) (pa_cons pe_int (pa_cons (pe_tup pa_nil) (pa_cons pe_int pa_nil))))) (by rfl))
      (pss_cons (ps_fld (pv 0) (pe_lst pa_nil) (by rfl))
      (pss_cons (ps_fld (pv 0) pe_non (by rfl))
      (pss_cons (ps_fld (pv 0) pe_non (by rfl))
      (pss_cons (ps_fld (pv 0) pe_int (by rfl))
      (pss_one (ps_fld (pv 0) pe_int (by rfl)))))))))), ?_⟩
    rcases h with ⟨l, tbs, rfl, hL, k⟩ | ⟨hn, kE⟩
    · obtain ⟨dl, tt, sb, zs, hl, hts, pT⟩ := id hL
      refine ⟨_, rfl, _, _, _, _, true, rfl, .own Z.Lot, Z.c_Lot.ty hl, Z.s_Lot_Lot, true, rfl, iteF ?_⟩
      refine ⟨Nat.zero_le _, fun pl hpl => ?_⟩
      have sA : Same H (upd H pl (.lst [])) := same_new hpl
      have nx : pl ≠ x := fun z => by rw [z, hx] at hpl; cases hpl
      refine ⟨_, rfl, x, Z.Ledger, dx, _, rfl, sA _ _ hx, Z.c_Ledger.c, Z.n_Ledger_past, by decide, ?_⟩
      have xA := sA _ _ hx
      have plA : (upd H pl (.lst [])) pl = some (.lst []) := upd_same
      have kA : Kp x H (upd H pl (.lst [])) := Kp.of sA
      revert xA plA kA
      generalize upd H pl (.lst []) = HA
      intro xA plA kA
      have kB : Kp x H (upd HA x (.ins Z.Ledger dx [("past", .ref pl)])) := kA.trans kp_upd
      have xB : (upd HA x (.ins Z.Ledger dx [("past", .ref pl)])) x = some (.ins Z.Ledger dx [("past", .ref pl)]) := upd_same
      have plB : (upd HA x (.ins Z.Ledger dx [("past", .ref pl)])) pl = some (.lst []) := kp_upd _ _ plA nx
      refine ⟨_, rfl, Nat.zero_le _, fun e he => ?_⟩
      revert kB xB plB he
      show Kp x H (upd HA x (.ins Z.Ledger dx (putF "past" (.ref pl) []))) → (upd HA x (.ins Z.Ledger dx (putF "past" (.ref pl) []))) x = some (.ins Z.Ledger dx [("past", .ref pl)]) → (upd HA x (.ins Z.Ledger dx (putF "past" (.ref pl) []))) pl = some (.lst []) → (upd HA x (.ins Z.Ledger dx (putF "past" (.ref pl) []))) e = none → _
      generalize upd HA x (.ins Z.Ledger dx (putF "past" (.ref pl) [])) = HB
      intro kB xB plB he
      have sC : Same HB (upd HB e (.tup [])) := same_new he
      have eC : (upd HB e (.tup [])) e = some (.tup []) := upd_same
      revert sC eC
      generalize upd HB e (.tup []) = HC
      intro sC eC
      intro sx sd hsx hsd ne
      refine ⟨sx, sd, l, e, 0, 0, rfl, upd_same, rfl, ?_⟩
      rw [upd_upd]
      have imC : Imm H HC := (kp_imm kB hx trivial).trans (Same.imm sC)
      have qD : Same HC (upd (upd HC sd (.own sx)) sx (.ins Z.State sd (stF l 0 e 0))) ∧ StAt K Z.Table Z.Lot Z.State (upd (upd HC sd (.own sx)) sx (.ins Z.State sd (stF l 0 e 0))) sx (b0 tbs) := mk_state (CS := Z.State) (b := b0 tbs) hsx hsd ne (hL.imm imC) (.inl (.inl eC)) (.nil : Paired (RowR K HC) [] [])
      obtain ⟨sD, st⟩ := qD
      revert sD st
      generalize upd (upd HC sd (.own sx)) sx (.ins Z.State sd (stF l 0 e 0)) = HD
      intro sD st
      have xD := sD _ _ (sC _ _ xB)
      have plD := sD _ _ (sC _ _ plB)
      have kD : Kp x H HD := (kB.trans (Kp.of sC)).trans (Kp.of sD)
      refine ⟨_, rfl, x, Z.Ledger, dx, _, rfl, xD, Z.c_Ledger.c, Z.n_Ledger_state, by show 1 < 1000; decide, ?_⟩
      have kE1 : Kp x HD (upd HD x (.ins Z.Ledger dx [("past", .ref pl), ("state", .ref sx)])) := kp_upd
      have xE : (upd HD x (.ins Z.Ledger dx [("past", .ref pl), ("state", .ref sx)])) x = some (.ins Z.Ledger dx [("past", .ref pl), ("state", .ref sx)]) := upd_same
      refine ⟨Nat.zero_le _, fun ll hll => ?_⟩
      revert kE1 xE hll
      show Kp x HD (upd HD x (.ins Z.Ledger dx (putF "state" (.ref sx) [("past", .ref pl)]))) → (upd HD x (.ins Z.Ledger dx (putF "state" (.ref sx) [("past", .ref pl)]))) x = some (.ins Z.Ledger dx [("past", .ref pl), ("state", .ref sx)]) → (upd HD x (.ins Z.Ledger dx (putF "state" (.ref sx) [("past", .ref pl)]))) ll = none → _
      generalize upd HD x (.ins Z.Ledger dx (putF "state" (.ref sx) [("past", .ref pl)])) = HE
      intro kE1 xE hll
      have sF : Same HE (upd HE ll (.lst [])) := same_new hll
      have nl : ll ≠ x := fun z => by rw [z, xE] at hll; cases hll
      have plE : HE pl = some (.lst []) := kE1 _ _ plD nx
      have npl : pl ≠ ll := fun z => by rw [← z, plE] at hll; cases hll
      have hll0 : H ll = none := kp_none (kD.trans kE1) hll nl
      have llF : (upd HE ll (.lst [])) ll = some (.lst []) := upd_same
      refine ⟨_, rfl, x, Z.Ledger, dx, _, rfl, sF _ _ xE, Z.c_Ledger.c, Z.n_Ledger_later, by show 2 < 1000; decide, ?_⟩
      refine ⟨_, rfl, x, Z.Ledger, dx, _, rfl, upd_same, Z.c_Ledger.c, Z.n_Ledger_told, by show 3 < 1000; decide, ?_⟩
      rw [upd_upd]
      refine ⟨_, rfl, x, Z.Ledger, dx, _, rfl, upd_same, Z.c_Ledger.c, Z.n_Ledger_reply, by show 4 < 1000; decide, ?_⟩
      rw [upd_upd]
      refine ⟨_, rfl, x, Z.Ledger, dx, _, rfl, upd_same, Z.c_Ledger.c, Z.n_Ledger_verdicts_made, by show 5 < 1000; decide, ?_⟩
      rw [upd_upd]
      refine ⟨_, rfl, x, Z.Ledger, dx, _, rfl, upd_same, Z.c_Ledger.c, Z.n_Ledger_answers_made, by show 6 < 1000; decide, ?_⟩
      rw [upd_upd]
      have kZ : Kp x HD (upd (upd HE ll (.lst [])) x (.ins Z.Ledger dx (lgF pl sx ll))) := (kE1.trans (Kp.of sF)).trans kp_upd
      exact k pl ll _ hpl hll0 (kD.trans kZ) ⟨dx, sx, [], [], upd_same, kp_upd _ _ (sF _ _ plE) nx, .nil, st.imm (kp_imm kZ xD rfl), kp_upd _ _ llF nl, .nil, npl⟩
    · have no : ∃ t : Value, TyX K H v t ∧ PySem.W.kitOne K t (.ref Z.Lot) = some false := by
        rcases hn with rfl | ⟨i, rfl⟩ | ⟨z, rfl⟩ | ⟨p, xs, rfl, hp⟩
        · exact ⟨_, .base .non, Z.s_NoneType_Lot⟩
        · exact ⟨_, .base (.int i), Z.s_int_Lot⟩
        · exact ⟨_, .base (.str z), Z.s_str_Lot⟩
        · exact ⟨_, tyx_seqT hp, Z.s_tuple_Lot⟩
      obtain ⟨t, ht, hk⟩ := no
      refine ⟨_, rfl, _, _, t, _, false, rfl, .own Z.Lot, ht, hk, false, rfl, iteT ?_⟩
      exact ⟨by show 1 ≤ 1000; decide, mkO_1S (by decide) fun d H' sm hd e => kE d H' sm hd e⟩
def spGo (K : PySem.W.Frag) (CT CL CS CG : Addr) : Sp := fun vs H Q _ => ∃ (a s dx pl sa ll : Addr) (b b' : Bk), vs = [.ref a, .ref s] ∧ H a = some (.ins CG dx (lgF pl sa ll)) ∧ StAt K CT CL CS H sa b ∧ StAt K CT CL CS H s b' ∧ b'.tbs.length = b.tbs.length ∧ Q .non (upd H a (.ins CG dx (lgF pl s ll)))
theorem c_Ledger_go (Z : Ev K mg) (T : Bl mg) (c_Lot_eq : Met P w K mg base 3 Z.Lot "__eq__" (spLotEq K Z.Table Z.Lot) []) : Met P w K mg base 5 Z.Ledger "go" (spGo K Z.Table Z.Lot Z.State Z.Ledger) [] := by
  obtain ⟨f_Lot_eq, fd_eq, ps_eq, me_Lot_eq, F_Lot_eq, b_Lot_eq⟩ := met_parts c_Lot_eq
  refine metOf Z.c_Ledger.c Z.m_Ledger_go sc_Ledger_go (fun _ _ _ _ _ _ us hl => match us, hl with | [_, _], _ => rfl) (fun vs H Q E h => ?_) (fun f cdv A outer s H vs Q E hr h => ?_)
  · obtain ⟨a, s, dx, pl, sa, ll, b, b', rfl, _⟩ := h
    rfl
  · obtain ⟨a, st, dx, pl, sa, ll, b, b', rfl, ha, hS, hS', hl, k⟩ := h
    have hu := hr.units
    obtain ⟨d1, l1, rp1, ys1, h1, hL1, _, _⟩ := id hS
    obtain ⟨d2, l2, rp2, ys2, h2, hL2, _, _⟩ := id hS'
    obtain ⟨d3, _, _, _, h3, _, _⟩ := id hL1
    obtain ⟨d4, _, _, _, h4, _, _⟩ := id hL2
    refine ⟨_, (pss_cut (ps_if (pt_not (pt_cmpR (op_eqOwn F_Lot_eq me_Lot_eq b_Lot_eq (hr.mono (by decide)) (units0 hu)) (peFld K (pv 1)) (peFld K (peFld K (pv 0))) (nomark _)))
        (pss_one (ps_fld (pv 0) pe_non (by rfl)))
        pss_nil)
      (pss_cons (ps_fld (pv 0) pe_non (by rfl))
      (pss_one (ps_fld (pv 0) (pv 1) (by rfl))))), ?_⟩
    refine ⟨fun σ' H' => σ' = [some (.ref a), some (.ref st)] ∧ H' = H, ?_, ?_⟩
    · refine ⟨_, rfl, st, Z.State, d2, _, _, rfl, h2, Z.c_State.c, Z.n_State_lot, rfl, _, rfl, a, Z.Ledger, dx, _, _, rfl, ha, Z.c_Ledger.c, Z.n_Ledger_state, rfl, sa, Z.State, d1, _, _, rfl, h1, Z.c_State.c, Z.n_State_lot, rfl, ?_⟩
      refine ⟨l2, l1, d4, d3, _, _, rfl, rfl, h4, h3, l2, l1, _, _, rfl, hL2, hL1, hl, fun r _ => ⟨r, rfl, r, rfl, ite2 (fun _ => ?_) (fun _ => ⟨rfl, rfl⟩)⟩⟩
      refine ⟨_, rfl, a, Z.Ledger, dx, _, rfl, ha, Z.c_Ledger.c, Z.n_Ledger_told, by show 7 < 1000; decide, rfl, ?_⟩
      funext c
      by_cases z : c = a
      · rw [z, upd_same, ha]
        rfl
      · rw [upd_ne z]
    · rintro σ' H' ⟨rfl, rfl⟩
      refine ⟨_, rfl, a, Z.Ledger, dx, _, rfl, ha, Z.c_Ledger.c, Z.n_Ledger_reply, by show 7 < 1000; decide, ?_⟩
      refine ⟨_, rfl, _, rfl, a, Z.Ledger, dx, _, rfl, upd_same, Z.c_Ledger.c, Z.n_Ledger_state, by show 7 < 1000; decide, ?_⟩
      rw [upd_upd]
      exact k
end
end L2.KK
namespace L2.KK
open PySem PySem.Spec PyProof.Rows C8
theorem sc_Ledger_do : FnScope ["self", "deed", "state"] ["self", "deed"] (defScope s_Ledger_do) := ⟨rfl, rfl, rfl, by decide +kernel, rfl, by decide +kernel, by decide +kernel⟩
theorem sc_Ledger_undo : FnScope ["self"] ["self"] (defScope s_Ledger_undo) := ⟨rfl, rfl, rfl, by decide +kernel, rfl, by decide +kernel, by decide +kernel⟩
theorem sc_Ledger_puzzle : FnScope ["self"] ["self"] (defScope s_Ledger_puzzle) := ⟨rfl, rfl, rfl, by decide +kernel, rfl, by decide +kernel, by decide +kernel⟩
theorem sc_Ledger_numbers : FnScope ["self"] ["self"] (defScope s_Ledger_numbers) := ⟨rfl, rfl, rfl, by decide +kernel, rfl, by decide +kernel, by decide +kernel⟩
theorem done_ahead {b b' : Bk} {u : Ui} (h : doneG b (.add u) = .ok b') : b'.ahead = b.ahead + 1 := by
  rw [done_add] at h
  split at h <;> cases h
  rfl
theorem deed_first {K : PySem.W.Frag} {CT : Addr} {H : Hp} {y : V} {b b' : Bk} {g : Gd} (h : GdAt K CT H y g) (e : doneG b g = .ok b') : ∃ p z xs, y = .ref p ∧ SqT K H p (.str z :: xs) ∧ (z = "add" ∧ (∃ u, g = .add u) ∨ ¬ z = "add" ∧ ∀ b, toldV g b = .non) := by
  cases g with
  | bad w => cases e
  | name => obtain ⟨p, h1, h2⟩ := h; exact ⟨p, _, _, h1, h2, .inr ⟨by decide, fun _ => rfl⟩⟩
  | add u => obtain ⟨p, nr, h1, h2, _⟩ := h; exact ⟨p, _, _, h1, h2, .inl ⟨rfl, u, rfl⟩⟩
  | drop n => obtain ⟨p, h1, h2⟩ := h; exact ⟨p, _, _, h1, h2, .inr ⟨by decide, fun _ => rfl⟩⟩
  | times n t => obtain ⟨p, h1, h2⟩ := h; exact ⟨p, _, _, h1, h2, .inr ⟨by decide, fun _ => rfl⟩⟩
  | table i t => obtain ⟨p, ta, h1, h2, _⟩ := h; exact ⟨p, _, _, h1, h2, .inr ⟨by decide, fun _ => rfl⟩⟩
section
variable {P : Program} {w : World} {K : PySem.W.Frag} {mg : Str → Option Value} {base : Heap}
def spDo (K : PySem.W.Frag) (CT CL CS CG CX : Addr) : Sp := fun vs H Q E => ∃ (a pl ll : Addr) (y : V) (past : List Bk) (b : Bk) (later : List Bk) (g : Gd), vs = [.ref a, y] ∧ LgAt K CT CL CS CG H a pl ll past b later ∧ GdAt K CT H y g ∧ BkOk b ∧ GdOk g ∧ past.length ≤ 100000 ∧
  (∀ b', doneG b g = .ok b' → ∀ l2 H', H l2 = none → LgAt K CT CL CS CG H' a pl l2 (past ++ [b]) b' [] → Imm H H' → (∀ c o, H c = some o → c ≠ a → c ≠ pl → H' c = some o) → Q (toldV g b') H') ∧ ∀ w, doneG b g = .error w → OverV CX "deed" H E (.str w)
theorem c_Ledger_do (Z : Ev K mg) (T : Bl mg) (c_done : CalX P w K mg base 9 "done" (spDone K Z.Table Z.Lot Z.State Z.BadDeed)) (c_Ledger_go : Met P w K mg base 5 Z.Ledger "go" (spGo K Z.Table Z.Lot Z.State Z.Ledger) []) : MetX P w K mg base 10 Z.Ledger "do" (spDo K Z.Table Z.Lot Z.State Z.Ledger Z.BadDeed) := by
  refine metOfX Z.c_Ledger.c Z.m_Ledger_do sc_Ledger_do (fun _ _ _ _ _ _ us hl => match us, hl with | [_, _], _ => rfl) (fun vs H Q E h => ?_) (fun f cdv A outer s H vs Q E hr h => ?_)
  · obtain ⟨a, pl, ll, y, past, b, later, g, rfl, _⟩ := h
    rfl
  · obtain ⟨a, pl, ll, y, past, b, later, g, rfl, ⟨dx, sa, pys, lys, ha, hpl, pP, hS, hll, pL, npl⟩, hg, ok, gok, hp, k, kE⟩ := h
    have nd := sc_Ledger_do.nd
    obtain ⟨pyl, _⟩ := paired_at pP
    have npa : pl ≠ a := fun z => by rw [z, ha] at hpl; cases hpl
    refine ⟨_, (pss_cons (ps_set (i := 2) nd rfl (by first | exact Or.inl rfl | exact Or.inr rfl) (pe_cx c_done hr (by decide) (by rfl) (takes_of rfl rfl rfl rfl) (pa_cons (peFld K (pv 0)) (pa_cons (pv 1) pa_nil))))
      (pss_cons (ps_expr (pe_bm PySem.F.plainAttrs_list PySem.F.slot_list_append PySem.F.type_list_append mt_append (peFld K (pv 0)) (pa_cons (peFld K (pv 0)) pa_nil)))
      (pss_cons (ps_fld (pv 0) (pe_lst pa_nil) (by rfl))
      (pss_cons (ps_expr (pe_mt c_Ledger_go hr (by decide) (pv 0) (pa_cons (pv 2) pa_nil)))
      (pss_one (ps_ret (pe_ifExp (pt_cmpR op_eq (pe_ix (ixT K) (pv 1) pe_int (fun _ _ => rfl)) pe_str (nomark _)) (pe_op op_subNN (peFld K (pv 2)) pe_int) pe_non))))))), ?_⟩
    refine ⟨_, rfl, a, Z.Ledger, dx, _, _, rfl, ha, Z.c_Ledger.c, Z.n_Ledger_state, rfl, _, rfl, sa, y, b, g, rfl, hS, hg, ok, gok, fun b' eb x H1 sm1 hx => ?_, kE⟩
    have ha1 := sm1 _ _ ha
    have hpl1 := sm1 _ _ hpl
    have hll1 := sm1 _ _ hll
    have hg1 := hg.grow sm1
    -- self.past.append(self.state)
    refine ⟨_, rfl, a, Z.Ledger, dx, _, _, rfl, ha1, Z.c_Ledger.c, Z.n_Ledger_past, rfl, .inl ⟨rfl, _, SqL.of hpl1⟩, _, rfl, a, Z.Ledger, dx, _, _, rfl, ha1, Z.c_Ledger.c, Z.n_Ledger_state, rfl, pl, pys, .ref sa, rfl, rfl, hpl1, Nat.lt_of_le_of_lt (show pys.length ≤ 100000 by omega) (by decide), ?_⟩
    have im2 : Imm H1 (upd H1 pl (.lst (pys ++ [.ref sa]))) := imm_upd hpl1 trivial
    have ha2 : (upd H1 pl (.lst (pys ++ [.ref sa]))) a = some (.ins Z.Ledger dx (lgF pl sa ll)) := by rw [upd_ne npa.symm]; exact ha1
    have pl2 : (upd H1 pl (.lst (pys ++ [.ref sa]))) pl = some (.lst (pys ++ [.ref sa])) := upd_same
    have k2 : ∀ c o, H c = some o → c ≠ pl → (upd H1 pl (.lst (pys ++ [.ref sa]))) c = some o := fun c o e n => by rw [upd_ne n]; exact sm1 _ _ e
    have non2 : ∀ c, (upd H1 pl (.lst (pys ++ [.ref sa]))) c = none → H c = none := fun c e => by
      by_cases z : c = pl
      · rw [z, pl2] at e; cases e
      · rw [upd_ne z] at e; exact sm1.free e
    revert im2 ha2 pl2 k2 non2
    generalize upd H1 pl (.lst (pys ++ [.ref sa])) = H2
    intro im2 ha2 pl2 k2 non2
    -- self.later = []
    refine ⟨Nat.zero_le _, fun l2 hl2 => ?_⟩
    have s3 : Same H2 (upd H2 l2 (.lst [])) := same_new hl2
    have l3 : (upd H2 l2 (.lst [])) l2 = some (.lst []) := upd_same
    revert s3 l3
    generalize upd H2 l2 (.lst []) = H3
    intro s3 l3
    have hl20 := non2 _ hl2
    have nl2a : l2 ≠ a := fun z => by rw [z, ha2] at hl2; cases hl2
    have npl2 : pl ≠ l2 := fun z => by rw [← z, pl2] at hl2; cases hl2
    have ha3 := s3 _ _ ha2
    refine ⟨_, rfl, a, Z.Ledger, dx, _, rfl, ha3, Z.c_Ledger.c, Z.n_Ledger_later, by show 7 < 1000; decide, ?_⟩
    have k4 : Kp a H3 (upd H3 a (.ins Z.Ledger dx (putF "later" (.ref l2) (lgF pl sa ll)))) := kp_upd
    have ha4 : (upd H3 a (.ins Z.Ledger dx (putF "later" (.ref l2) (lgF pl sa ll)))) a = some (.ins Z.Ledger dx (lgF pl sa l2)) := upd_same
    revert k4 ha4
    generalize upd H3 a (.ins Z.Ledger dx (putF "later" (.ref l2) (lgF pl sa ll))) = H4
    intro k4 ha4
    have im4 : Imm H1 H4 := (im2.trans (Same.imm s3)).trans (kp_imm k4 ha3 rfl)
    have imS : Imm H H4 := (Same.imm sm1).trans im4
    -- self.go(state)
    refine ⟨_, rfl, a, dx, _, rfl, ha4, rfl, _, rfl, a, x, dx, pl, sa, l2, b, b', rfl, ha4, hS.imm imS, hx.imm im4, done_len eb, ?_⟩
    have k5 : Kp a H4 (upd H4 a (.ins Z.Ledger dx (lgF pl x l2))) := kp_upd
    have ha5 : (upd H4 a (.ins Z.Ledger dx (lgF pl x l2))) a = some (.ins Z.Ledger dx (lgF pl x l2)) := upd_same
    revert k5 ha5
    generalize upd H4 a (.ins Z.Ledger dx (lgF pl x l2)) = H5
    intro k5 ha5
    have im5 : Imm H4 H5 := kp_imm k5 ha4 rfl
    have hx5 := hx.imm (im4.trans im5)
    have imE : Imm H H5 := imS.trans im5
    have k6 := k b' eb l2 H5 hl20 ⟨dx, x, pys ++ [.ref sa], [], ha5, k5 _ _ (k4 _ _ (s3 _ _ pl2) npa) npa, paired_snoc (Paired.mapP pP fun _ _ q => q.imm imE) ⟨sa, rfl, hS.imm imE⟩, hx5, k5 _ _ (k4 _ _ l3 nl2a) nl2a, .nil, npl2⟩ imE (fun c o e n1 n2 => k5 _ _ (k4 _ _ (s3 _ _ (k2 _ _ e n2)) n1) n1)
    obtain ⟨p, z, xs, rfl, hfirst, hz⟩ := deed_first hg1 eb
    have hf5 := imm_seqT (im4.trans im5) hfirst
    refine ⟨_, rfl, p, _, (0 : Int), .str z, rfl, rfl, hf5, atI_nat (j := 0) rfl, rfl, _, rfl, ?_⟩
    rcases hz with ⟨rfl, u, rfl⟩ | ⟨hz, ht⟩
    · refine ite2 (fun _ => ?_) (fun h => absurd (decide_eq_true rfl) h)
      obtain ⟨d5, l5, rp5, ys5, h5, _⟩ := id hx5
      have ea := done_ahead eb
      refine ⟨_, rfl, x, Z.State, d5, _, _, rfl, h5, Z.c_State.c, Z.n_State_ahead, rfl, b'.ahead, 1, rfl, rfl, by omega, k6⟩
    · refine ite2 (fun h => absurd h (str_ne hz)) (fun _ => ?_)
      rw [ht b'] at k6
      exact k6
def spUndo (K : PySem.W.Frag) (CT CL CS CG : Addr) : Sp := fun vs H Q _ => ∃ (a pl ll : Addr) (past : List Bk) (b : Bk) (later : List Bk), vs = [.ref a] ∧ LgAt K CT CL CS CG H a pl ll past b later ∧ later.length ≤ 100000 ∧ (∀ p ∈ past, p.tbs.length = b.tbs.length) ∧
  (past = [] → Q (.bl false) H) ∧ ∀ ps p, past = ps ++ [p] → ∀ H', LgAt K CT CL CS CG H' a pl ll ps p (later ++ [b]) → Imm H H' → (∀ c o, H c = some o → c ≠ a → c ≠ pl → c ≠ ll → H' c = some o) → Q (.bl true) H'
theorem pr_last {α β : Type} {F : α → β → Prop} {ys : List α} {vs : List β} {v : β} (h : Paired F ys (vs ++ [v])) : ∃ zs z, ys = zs ++ [z] ∧ Paired F zs vs ∧ F z v := by
  induction vs generalizing ys with
  | nil =>
    cases h with
    | cons a t => cases t; exact ⟨[], _, rfl, .nil, a⟩
  | cons u vs ih =>
    cases h with
    | cons a t =>
      obtain ⟨zs, z, e, h1, h2⟩ := ih t
      exact ⟨_ :: zs, z, by rw [e]; rfl, .cons a h1, h2⟩
theorem c_Ledger_undo (Z : Ev K mg) (T : Bl mg) (c_Ledger_go : Met P w K mg base 5 Z.Ledger "go" (spGo K Z.Table Z.Lot Z.State Z.Ledger) []) : Met P w K mg base 6 Z.Ledger "undo" (spUndo K Z.Table Z.Lot Z.State Z.Ledger) [] := by
  refine metOf Z.c_Ledger.c Z.m_Ledger_undo sc_Ledger_undo (fun _ _ _ _ _ _ us hl => match us, hl with | [_], _ => rfl) (fun vs H Q E h => ?_) (fun f cdv A outer s H vs Q E hr h => ?_)
  · obtain ⟨a, pl, ll, past, b, later, rfl, _⟩ := h
    rfl
  · obtain ⟨a, pl, ll, past, b, later, rfl, ⟨dx, sa, pys, lys, ha, hpl, pP, hS, hll, pL, npl⟩, hlen, same, k0, k⟩ := h
    obtain ⟨lyl, _⟩ := paired_at pL
    have npa : pl ≠ a := fun z => by rw [z, ha] at hpl; cases hpl
    have nla : ll ≠ a := fun z => by rw [z, ha] at hll; cases hll
    refine ⟨_, (pss_cons (ps_if (pt_not (ptTru K (peFld K (pv 0))))
        (pss_one (ps_ret pe_bl))
        pss_nil)
      (pss_cons (ps_expr (pe_bm PySem.F.plainAttrs_list PySem.F.slot_list_append PySem.F.type_list_append mt_append (peFld K (pv 0)) (pa_cons (peFld K (pv 0)) pa_nil)))
      (pss_cons (ps_expr (pe_mt c_Ledger_go hr (by decide) (pv 0) (pa_cons (pe_bm0 PySem.F.plainAttrs_list PySem.F.slot_list_pop PySem.F.type_list_pop mt_pop (peFld K (pv 0))) pa_nil)))
      (pss_one (ps_ret pe_bl))))), ?_⟩
    rcases List.eq_nil_or_concat past with rfl | ⟨ps, p, rfl⟩
    · cases pP
      exact ⟨_, rfl, a, Z.Ledger, dx, _, _, rfl, ha, Z.c_Ledger.c, Z.n_Ledger_past, rfl, false, .inl ⟨[], SqL.of hpl, rfl⟩, iteT (k0 rfl)⟩
    · rw [List.concat_eq_append] at pP same k
      obtain ⟨zs, zl, rfl, pz, sp, rfl, hp⟩ := pr_last pP
      refine ⟨_, rfl, a, Z.Ledger, dx, _, _, rfl, ha, Z.c_Ledger.c, Z.n_Ledger_past, rfl, true, .inl ⟨_, SqL.of hpl, by cases zs <;> rfl⟩, iteF ?_⟩
      refine ⟨_, rfl, a, Z.Ledger, dx, _, _, rfl, ha, Z.c_Ledger.c, Z.n_Ledger_later, rfl, .inl ⟨rfl, _, SqL.of hll⟩, _, rfl, a, Z.Ledger, dx, _, _, rfl, ha, Z.c_Ledger.c, Z.n_Ledger_state, rfl, ll, lys, .ref sa, rfl, rfl, hll, Nat.lt_of_le_of_lt (show lys.length ≤ 100000 by omega) (by decide), ?_⟩
      have k1 : Kp ll H (upd H ll (.lst (lys ++ [.ref sa]))) := kp_upd
      have l1 : (upd H ll (.lst (lys ++ [.ref sa]))) ll = some (.lst (lys ++ [.ref sa])) := upd_same
      revert k1 l1
      generalize upd H ll (.lst (lys ++ [.ref sa])) = H1
      intro k1 l1
      have ha1 := k1 _ _ ha nla.symm
      have hp1 := k1 _ _ hpl npl
      have im1 : Imm H H1 := kp_imm k1 hll trivial
      refine ⟨_, rfl, a, dx, _, rfl, ha1, rfl, _, rfl, a, Z.Ledger, dx, _, _, rfl, ha1, Z.c_Ledger.c, Z.n_Ledger_past, rfl, .inl ⟨rfl, _, SqL.of hp1⟩, pl, _, .ref sp, rfl, rfl, hp1, by rw [List.length_append]; show (zs ++ [V.ref sp])[zs.length + 1 - 1]? = _; rw [Nat.add_sub_cancel, List.getElem?_append_right (Nat.le_refl _), Nat.sub_self]; rfl, ?_⟩
      rw [List.dropLast_concat]
      have k2 : Kp pl H1 (upd H1 pl (.lst zs)) := kp_upd
      have p2 : (upd H1 pl (.lst zs)) pl = some (.lst zs) := upd_same
      revert k2 p2
      generalize upd H1 pl (.lst zs) = H2
      intro k2 p2
      have ha2 := k2 _ _ ha1 npa.symm
      have im2 : Imm H H2 := im1.trans (kp_imm k2 hp1 trivial)
      refine ⟨a, sp, dx, pl, sa, ll, b, p, rfl, ha2, hS.imm im2, hp.imm im2, same p (List.mem_append_right _ List.mem_cons_self), ?_⟩
      have k3 : Kp a H2 (upd H2 a (.ins Z.Ledger dx (lgF pl sp ll))) := kp_upd
      have ha3 : (upd H2 a (.ins Z.Ledger dx (lgF pl sp ll))) a = some (.ins Z.Ledger dx (lgF pl sp ll)) := upd_same
      revert k3 ha3
      generalize upd H2 a (.ins Z.Ledger dx (lgF pl sp ll)) = H3
      intro k3 ha3
      have im3 : Imm H H3 := im2.trans (kp_imm k3 ha2 rfl)
      exact k ps p rfl H3 ⟨dx, sp, zs, lys ++ [.ref sa], ha3, k3 _ _ p2 npa, Paired.mapP pz fun _ _ q => q.imm im3, hp.imm im3, k3 _ _ (k2 _ _ l1 npl.symm) nla, paired_snoc (Paired.mapP pL fun _ _ q => q.imm im3) ⟨sa, rfl, hS.imm im3⟩, npl⟩ im3 fun c o e n1 n2 n3 => k3 _ _ (k2 _ _ (k1 _ _ e n3) n2) n1
def spLPuz (K : PySem.W.Frag) (CT CL CS CG CP : Addr) : Sp := fun vs H Q _ => ∃ (a pl ll : Addr) (past : List Bk) (b : Bk) (later : List Bk), vs = [.ref a] ∧ LgAt K CT CL CS CG H a pl ll past b later ∧ BkOk b ∧ ∀ x H', Same H H' → PzAt K CT CL CP H' x b.tbs b.many (b.rows.map (·.2)) → Q (.ref x) H'
theorem c_Ledger_puzzle (Z : Ev K mg) (T : Bl mg) (c_State_puzzle : Met P w K mg base 5 Z.State "puzzle" (spPuz K Z.Table Z.Lot Z.State Z.Puzzle) []) : Met P w K mg base 6 Z.Ledger "puzzle" (spLPuz K Z.Table Z.Lot Z.State Z.Ledger Z.Puzzle) [] := by
  refine metOf Z.c_Ledger.c Z.m_Ledger_puzzle sc_Ledger_puzzle (fun _ _ _ _ _ _ us hl => match us, hl with | [_], _ => rfl) (fun vs H Q E h => ?_) (fun f cdv A outer s H vs Q E hr h => ?_)
  · obtain ⟨a, pl, ll, past, b, later, rfl, _⟩ := h
    rfl
  · obtain ⟨a, pl, ll, past, b, later, rfl, ⟨dx, sa, pys, lys, ha, hpl, pP, hS, hll, pL, npl⟩, ok, k⟩ := h
    obtain ⟨d1, l1, rp1, ys1, h1, _⟩ := id hS
    refine ⟨_, (pss_one (ps_ret (pe_mt0 c_State_puzzle hr (by decide) (peFld K (pv 0)) ))), ?_⟩
    exact ⟨_, rfl, a, Z.Ledger, dx, _, _, rfl, ha, Z.c_Ledger.c, Z.n_Ledger_state, rfl, sa, d1, _, rfl, h1, rfl, sa, b, rfl, hS, ok, k⟩
def spLNums (K : PySem.W.Frag) (CT CL CS CG : Addr) : Sp := fun vs H Q _ => ∃ (a pl ll : Addr) (past : List Bk) (b : Bk) (later : List Bk), vs = [.ref a] ∧ LgAt K CT CL CS CG H a pl ll past b later ∧ b.rows.length ≤ 1000 ∧ NewT H Q (nL (b.rows.map (·.1)))
theorem c_Ledger_numbers (Z : Ev K mg) (T : Bl mg) (c_State_numbers : Met P w K mg base 1 Z.State "numbers" (spNums K Z.Table Z.Lot Z.State) []) : Met P w K mg base 2 Z.Ledger "numbers" (spLNums K Z.Table Z.Lot Z.State Z.Ledger) [] := by
  refine metOf Z.c_Ledger.c Z.m_Ledger_numbers sc_Ledger_numbers (fun _ _ _ _ _ _ us hl => match us, hl with | [_], _ => rfl) (fun vs H Q E h => ?_) (fun f cdv A outer s H vs Q E hr h => ?_)
  · obtain ⟨a, pl, ll, past, b, later, rfl, _⟩ := h
    rfl
  · obtain ⟨a, pl, ll, past, b, later, rfl, ⟨dx, sa, pys, lys, ha, hpl, pP, hS, hll, pL, npl⟩, hl, k⟩ := h
    obtain ⟨d1, l1, rp1, ys1, h1, _⟩ := id hS
    refine ⟨_, (pss_one (ps_ret (pe_mt0 c_State_numbers hr (by decide) (peFld K (pv 0)) ))), ?_⟩
    exact ⟨_, rfl, a, Z.Ledger, dx, _, _, rfl, ha, Z.c_Ledger.c, Z.n_Ledger_state, rfl, sa, d1, _, rfl, h1, rfl, sa, b, rfl, hS, hl, k⟩
end
end L2.KK
namespace L2.KK
open PySem PySem.Spec PyProof.Rows C8
theorem sc_law_sum : FnScope ["prices", "whole", "price"] ["prices"] (defScope s_law_sum) := ⟨rfl, rfl, rfl, by decide +kernel, rfl, by decide +kernel, by decide +kernel⟩
theorem sc_law_above : FnScope ["first", "second"] ["first", "second"] (defScope s_law_above) := ⟨rfl, rfl, rfl, by decide +kernel, rfl, by decide +kernel, by decide +kernel⟩
theorem sc_law_most : FnScope ["first", "second", "third"] ["first", "second", "third"] (defScope s_law_most) := ⟨rfl, rfl, rfl, by decide +kernel, rfl, by decide +kernel, by decide +kernel⟩
theorem sc_law_kinds : FnScope [] [] (defScope s_law_kinds) := ⟨rfl, rfl, rfl, by decide +kernel, rfl, by decide +kernel, by decide +kernel⟩
theorem sc_law_breach_one : FnScope ["kind", "prices", "rows", "last", "t"] ["kind", "prices", "rows"] (defScope s_law_breach_one) := ⟨rfl, rfl, rfl, by decide +kernel, rfl, by decide +kernel, by decide +kernel⟩
theorem sc_law_breach_two : FnScope ["kind", "prices", "rows", "s", "t", "low", "high"] ["kind", "prices", "rows"] (defScope s_law_breach_two) := ⟨rfl, rfl, rfl, by decide +kernel, rfl, by decide +kernel, by decide +kernel⟩
theorem pr_at {ps : List (Option Nat)} {i : Nat} (h : i < ps.length) : atI (ps.map pV) (i : Int) = some (pV (ps.getD i none)) := by
  refine atI_nat ?_
  rw [List.getElem?_map, List.getD_eq_getElem?_getD, List.getElem?_eq_getElem h]
  rfl
/-- rows of prices that are open -/
def OpenR (ps : List (Option Nat)) (rs : List Nat) : Prop := ∀ t ∈ rs, t < ps.length ∧ (ps.getD t none).isSome = true
theorem OpenR.at {ps : List (Option Nat)} {rs : List Nat} (h : OpenR ps rs) {i : Nat} {t : Nat} (e : rs[i]? = some t) : t < ps.length ∧ ∃ x, ps.getD t none = some x := by
  obtain ⟨h1, h2⟩ := h t (List.mem_of_getElem? e)
  exact ⟨h1, Option.isSome_iff_exists.mp h2⟩
theorem pr_le {ps : List (Option Nat)} (h : ∀ p ∈ ps, ∀ m, p = some m → m ≤ 1000) (i m : Nat) (e : ps.getD i none = some m) : m < 18446744073709551616 := by
  by_cases hi : i < ps.length
  · rw [List.getD_eq_getElem?_getD, List.getElem?_eq_getElem hi] at e
    have := h _ (List.getElem_mem hi) m e
    omega
  · rw [List.getD_eq_getElem?_getD, List.getElem?_eq_none (by omega)] at e
    cases e
section
variable {P : Program} {w : World} {K : PySem.W.Frag} {mg : Str → Option Value} {base : Heap}
def spLSum (K : PySem.W.Frag) : Sp := fun vs H Q _ => ∃ (a : Addr) (ps : List (Option Nat)), vs = [.ref a] ∧ SqL K H a (ps.map pV) ∧ ∀ o : Option Nat, Q (pV o) H
theorem c_law_sum (D : FnAt K mg "_law_sum" s_law_sum) (T : Bl mg) : Cal P w K mg base 1 "_law_sum" (spLSum K) [] := by
  refine calOf D sc_law_sum (fun _ _ _ _ _ _ us hl => match us, hl with | [_], _ => rfl) (fun vs H Q E h => ?_) (fun f cdv A outer s H vs Q E hr h => ?_)
  · obtain ⟨a, ps, rfl, _⟩ := h
    rfl
  · obtain ⟨a, ps, rfl, hS, k⟩ := h
    have nd := sc_law_sum.nd
    refine ⟨_, (pss_cons (ps_set (i := 1) nd rfl (by first | exact Or.inl rfl | exact Or.inr rfl) pe_int)
      (pss_cons (ps_for PassesOwn.never rfl (piList K (pv 0)) (pg_name (i := 2) nd rfl (by first | exact Or.inl rfl | exact Or.inr rfl))
        (pss_cons (ps_if (pt_cmpR op_isN (pv 2) pe_non (nomark _))
          (pss_one (ps_ret pe_non))
          pss_nil)
        (pss_one (ps_aug (i := 1) nd rfl (by first | exact Or.inl rfl | exact Or.inr rfl) (pv 2) ip_add))))
      (pss_one (ps_ret (pv 1))))), ?_⟩
    refine ⟨_, rfl, a, rfl, ⟨_, hS⟩, ?_⟩
    refine for_list (xs := ps.map pV) (fun i σ' H' => ∃ (n : Nat) (c2 : Option V), σ' = [some (.ref a), some (nV n), c2] ∧ H' = H) ⟨0, none, rfl, rfl⟩ (fun i σ' H' _ ⟨_, _, _, e⟩ => by rw [e]; exact hS) (fun i x σ' H' hx hp => ?_) (fun σ' H' hp => ?_)
    · obtain ⟨n, c2, rfl, rfl⟩ := hp
      obtain ⟨p, hp, rfl⟩ := map_get hx
      refine ⟨_, rfl, rfl, _, rfl, ?_⟩
      cases p with
      | none => exact ite2 (fun _ => k none) (fun h => absurd isn_none h)
      | some x => exact ite2 (fun h => absurd h isn_some) (fun _ => ⟨_, rfl, _, rfl, _, _, rfl, rfl, n + x, _, rfl, rfl⟩)
    · obtain ⟨n, c2, rfl, rfl⟩ := hp
      exact ⟨_, rfl, k (some n)⟩
def spAbove : Sp := fun vs H Q _ => ∃ a b : Option Nat, vs = [pV a, pV b] ∧ ∀ r : Bool, Q (.bl r) H
theorem c_law_above (D : FnAt K mg "_law_above" s_law_above) (T : Bl mg) : Cal P w K mg base 1 "_law_above" spAbove [] := by
  refine calOf D sc_law_above (fun _ _ _ _ _ _ us hl => match us, hl with | [_, _], _ => rfl) (fun vs H Q E h => ?_) (fun f cdv A outer s H vs Q E hr h => ?_)
  · obtain ⟨a, b, rfl, _⟩ := h
    rfl
  · obtain ⟨a, b, rfl, k⟩ := h
    refine ⟨_, (pss_cons (ps_if (pt_cmpR op_isN (pv 1) pe_non (nomark _))
        (pss_one (ps_ret pe_bl))
        pss_nil)
      (pss_one (ps_ret (pe_or (pe_cmpR op_isN (pv 0) pe_non (nomark _)) (pe_one (pe_cmpR op_gt (pv 0) (pv 1) (nomark _))))))), ?_⟩
    refine ⟨_, rfl, rfl, _, rfl, ?_⟩
    cases b with
    | none => exact ite2 (fun _ => k false) (fun h => absurd isn_none h)
    | some y =>
      refine ite2 (fun h => absurd h isn_some) (fun _ => ⟨_, rfl, rfl, _, rfl, ?_⟩)
      cases a with
      | none => exact ite2 (fun _ => k _) (fun h => absurd isn_none h)
      | some x => exact ite2 (fun h => absurd h isn_some) (fun _ => ⟨_, rfl, _, rfl, x, y, rfl, rfl, k _⟩)
def spMost : Sp := fun vs H Q _ => ∃ a b c : Nat, vs = [nV a, nV b, nV c] ∧ Q (nV (a &&& b ||| a &&& c ||| b &&& c)) H
theorem c_law_most (D : FnAt K mg "_law_most" s_law_most) (T : Bl mg) : Cal P w K mg base 1 "_law_most" spMost [] := by
  refine calOf D sc_law_most (fun _ _ _ _ _ _ us hl => match us, hl with | [_, _, _], _ => rfl) (fun vs H Q E h => ?_) (fun f cdv A outer s H vs Q E hr h => ?_)
  · obtain ⟨a, b, c, rfl, _⟩ := h
    rfl
  · obtain ⟨a, b, c, rfl, k⟩ := h
    refine ⟨_, (pss_one (ps_ret (pe_op op_orN (pe_op op_orN (pe_op op_andN (pv 0) (pv 1)) (pe_op op_andN (pv 0) (pv 2))) (pe_op op_andN (pv 1) (pv 2))))), ?_⟩
    exact ⟨_, rfl, _, rfl, a, b, rfl, rfl, _, rfl, _, rfl, a, c, rfl, rfl, _, _, rfl, rfl, _, rfl, _, rfl, b, c, rfl, rfl, _, _, rfl, rfl, k⟩
def kindsL : List Str := ["zero", "one", "least", "greatest", "cut", "twos", "sums", "ties"]
def spKinds : Sp := fun vs H Q _ => vs = [] ∧ ∀ p, H p = none → Q (.ref p) (upd H p (.lst (kindsL.map V.str)))
theorem c_law_kinds (D : FnAt K mg "_law_kinds" s_law_kinds) (T : Bl mg) : Cal P w K mg base 1 "_law_kinds" spKinds [] := by
  refine calOf D sc_law_kinds (fun _ _ _ _ _ _ us hl => match us, hl with | [], _ => rfl) (fun vs H Q E h => ?_) (fun f cdv A outer s H vs Q E hr h => ?_)
  · obtain ⟨rfl, _⟩ := h
    rfl
  · obtain ⟨rfl, k⟩ := h
    refine ⟨_, (pss_one (ps_ret (pe_lst (pa_cons pe_str (pa_cons pe_str (pa_cons pe_str (pa_cons pe_str (pa_cons pe_str (pa_cons pe_str (pa_cons pe_str (pa_cons pe_str pa_nil))))))))))), ?_⟩
    exact ⟨by show 8 ≤ sizeLine; decide, k⟩
def spBreach (K : PySem.W.Frag) : Sp := fun vs H Q _ => ∃ (z : Str) (a r : Addr) (k : Nat) (ps : List (Option Nat)) (rs : List Nat), vs = [.str z, .ref a, .ref r] ∧ SqT K H a (ps.map pV) ∧ SqL K H r (nL rs) ∧ ps.length = 2 ^ k ∧ OpenR ps rs ∧ rs.length ≤ 100000 ∧ (∀ p ∈ ps, ∀ m, p = some m → m ≤ 1000) ∧ ∀ (b : Bool) H', Same H H' → Q (.bl b) H'
theorem c_law_breach_one (D : FnAt K mg "_law_breach_one" s_law_breach_one) (T : Bl mg) (c_law_above : Cal P w K mg base 1 "_law_above" spAbove []) : Cal P w K mg base 2 "_law_breach_one" (spBreach K) [] := by
  refine calOf D sc_law_breach_one (fun _ _ _ _ _ _ us hl => match us, hl with | [_, _, _], _ => rfl) (fun vs H Q E h => ?_) (fun f cdv A outer s H vs Q E hr h => ?_)
  · obtain ⟨z, a, r, k0, ps, rs, rfl, _⟩ := h
    rfl
  · obtain ⟨z, a, r, k0, ps, rs, rfl, ha, hrs, hl, op, hlen, hb, k⟩ := h
    have nd := sc_law_breach_one.nd
    have p0 : 1 ≤ ps.length := by rw [hl]; exact Nat.two_pow_pos k0
    refine ⟨_, (pss_cons (ps_set (i := 3) nd rfl (by first | exact Or.inl rfl | exact Or.inr rfl) (pe_op op_subNN (pe_callB (crLen K) (by rfl) T.b_len (by decide +kernel) (pa_cons (pv 1) pa_nil)) pe_int))
      (pss_cons (ps_for PassesOwn.never rfl (piList K (pv 2)) (pg_name (i := 4) nd rfl (by first | exact Or.inl rfl | exact Or.inr rfl))
        (pss_one (ps_if (pt_val (pe_c c_law_above hr (by decide) (by rfl) (pa_cons (pe_ix (ixT K) (pv 1) (pe_ifExp (pt_cmpR op_eq (pv 0) pe_str (nomark _)) pe_int (pv 3)) (fun _ _ => rfl)) (pa_cons (pe_ix (ixT K) (pv 1) (pv 4) (fun _ _ => rfl)) pa_nil))))
          (pss_one (ps_ret pe_bl))
          pss_nil)))
      (pss_one (ps_ret pe_bl)))), ?_⟩
    refine ⟨_, rfl, a, _, rfl, .inr ha, ps.length, 1, by rw [List.length_map], rfl, p0, ?_⟩
    refine ⟨_, rfl, r, rfl, ⟨_, hrs⟩, ?_⟩
    refine for_list (xs := nL rs) (fun i σ' H' => ∃ c4 : Option V, σ' = [some (.str z), some (.ref a), some (.ref r), some (nV (ps.length - 1)), c4] ∧ H' = H) ⟨none, rfl, rfl⟩ (fun i σ' H' _ ⟨_, _, e⟩ => by rw [e]; exact hrs) (fun i x σ' H' hx hp => ?_) (fun σ' H' hp => ?_)
    · obtain ⟨c4, rfl, rfl⟩ := hp
      obtain ⟨t, ht, rfl⟩ := map_get hx
      obtain ⟨t1, _⟩ := op.at ht
      have fin : ∀ q : Nat, q < ps.length → ∃ (p : Addr) (xs : List V) (i : Int) (v : V), V.ref a = .ref p ∧ nV q = .int i ∧ SqT K H' p xs ∧ atI xs i = some v ∧ v = pV (ps.getD q none) := fun q hq => ⟨a, _, _, _, rfl, rfl, ha, pr_at hq, rfl⟩
      refine ⟨_, rfl, _, rfl, rfl, _, rfl, ite2 (fun _ => ?_) (fun _ => ?_)⟩
      · refine ⟨a, _, (0 : Int), _, rfl, rfl, ha, pr_at (i := 0) (by omega), _, rfl, _, rfl, a, _, (t : Int), _, rfl, rfl, ha, pr_at t1, _, _, rfl, fun b => ⟨b, rfl, ite2 (fun _ => k true _ (Same.refl _)) (fun _ => ⟨_, rfl, rfl⟩)⟩⟩
      · refine ⟨_, rfl, a, _, ((ps.length - 1 : Nat) : Int), _, rfl, rfl, ha, pr_at (by omega), _, rfl, _, rfl, a, _, (t : Int), _, rfl, rfl, ha, pr_at t1, _, _, rfl, fun b => ⟨b, rfl, ite2 (fun _ => k true _ (Same.refl _)) (fun _ => ⟨_, rfl, rfl⟩)⟩⟩
    · obtain ⟨c4, rfl, rfl⟩ := hp
      exact k false _ (Same.refl _)
theorem c_law_breach_two (D : FnAt K mg "_law_breach_two" s_law_breach_two) (T : Bl mg) (c_law_above : Cal P w K mg base 1 "_law_above" spAbove []) (c_law_times : Cal P w K mg base 1 "_law_times" spTimes []) (c_law_sum : Cal P w K mg base 1 "_law_sum" (spLSum K) []) : Cal P w K mg base 2 "_law_breach_two" (spBreach K) [] := by
  refine calOf D sc_law_breach_two (fun _ _ _ _ _ _ us hl => match us, hl with | [_, _, _], _ => rfl) (fun vs H Q E h => ?_) (fun f cdv A outer s H vs Q E hr h => ?_)
  · obtain ⟨z, a, r, k0, ps, rs, rfl, _⟩ := h
    rfl
  · obtain ⟨z, a, r, k0, ps, rs, rfl, ha, hrs, hl, op, hlen, hb, k⟩ := h
    have nd := sc_law_breach_two.nd
    refine ⟨_, (pss_cons (ps_for PassesOwn.never rfl (piList K (pv 2)) (pg_name (i := 3) nd rfl (by first | exact Or.inl rfl | exact Or.inr rfl))
        (pss_one (ps_for PassesOwn.never rfl (piList K (pv 2)) (pg_name (i := 4) nd rfl (by first | exact Or.inl rfl | exact Or.inr rfl))
          (pss_cons (ps_set (i := 5) nd rfl (by first | exact Or.inl rfl | exact Or.inr rfl) (pe_c c_law_times hr (by decide) (by rfl) (pa_cons (pe_ix (ixT K) (pv 1) (pe_op op_andN (pv 3) (pv 4)) (fun _ _ => rfl)) (pa_cons pe_int pa_nil))))
          (pss_cons (ps_set (i := 6) nd rfl (by first | exact Or.inl rfl | exact Or.inr rfl) (pe_c c_law_times hr (by decide) (by rfl) (pa_cons (pe_ix (ixT K) (pv 1) (pe_op op_orN (pv 3) (pv 4)) (fun _ _ => rfl)) (pa_cons pe_int pa_nil))))
          (pss_cut (ps_if (pt_cmpR op_eq (pv 0) pe_str (nomark _))
            (pss_one (ps_set (i := 5) nd rfl (by first | exact Or.inl rfl | exact Or.inr rfl) (pv 6)))
            pss_nil)
          (pss_cut (ps_if (pt_cmpR op_eq (pv 0) pe_str (nomark _))
            (pss_one (ps_set (i := 5) nd rfl (by first | exact Or.inl rfl | exact Or.inr rfl) (pe_c c_law_sum hr (by decide) (by rfl) (pa_cons (pe_lst (pa_cons (pe_ix (ixT K) (pv 1) (pe_op op_andN (pv 3) (pv 4)) (fun _ _ => rfl)) (pa_cons (pe_ix (ixT K) (pv 1) (pe_op op_orN (pv 3) (pv 4)) (fun _ _ => rfl)) pa_nil))) pa_nil))))
            pss_nil)
          (pss_one (ps_if (pt_val (pe_c c_law_above hr (by decide) (by rfl) (pa_cons (pv 5) (pa_cons (pe_op op_addNN (pe_ix (ixT K) (pv 1) (pv 3) (fun _ _ => rfl)) (pe_ix (ixT K) (pv 1) (pv 4) (fun _ _ => rfl))) pa_nil))))
            (pss_one (ps_ret pe_bl))
            pss_nil)))))))))
      (pss_one (ps_ret pe_bl))), ?_⟩
    refine ⟨_, rfl, r, rfl, ⟨_, hrs⟩, ?_⟩
    refine for_list (xs := nL rs) (fun i σ' H' => ∃ c3 c4 c5 c6 : Option V, σ' = [some (.str z), some (.ref a), some (.ref r), c3, c4, c5, c6] ∧ Same H H') ⟨none, none, none, none, rfl, Same.refl H⟩ (fun i σ' H' _ ⟨_, _, _, _, _, e⟩ => e.seq hrs) (fun i x σ' H' hx hp => ?_) (fun σ' H' hp => ?_)
    · obtain ⟨c3, c4, c5, c6, rfl, sm⟩ := hp
      obtain ⟨s1, hs1, rfl⟩ := map_get hx
      obtain ⟨s2, x1, ex1⟩ := op.at hs1
      refine ⟨_, rfl, r, rfl, ⟨_, sm.seq hrs⟩, ?_⟩
      refine for_list (xs := nL rs) (fun i σ' H' => ∃ c4 c5 c6 : Option V, σ' = [some (.str z), some (.ref a), some (.ref r), some (nV s1), c4, c5, c6] ∧ Same H H') ⟨c4, c5, c6, rfl, sm⟩ (fun i σ' H' _ ⟨_, _, _, _, e⟩ => e.seq hrs) (fun j y σ' H2 hy hp => ?_) (fun σ' H' hp => ?_)
      · obtain ⟨c4, c5, c6, rfl, sm2⟩ := hp
        obtain ⟨t1, ht1, rfl⟩ := map_get hy
        obtain ⟨t2, x2, ex2⟩ := op.at ht1
        have l1 : s1 &&& t1 < ps.length := Nat.lt_of_le_of_lt Nat.and_le_left s2
        have l2 : s1 ||| t1 < ps.length := by rw [hl] at s2 t2 ⊢; exact Nat.or_lt_two_pow s2 t2
        have ha2 := same_seqT sm2 ha
        refine ⟨_, rfl, _, rfl, _, rfl, s1, t1, rfl, rfl, a, _, _, _, rfl, rfl, ha2, pr_at l1, _, 2, rfl, pr_le hb _, ?_⟩
        refine ⟨_, rfl, _, rfl, _, rfl, s1, t1, rfl, rfl, a, _, _, _, rfl, rfl, ha2, pr_at l2, _, 2, rfl, pr_le hb _, ?_⟩
        refine ⟨fun σ' H' => ∃ (lo : Option Nat) (c6 : Option V), σ' = [some (.str z), some (.ref a), some (.ref r), some (nV s1), some (nV t1), some (pV lo), c6] ∧ Same H H', ?_, ?_⟩
        · exact ⟨_, rfl, rfl, _, rfl, ite2 (fun _ => ⟨_, rfl, _, _, rfl, sm2⟩) (fun _ => ⟨_, _, rfl, sm2⟩)⟩
        rintro σ' H3 ⟨lo, c6, rfl, sm3⟩
        have ha3 := same_seqT sm3 ha
        refine ⟨fun σ' H' => ∃ (lo : Option Nat) (c6 : Option V), σ' = [some (.str z), some (.ref a), some (.ref r), some (nV s1), some (nV t1), some (pV lo), c6] ∧ Same H H', ?_, ?_⟩
        · refine ⟨_, rfl, rfl, _, rfl, ite2 (fun _ => ?_) (fun _ => ⟨_, _, rfl, sm3⟩)⟩
          refine ⟨_, rfl, _, rfl, _, rfl, s1, t1, rfl, rfl, a, _, _, _, rfl, rfl, ha3, pr_at l1, _, rfl, _, rfl, _, rfl, s1, t1, rfl, rfl, a, _, _, _, rfl, rfl, ha3, pr_at l2, by show 2 ≤ sizeLine; decide, fun q hq => ?_⟩
          exact ⟨q, [ps.getD (s1 &&& t1) none, ps.getD (s1 ||| t1) none], rfl, SqL.of upd_same, fun o => ⟨o, _, rfl, sm3.trans (same_new hq)⟩⟩
        rintro σ' H4 ⟨lo, c6, rfl, sm4⟩
        have ha4 := same_seqT sm4 ha
        refine ⟨_, rfl, _, rfl, _, rfl, a, _, _, _, rfl, rfl, ha4, pr_at s2, _, rfl, _, rfl, a, _, _, _, rfl, rfl, ha4, pr_at t2, x1, x2, by rw [ex1]; rfl, by rw [ex2]; rfl, lo, some (x1 + x2), rfl, fun b => ⟨b, rfl, ite2 (fun _ => k true _ sm4) (fun _ => ⟨_, _, _, rfl, sm4⟩)⟩⟩
      · obtain ⟨c4, c5, c6, rfl, sm2⟩ := hp
        exact ⟨_, _, _, _, rfl, sm2⟩
    · obtain ⟨c3, c4, c5, c6, rfl, sm⟩ := hp
      exact k false _ sm
end
end L2.KK
namespace L2.KK
open PySem PySem.Spec PyProof.Rows C8
theorem sc_law_breach_three : FnScope ["kind", "prices", "rows", "i", "j", "k", "most", "odd", "made"] ["kind", "prices", "rows"] (defScope s_law_breach_three) := ⟨rfl, rfl, rfl, by decide +kernel, rfl, by decide +kernel, by decide +kernel⟩
theorem sc_law_keeps : FnScope ["kind", "prices", "rows", "number"] ["kind", "prices"] (defScope s_law_keeps) := ⟨rfl, rfl, rfl, by decide +kernel, rfl, by decide +kernel, by decide +kernel⟩
theorem sc_law_kept : FnScope ["kind", "tables", "table"] ["kind", "tables"] (defScope s_law_kept) := ⟨rfl, rfl, rfl, by decide +kernel, rfl, by decide +kernel, by decide +kernel⟩
theorem sc_law_first_kind : FnScope ["tables", "kind"] ["tables"] (defScope s_law_first_kind) := ⟨rfl, rfl, rfl, by decide +kernel, rfl, by decide +kernel, by decide +kernel⟩
theorem nL_atI {xs : List Nat} {i : Nat} (h : i < xs.length) : atI (nL xs) (i : Int) = some (nV (xs.getD i 0)) := by
  refine atI_nat ?_
  rw [nL_get h, List.getD_eq_getElem?_getD, List.getElem?_eq_getElem h]
  rfl
theorem OpenR.get {ps : List (Option Nat)} {rs : List Nat} (h : OpenR ps rs) {i : Nat} (hi : i < rs.length) : rs.getD i 0 < ps.length ∧ ∃ x, ps.getD (rs.getD i 0) none = some x := by
  refine h.at (i := i) ?_
  rw [List.getD_eq_getElem?_getD, List.getElem?_eq_getElem hi]
  rfl
/-- the law's table -/
def LTR (K : PySem.W.Frag) (H : Hp) (y : V) (t : Tb) : Prop := ∃ p q, y = .ref p ∧ SqT K H p [nV t.1, .ref q] ∧ SqT K H q (t.2.map pV)
theorem LTR.imm {K : PySem.W.Frag} {H H' : Hp} {y : V} {t : Tb} (h : LTR K H y t) (e : Imm H H') : LTR K H' y t := by
  obtain ⟨p, q, h1, h2, h3⟩ := h
  exact ⟨p, q, h1, imm_seqT e h2, imm_seqT e h3⟩
def LTs (K : PySem.W.Frag) (H : Hp) (tl : Addr) (tbs : List Tb) : Prop := ∃ ys, H tl = some (.lst ys) ∧ Paired (LTR K H) ys tbs
theorem LTs.imm {K : PySem.W.Frag} {H H' : Hp} {tl : Addr} {tbs : List Tb} (h : LTs K H tl tbs) (e : Imm H H') (k : ∀ o, H tl = some o → H' tl = some o) : LTs K H' tl tbs := by
  obtain ⟨ys, h1, h2⟩ := h
  exact ⟨ys, k _ h1, Paired.mapP h2 fun _ _ q => q.imm e⟩
theorem LTs.grow {K : PySem.W.Frag} {H H' : Hp} {tl : Addr} {tbs : List Tb} (h : LTs K H tl tbs) (e : Same H H') : LTs K H' tl tbs := h.imm (Same.imm e) fun _ q => e _ _ q
theorem LTs.kpd {K : PySem.W.Frag} {H H' : Hp} {d c tl : Addr} {tbs : List Tb} (h : LTs K H tl tbs) (n : tl ≠ d) (D : Dr H d c) (e : Kp d H H') : LTs K H' tl tbs := h.imm (Kp.imm e D) fun _ q => e _ _ q n
section
variable {P : Program} {w : World} {K : PySem.W.Frag} {mg : Str → Option Value} {base : Heap}
theorem c_law_breach_three (D : FnAt K mg "_law_breach_three" s_law_breach_three) (T : Bl mg) (c_law_above : Cal P w K mg base 1 "_law_above" spAbove []) (c_law_times : Cal P w K mg base 1 "_law_times" spTimes []) (c_law_sum : Cal P w K mg base 1 "_law_sum" (spLSum K) []) (c_law_most : Cal P w K mg base 1 "_law_most" spMost []) : Cal P w K mg base 2 "_law_breach_three" (spBreach K) [] := by
  refine calOf D sc_law_breach_three (fun _ _ _ _ _ _ us hl => match us, hl with | [_, _, _], _ => rfl) (fun vs H Q E h => ?_) (fun f cdv A outer s H vs Q E hr h => ?_)
  · obtain ⟨z, a, r, k0, ps, rs, rfl, _⟩ := h
    rfl
  · obtain ⟨z, a, r, k0, ps, rs, rfl, ha, hrs, hl, op, hlen, hb, k⟩ := h
    have nd := sc_law_breach_three.nd
    have nl : (nL rs).length = rs.length := List.length_map _
    refine ⟨_, (pss_cons (ps_for PassesOwn.never rfl (pi_range1 (by rfl) T.b_range (pa_cons (pe_callB (crLen K) (by rfl) T.b_len (by decide +kernel) (pa_cons (pv 2) pa_nil)) pa_nil)) (pg_name (i := 3) nd rfl (by first | exact Or.inl rfl | exact Or.inr rfl))
        (pss_one (ps_for PassesOwn.never rfl (pi_range2 (by rfl) T.b_range (pa_cons (pv 3) (pa_cons (pe_callB (crLen K) (by rfl) T.b_len (by decide +kernel) (pa_cons (pv 2) pa_nil)) pa_nil))) (pg_name (i := 4) nd rfl (by first | exact Or.inl rfl | exact Or.inr rfl))
          (pss_one (ps_for PassesOwn.never rfl (pi_range2 (by rfl) T.b_range (pa_cons (pv 4) (pa_cons (pe_callB (crLen K) (by rfl) T.b_len (by decide +kernel) (pa_cons (pv 2) pa_nil)) pa_nil))) (pg_name (i := 5) nd rfl (by first | exact Or.inl rfl | exact Or.inr rfl))
            (pss_cons (ps_set (i := 6) nd rfl (by first | exact Or.inl rfl | exact Or.inr rfl) (pe_ix (ixT K) (pv 1) (pe_c c_law_most hr (by decide) (by rfl) (pa_cons (pe_ix (ixL K) (pv 2) (pv 3) (fun _ _ => rfl)) (pa_cons (pe_ix (ixL K) (pv 2) (pv 4) (fun _ _ => rfl)) (pa_cons (pe_ix (ixL K) (pv 2) (pv 5) (fun _ _ => rfl)) pa_nil)))) (fun _ _ => rfl)))
            (pss_cons (ps_set (i := 7) nd rfl (by first | exact Or.inl rfl | exact Or.inr rfl) (pe_ix (ixT K) (pv 1) (pe_op op_xorN (pe_op op_xorN (pe_ix (ixL K) (pv 2) (pv 3) (fun _ _ => rfl)) (pe_ix (ixL K) (pv 2) (pv 4) (fun _ _ => rfl))) (pe_ix (ixL K) (pv 2) (pv 5) (fun _ _ => rfl))) (fun _ _ => rfl)))
            (pss_cons (ps_set (i := 8) nd rfl (by first | exact Or.inl rfl | exact Or.inr rfl) (pe_c c_law_sum hr (by decide) (by rfl) (pa_cons (pe_lst (pa_cons (pv 6) (pa_cons (pv 6) (pa_cons (pv 7) pa_nil)))) pa_nil)))
            (pss_cut (ps_if (pt_cmpR op_eq (pv 0) pe_str (nomark _))
              (pss_one (ps_set (i := 8) nd rfl (by first | exact Or.inl rfl | exact Or.inr rfl) (pe_c c_law_times hr (by decide) (by rfl) (pa_cons (pv 6) (pa_cons pe_int pa_nil)))))
              pss_nil)
            (pss_cut (ps_if (pt_cmpR op_eq (pv 0) pe_str (nomark _))
              (pss_one (ps_set (i := 8) nd rfl (by first | exact Or.inl rfl | exact Or.inr rfl) (pe_c c_law_times hr (by decide) (by rfl) (pa_cons (pv 7) (pa_cons pe_int pa_nil)))))
              pss_nil)
            (pss_one (ps_if (pt_val (pe_c c_law_above hr (by decide) (by rfl) (pa_cons (pv 8) (pa_cons (pe_op op_addNN (pe_op op_addNN (pe_ix (ixT K) (pv 1) (pe_ix (ixL K) (pv 2) (pv 3) (fun _ _ => rfl)) (fun _ _ => rfl)) (pe_ix (ixT K) (pv 1) (pe_ix (ixL K) (pv 2) (pv 4) (fun _ _ => rfl)) (fun _ _ => rfl))) (pe_ix (ixT K) (pv 1) (pe_ix (ixL K) (pv 2) (pv 5) (fun _ _ => rfl)) (fun _ _ => rfl))) pa_nil))))
              (pss_one (ps_ret pe_bl))
              pss_nil))))))))))))
      (pss_one (ps_ret pe_bl))), ?_⟩
    refine ⟨_, rfl, r, _, rfl, .inl hrs, _, rfl, by omega, by omega, ?_⟩
    rw [Int.toNat_natCast, nl]
    refine for_range (lo := 0) (n := rs.length) (fun i σ' H' => ∃ c3 c4 c5 c6 c7 c8 : Option V, σ' = [some (.str z), some (.ref a), some (.ref r), c3, c4, c5, c6, c7, c8] ∧ Same H H') ⟨none, none, none, none, none, none, rfl, Same.refl H⟩ ?_ ?_
    rotate_left
    · rintro σ' H' ⟨c3, c4, c5, c6, c7, c8, rfl, sm⟩
      exact k false _ sm
    rintro i σ' H1 hi ⟨c3, c4, c5, c6, c7, c8, rfl, sm1⟩
    rw [Int.zero_add]
    refine ⟨_, rfl, _, rfl, r, _, rfl, .inl (sm1.seq hrs), (i : Int), _, rfl, ⟨by omega, by omega, by omega, by omega⟩, ?_⟩
    have e1 : (((nL rs).length : Int) - (i : Int)).toNat = rs.length - i := by omega
    rw [e1]
    refine for_range (lo := (i : Int)) (n := rs.length - i) (fun _ σ' H' => ∃ c4 c5 c6 c7 c8 : Option V, σ' = [some (.str z), some (.ref a), some (.ref r), some (nV i), c4, c5, c6, c7, c8] ∧ Same H H') ⟨c4, c5, c6, c7, c8, rfl, sm1⟩ ?_ ?_
    rotate_left
    · rintro σ' H' ⟨c4, c5, c6, c7, c8, rfl, sm⟩
      exact ⟨_, _, _, _, _, _, rfl, sm⟩
    rintro j0 σ' H2 hj0 ⟨c4, c5, c6, c7, c8, rfl, sm2⟩
    obtain ⟨j, ej, hj⟩ : ∃ j : Nat, (i : Int) + (j0 : Int) = (j : Int) ∧ j < rs.length := ⟨i + j0, by omega, by omega⟩
    rw [ej]
    refine ⟨_, rfl, _, rfl, r, _, rfl, .inl (sm2.seq hrs), (j : Int), _, rfl, ⟨by omega, by omega, by omega, by omega⟩, ?_⟩
    have e2 : (((nL rs).length : Int) - (j : Int)).toNat = rs.length - j := by omega
    rw [e2]
    refine for_range (lo := (j : Int)) (n := rs.length - j) (fun _ σ' H' => ∃ c5 c6 c7 c8 : Option V, σ' = [some (.str z), some (.ref a), some (.ref r), some (nV i), some (nV j), c5, c6, c7, c8] ∧ Same H H') ⟨c5, c6, c7, c8, rfl, sm2⟩ ?_ ?_
    rotate_left
    · rintro σ' H' ⟨c5, c6, c7, c8, rfl, sm⟩
      exact ⟨_, _, _, _, _, rfl, sm⟩
    rintro q0 σ' H3 hq0 ⟨c5, c6, c7, c8, rfl, sm3⟩
    obtain ⟨q, eq, hq⟩ : ∃ q : Nat, (j : Int) + (q0 : Int) = (q : Int) ∧ q < rs.length := ⟨j + q0, by omega, by omega⟩
    rw [eq]
    obtain ⟨i2, x1, ex1⟩ := op.get hi
    obtain ⟨j2, x2, ex2⟩ := op.get hj
    obtain ⟨q2, x3, ex3⟩ := op.get hq
    have ati := nL_atI hi
    have atj := nL_atI hj
    have atq := nL_atI hq
    revert ati atj atq i2 j2 q2 ex1 ex2 ex3
    generalize rs.getD i 0 = ri
    generalize rs.getD j 0 = rj
    generalize rs.getD q 0 = rq
    intro i2 ex1 j2 ex2 q2 ex3 ati atj atq
    have l1 : ri &&& rj ||| ri &&& rq ||| rj &&& rq < ps.length := by
      rw [hl] at i2 j2 q2 ⊢
      exact Nat.or_lt_two_pow (Nat.or_lt_two_pow (Nat.lt_of_le_of_lt Nat.and_le_left i2) (Nat.lt_of_le_of_lt Nat.and_le_left i2)) (Nat.lt_of_le_of_lt Nat.and_le_left j2)
    have l2 : ri ^^^ rj ^^^ rq < ps.length := by
      rw [hl] at i2 j2 q2 ⊢
      exact Nat.xor_lt_two_pow (Nat.xor_lt_two_pow i2 j2) q2
    have ha3 := same_seqT sm3 ha
    have hr3 := sm3.seq hrs
    refine ⟨_, rfl, _, rfl, _, rfl, r, _, (i : Int), nV ri, rfl, rfl, hr3, ati, _, rfl, _, rfl, r, _, (j : Int), nV rj, rfl, rfl, hr3, atj, _, rfl, _, rfl, r, _, (q : Int), nV rq, rfl, rfl, hr3, atq, ri, rj, rq, rfl, a, _, _, _, rfl, rfl, ha3, pr_at l1, ?_⟩
    refine ⟨_, rfl, _, rfl, _, rfl, r, _, (i : Int), nV ri, rfl, rfl, hr3, ati, _, rfl, _, rfl, r, _, (j : Int), nV rj, rfl, rfl, hr3, atj, ri, rj, rfl, rfl, _, rfl, _, rfl, r, _, (q : Int), nV rq, rfl, rfl, hr3, atq, _, rq, rfl, rfl, a, _, _, _, rfl, rfl, ha3, pr_at l2, ?_⟩
    generalize em : ps.getD (ri &&& rj ||| ri &&& rq ||| rj &&& rq) none = mo
    generalize eo : ps.getD (ri ^^^ rj ^^^ rq) none = od
    refine ⟨_, rfl, _, rfl, _, rfl, by show 3 ≤ sizeLine; decide, fun t ht => ?_⟩
    have sm4 := sm3.trans (same_new (o := .lst [pV mo, pV mo, pV od]) ht)
    refine ⟨t, [mo, mo, od], rfl, SqL.of upd_same, fun o1 => ?_⟩
    revert sm4
    generalize upd H3 t (.lst [pV mo, pV mo, pV od]) = H4
    intro sm4
    refine ⟨fun σ' H' => ∃ o : Option Nat, σ' = [some (.str z), some (.ref a), some (.ref r), some (nV i), some (nV j), some (nV q), some (pV mo), some (pV od), some (pV o)] ∧ H' = H4, ?_, ?_⟩
    · refine ⟨_, rfl, rfl, _, rfl, ite2 (fun _ => ?_) (fun _ => ⟨o1, rfl, rfl⟩)⟩
      exact ⟨_, rfl, mo, 3, rfl, fun m e => pr_le hb _ m (em.trans e), _, rfl, rfl⟩
    rintro σ' H' ⟨o2, rfl, rfl⟩
    refine ⟨fun σ' H2 => ∃ o : Option Nat, σ' = [some (.str z), some (.ref a), some (.ref r), some (nV i), some (nV j), some (nV q), some (pV mo), some (pV od), some (pV o)] ∧ H2 = H', ?_, ?_⟩
    · refine ⟨_, rfl, rfl, _, rfl, ite2 (fun _ => ?_) (fun _ => ⟨o2, rfl, rfl⟩)⟩
      exact ⟨_, rfl, od, 3, rfl, fun m e => pr_le hb _ m (eo.trans e), _, rfl, rfl⟩
    rintro σ' H'' ⟨o3, rfl, rfl⟩
    have ha4 := same_seqT sm4 ha
    have hr4 := sm4.seq hrs
    refine ⟨_, rfl, _, rfl, _, rfl, _, rfl, r, _, (i : Int), nV ri, rfl, rfl, hr4, ati, a, _, _, _, rfl, rfl, ha4, pr_at i2, _, rfl, _, rfl, _, rfl, r, _, (j : Int), nV rj, rfl, rfl, hr4, atj, a, _, _, _, rfl, rfl, ha4, pr_at j2, x1, x2, by rw [ex1]; rfl, by rw [ex2]; rfl,
      _, rfl, _, rfl, _, rfl, r, _, (q : Int), nV rq, rfl, rfl, hr4, atq, a, _, _, _, rfl, rfl, ha4, pr_at q2, x1 + x2, x3, rfl, by rw [ex3]; rfl, o3, some (x1 + x2 + x3), rfl, fun b => ⟨b, rfl, ite2 (fun _ => k true _ sm4) (fun _ => ⟨_, _, _, _, rfl, sm4⟩)⟩⟩
def spKeeps (K : PySem.W.Frag) : Sp := fun vs H Q _ => ∃ (z : Str) (a : Addr) (k : Nat) (ps : List (Option Nat)), vs = [.str z, .ref a] ∧ SqT K H a (ps.map pV) ∧ ps.length = 2 ^ k ∧ k ≤ 4 ∧ (∀ p ∈ ps, ∀ m, p = some m → m ≤ 1000) ∧ ∀ (b : Bool) H', Same H H' → Q (.bl b) H'
theorem c_law_keeps (D : FnAt K mg "_law_keeps" s_law_keeps) (T : Bl mg) (c_law_breach_one : Cal P w K mg base 2 "_law_breach_one" (spBreach K) []) (c_law_breach_two : Cal P w K mg base 2 "_law_breach_two" (spBreach K) []) (c_law_breach_three : Cal P w K mg base 2 "_law_breach_three" (spBreach K) []) : Cal P w K mg base 3 "_law_keeps" (spKeeps K) [] := by
  refine calOf D sc_law_keeps (fun _ _ _ _ _ _ us hl => match us, hl with | [_, _], _ => rfl) (fun vs H Q E h => ?_) (fun f cdv A outer s H vs Q E hr h => ?_)
  · obtain ⟨z, a, k0, ps, rfl, _⟩ := h
    rfl
  · obtain ⟨z, a, k0, ps, rfl, ha, hl, h4, hb, k⟩ := h
    have nd := sc_law_keeps.nd
    have p16 : 2 ^ k0 ≤ 2 ^ 4 := Nat.pow_le_pow_right (by decide) h4
    refine ⟨_, (pss_cons (ps_setLc (i := 2) (own := [("number", 3)]) (g := gName 3) rfl nd rfl rfl (sw_true rfl rfl rfl (by decide +kernel)) (pi_range1 (by rfl) T.b_range (pa_cons (pe_callB (crLen K) (by rfl) T.b_len (by decide +kernel) (pa_cons (pv 1) pa_nil)) pa_nil)) (blkOk_by (N := ["kind", "prices", "rows", "number"]) (sc := defScope s_law_keeps) (own := [("number", 3)]) (by decide +kernel)) (fun _ _ _ _ _ => (pg_name (i := 3) nd rfl (by first | exact Or.inl rfl | exact Or.inr rfl))) (fun _ _ _ _ _ => (pts_one (pt_cmpR op_notN (pe_ix (ixT K) (pv 1) (pv 3) (fun _ _ => rfl)) pe_non (nomark _)))) (fun _ _ _ _ _ => (pv 3)))
      (pss_cons (ps_if (pt_cmpR (inSeq K) (pv 0) (pe_tup (pa_cons pe_str (pa_cons pe_str pa_nil))) (by rfl))
        (pss_one (ps_ret (pe_not (pe_c c_law_breach_one hr (by decide) (by rfl) (pa_cons (pv 0) (pa_cons (pv 1) (pa_cons (pv 2) pa_nil)))))))
        pss_nil)
      (pss_cons (ps_if (pt_cmpR (inSeq K) (pv 0) (pe_tup (pa_cons pe_str (pa_cons pe_str (pa_cons pe_str pa_nil)))) (by rfl))
        (pss_one (ps_ret (pe_not (pe_c c_law_breach_two hr (by decide) (by rfl) (pa_cons (pv 0) (pa_cons (pv 1) (pa_cons (pv 2) pa_nil)))))))
        pss_nil)
      (pss_one (ps_ret (pe_not (pe_c c_law_breach_three hr (by decide) (by rfl) (pa_cons (pv 0) (pa_cons (pv 1) (pa_cons (pv 2) pa_nil)))))))))), ?_⟩
    refine ⟨_, rfl, a, _, rfl, .inr ha, ps.length, by rw [List.length_map], by omega, by omega, ?_⟩
    rw [Int.toNat_natCast]
    refine fun W hW => lc_rangeT (lo := 0) (sel := fun i => (ps.getD i none).isSome) (P := fun i y _ => y = nV i) ⟨fun _ _ _ _ _ h => h, fun i H2 hi sm R r => ?_, fun i H2 hi _ _ R r => ?_⟩ hW (lt_line (by omega)) (fun H2 ys sm hd _ pr => ?_)
    · rw [Int.zero_add]
      refine ⟨_, rfl, _, rfl, a, _, (i : Int), _, rfl, rfl, same_seqT sm ha, pr_at hi, rfl, _, rfl, ?_⟩
      have e : (!decide (pV (ps.getD i none) = V.non)) = (ps.getD i none).isSome := by cases ps.getD i none <;> rfl
      rw [e]
      exact r H2 (Same.refl H2)
    · exact ⟨_, rfl, r _ H2 (Same.refl H2) (by rw [Int.zero_add])⟩
    rw [paired_map_eq pr] at hd
    have op : OpenR ps ((List.range ps.length).filter fun i => (ps.getD i none).isSome) := fun t ht => by
      obtain ⟨h1, h2⟩ := List.mem_filter.mp ht
      exact ⟨List.mem_range.mp h1, h2⟩
    have ol : ((List.range ps.length).filter fun i => (ps.getD i none).isSome).length ≤ 100000 := by
      have := List.length_filter_le (fun i => (ps.getD i none).isSome) (List.range ps.length)
      rw [List.length_range] at this
      omega
    have go : ∀ H3, Same H H3 → H3 W = some (.lst (nL ((List.range ps.length).filter fun i => (ps.getD i none).isSome))) → ∃ (z' : Str) (a' r' : Addr) (k' : Nat) (ps' : List (Option Nat)) (rs' : List Nat), [V.str z, V.ref a, V.ref W] = [.str z', .ref a', .ref r'] ∧ SqT K H3 a' (ps'.map pV) ∧ SqL K H3 r' (nL rs') ∧ ps'.length = 2 ^ k' ∧ OpenR ps' rs' ∧ rs'.length ≤ 100000 ∧ (∀ p ∈ ps', ∀ m, p = some m → m ≤ 1000) ∧ ∀ (b : Bool) H', Same H3 H' → ∃ k, V.bl b = .bl k ∧ Q (.bl (!k)) H' := fun H3 s3 h3 =>
      ⟨z, a, W, k0, ps, _, rfl, same_seqT s3 ha, SqL.of h3, hl, op, ol, hb, fun b H' s' => ⟨b, rfl, k _ H' (s3.trans s')⟩⟩
    refine ⟨_, rfl, by show 2 ≤ sizeLine; decide, fun q hq => ?_⟩
    have s1 := same_new (o := .tup [.str "zero", .str "one"]) hq
    refine ⟨q, _, rfl, .inr (.inl (.inl upd_same)), rfl, rfl, _, rfl, ite2 (fun _ => ?_) (fun _ => ?_)⟩
    · exact ⟨_, rfl, _, rfl, _, rfl, go _ (sm.trans s1) (s1 _ _ hd)⟩
    refine ⟨_, rfl, by show 3 ≤ sizeLine; decide, fun q2 hq2 => ?_⟩
    have s2 := s1.trans (same_new (o := .tup [.str "least", .str "greatest", .str "cut"]) hq2)
    refine ⟨q2, _, rfl, .inr (.inl (.inl upd_same)), rfl, rfl, _, rfl, ite2 (fun _ => ?_) (fun _ => ?_)⟩
    · exact ⟨_, rfl, _, rfl, _, rfl, go _ (sm.trans s2) (s2 _ _ hd)⟩
    · exact ⟨_, rfl, _, rfl, _, rfl, go _ (sm.trans s2) (s2 _ _ hd)⟩
def spKept (K : PySem.W.Frag) : Sp := fun vs H Q _ => ∃ (z : Str) (tl : Addr) (tbs : List Tb), vs = [.str z, .ref tl] ∧ LTs K H tl tbs ∧ tbs.length ≤ 1000 ∧ (∀ t ∈ tbs, TbOk t) ∧ ∀ (b : Bool) H', Same H H' → Q (.bl b) H'
theorem c_law_kept (D : FnAt K mg "_law_kept" s_law_kept) (T : Bl mg) (c_law_keeps : Cal P w K mg base 3 "_law_keeps" (spKeeps K) []) : Cal P w K mg base 4 "_law_kept" (spKept K) [] := by
  refine calOf D sc_law_kept (fun _ _ _ _ _ _ us hl => match us, hl with | [_, _], _ => rfl) (fun vs H Q E h => ?_) (fun f cdv A outer s H vs Q E hr h => ?_)
  · obtain ⟨z, tl, tbs, rfl, _⟩ := h
    rfl
  · obtain ⟨z, tl, tbs, rfl, ⟨ys, hT, pr⟩, hl, ok, k⟩ := h
    have nd := sc_law_kept.nd
    obtain ⟨yl, ya⟩ := paired_at pr
    refine ⟨_, (pss_one (ps_ret (pe_callB (crAll K) (by rfl) T.b_all (by decide +kernel) (pa_cons (pe_lc (own := [("table", 2)]) (g := gName 2) (tt := tYes) rfl nd (piList K (pv 1)) (blkOk_by (N := ["kind", "tables", "table"]) (sc := defScope s_law_kept) (own := [("table", 2)]) (by decide +kernel)) (fun _ _ _ _ _ => (pg_name (i := 2) nd rfl (by first | exact Or.inl rfl | exact Or.inr rfl))) (fun _ _ _ _ _ => pts_nil) (fun _ _ _ _ _ => (pe_c c_law_keeps hr (by decide) (by rfl) (pa_cons (pv 0) (pa_cons (pe_ix (ixT K) (pv 2) pe_int (fun _ _ => rfl)) pa_nil))))) pa_nil)))), ?_⟩
    refine ⟨_, rfl, tl, rfl, ⟨_, SqL.of hT⟩, fun W hW => lc_listT (SqL.of hT) (sel := fun _ => true) (P := fun i y _ => ∃ b : Bool, y = .bl b) ⟨fun _ _ _ _ _ h => h, fun i H2 _ _ R r => r H2 (Same.refl H2), fun i H2 hi _ sm R r => ?_⟩ hW (lt_line (by omega)) (fun H2 bs sm hd _ pb => ?_)⟩
    · have hy : ys[i]? = some ys[i] := List.getElem?_eq_getElem hi
      obtain ⟨t, ht, p, q, ep, h1, h2⟩ := ya i _ hy
      have o := ok t (List.mem_of_getElem? ht)
      have eg : ys.getD i .non = .ref p := by rw [List.getD_eq_getElem?_getD, hy]; exact ep
      exact ⟨_, rfl, _, rfl, p, _, (1 : Int), .ref q, eg, rfl, same_seqT sm h1, rfl, z, q, t.1, t.2, rfl, same_seqT sm h2, o.2.2.1, o.2.1, o.2.2.2.2, fun b H3 s3 => r _ H3 s3 ⟨b, rfl⟩⟩
    · rw [filter_yes] at pb
      obtain ⟨bl, rfl⟩ := paired_bl pb
      exact ⟨W, bl, rfl, SqL.of hd, k _ _ sm⟩
def spFirst (K : PySem.W.Frag) : Sp := fun vs H Q _ => ∃ (tl : Addr) (tbs : List Tb), vs = [.ref tl] ∧ LTs K H tl tbs ∧ tbs.length ≤ 1000 ∧ (∀ t ∈ tbs, TbOk t) ∧ ∀ (v : V) H', (v = .non ∨ ∃ z, v = .str z) → Same H H' → Q v H'
theorem c_law_first_kind (D : FnAt K mg "_law_first_kind" s_law_first_kind) (T : Bl mg) (c_law_kinds : Cal P w K mg base 1 "_law_kinds" spKinds []) (c_law_kept : Cal P w K mg base 4 "_law_kept" (spKept K) []) : Cal P w K mg base 5 "_law_first_kind" (spFirst K) [] := by
  refine calOf D sc_law_first_kind (fun _ _ _ _ _ _ us hl => match us, hl with | [_], _ => rfl) (fun vs H Q E h => ?_) (fun f cdv A outer s H vs Q E hr h => ?_)
  · obtain ⟨tl, tbs, rfl, _⟩ := h
    rfl
  · obtain ⟨tl, tbs, rfl, hT, hl, ok, k⟩ := h
    have nd := sc_law_first_kind.nd
    refine ⟨_, (pss_cons (ps_for PassesOwn.never rfl (piList K (pe_c0 c_law_kinds hr (by decide) (by rfl))) (pg_name (i := 1) nd rfl (by first | exact Or.inl rfl | exact Or.inr rfl))
        (pss_one (ps_if (pt_val (pe_c c_law_kept hr (by decide) (by rfl) (pa_cons (pv 1) (pa_cons (pv 0) pa_nil))))
          (pss_one (ps_ret (pv 1)))
          pss_nil)))
      (pss_one (ps_ret pe_non))), ?_⟩
    refine ⟨rfl, fun p hp => ⟨p, rfl, ⟨_, SqL.of upd_same⟩, ?_⟩⟩
    have s0 := same_new (o := .lst (kindsL.map V.str)) hp
    refine for_list (xs := kindsL.map V.str) (fun i σ' H' => ∃ c1 : Option V, σ' = [some (.ref tl), c1] ∧ Same (upd H p (.lst (kindsL.map V.str))) H') ⟨none, rfl, Same.refl _⟩ (fun i σ' H' _ ⟨_, _, e⟩ => SqL.of (e _ _ upd_same)) (fun i x σ' H' hx hp => ?_) (fun σ' H' hp => ?_)
    · obtain ⟨c1, rfl, sm⟩ := hp
      obtain ⟨z, hz, rfl⟩ := map_get hx
      exact ⟨_, rfl, _, rfl, z, tl, tbs, rfl, hT.grow (s0.trans sm), hl, ok, fun b H2 sm2 => ⟨b, rfl, ite2 (fun _ => ⟨_, rfl, k _ H2 (.inr ⟨z, rfl⟩) ((s0.trans sm).trans sm2)⟩) (fun _ => ⟨_, rfl, sm.trans sm2⟩)⟩⟩
    · obtain ⟨c1, rfl, sm⟩ := hp
      exact k _ _ (.inl rfl) (s0.trans sm)
end
end L2.KK
namespace L2.KK
open PySem PySem.Spec PyProof.Rows C8
theorem sc_law_low : FnScope ["prices", "best", "price"] ["prices"] (defScope s_law_low) := ⟨rfl, rfl, rfl, by decide +kernel, rfl, by decide +kernel, by decide +kernel⟩
theorem sc_law_cost : FnScope ["d"] ["d"] (defScope s_law_cost) := ⟨rfl, rfl, rfl, by decide +kernel, rfl, by decide +kernel, by decide +kernel⟩
theorem sc_law_opened : FnScope ["d", "prices"] ["d", "prices"] (defScope s_law_opened) := ⟨rfl, rfl, rfl, by decide +kernel, rfl, by decide +kernel, by decide +kernel⟩
theorem sc_law_loose : FnScope ["d", "places", "barred", "prices", "number", "bar"] ["d", "places", "barred"] (defScope s_law_loose) := ⟨rfl, rfl, rfl, by decide +kernel, rfl, by decide +kernel, by decide +kernel⟩
theorem sc_law_crisp : FnScope ["d", "places", "barred", "price", "prices", "number"] ["d", "places", "barred"] (defScope s_law_crisp) := ⟨rfl, rfl, rfl, by decide +kernel, rfl, by decide +kernel, by decide +kernel⟩
theorem sc_law_turned : FnScope ["table", "price"] ["table"] (defScope s_law_turned) := ⟨rfl, rfl, rfl, by decide +kernel, rfl, by decide +kernel, by decide +kernel⟩
theorem sc_law_zero : FnScope ["d", "places", "prices", "least"] ["d", "places"] (defScope s_law_zero) := ⟨rfl, rfl, rfl, by decide +kernel, rfl, by decide +kernel, by decide +kernel⟩
/-- a table, made by the law -/
def MkT (K : PySem.W.Frag) (d c : Addr) (pl : Nat) (H : Hp) (Q : VK) : Prop := ∀ y ps H', TbOk (pl, ps) → LTR K H' y (pl, ps) → Dr H' d c → Kp d H H' → Q y H'
theorem mk_ltr {K : PySem.W.Frag} {H : Hp} {p q : Addr} {pl : Nat} {ps : List (Option Nat)} (hq : H q = none) (hp : (upd H q (.tup (ps.map pV))) p = none) : Same H (upd (upd H q (.tup (ps.map pV))) p (.tup [nV pl, .ref q])) ∧ LTR K (upd (upd H q (.tup (ps.map pV))) p (.tup [nV pl, .ref q])) (.ref p) (pl, ps) := by
  have s1 : Same H (upd H q (.tup (ps.map pV))) := same_new hq
  have s2 : Same (upd H q (.tup (ps.map pV))) (upd (upd H q (.tup (ps.map pV))) p (.tup [nV pl, .ref q])) := same_new hp
  exact ⟨s1.trans s2, p, q, rfl, .inl (.inl upd_same), .inl (.inl (s2 _ _ upd_same))⟩
theorem low_le : ∀ (ps : List (Option Nat)), (∀ p ∈ ps, ∀ m, p = some m → m ≤ 1000) → ∀ lo, MK.lowS ps = some lo → lo ≤ 1000 := by
  have key : ∀ (ps : List (Option Nat)) (a : Option Nat), (∀ m, a = some m → m ≤ 1000) → (∀ p ∈ ps, ∀ m, p = some m → m ≤ 1000) → ∀ m, ps.foldl MK.lowStep a = some m → m ≤ 1000 := by
    intro ps
    induction ps with
    | nil => exact fun a ha _ m hm => ha m hm
    | cons p ps ih =>
      intro a ha hp m hm
      rw [List.foldl_cons] at hm
      refine ih _ (fun x hx => ?_) (fun q hq => hp q (List.mem_cons_of_mem _ hq)) m hm
      have hp0 := hp p List.mem_cons_self
      cases a with
      | none => cases p with
        | none => cases hx
        | some y => exact hp0 x (by rw [← hx]; rfl)
      | some z => cases p with
        | none => exact ha x (by rw [← hx]; rfl)
        | some y =>
          have e : MK.lowStep (some z) (some y) = if y < z then some y else some z := rfl
          rw [e] at hx
          split at hx
          · cases hx; exact hp0 _ rfl
          · cases hx; exact ha _ rfl
  exact fun ps h lo e => key ps none (fun _ z => nomatch z) h lo e
/-- but for d and an object that was not there all stands -/
theorem kp_two {H H' : Hp} {d a : Addr} (h : ∀ b o, H b = some o → b ≠ d → b ≠ a → H' b = some o) (ha : H a = none) : Kp d H H' := fun b o e n => h b o e n (ne_of_none e ha)
section
variable {P : Program} {w : World} {K : PySem.W.Frag} {mg : Str → Option Value} {base : Heap}
def spLow (K : PySem.W.Frag) : Sp := fun vs H Q _ => ∃ (a : Addr) (ps : List (Option Nat)), vs = [.ref a] ∧ SqL K H a (ps.map pV) ∧ Q (pV (MK.lowS ps)) H
theorem c_law_low (D : FnAt K mg "_law_low" s_law_low) (T : Bl mg) : Cal P w K mg base 1 "_law_low" (spLow K) [] := by
  refine calOf D sc_law_low (fun _ _ _ _ _ _ us hl => match us, hl with | [_], _ => rfl) (fun vs H Q E h => ?_) (fun f cdv A outer s H vs Q E hr h => ?_)
  · obtain ⟨a, ps, rfl, _⟩ := h
    rfl
  · obtain ⟨a, ps, rfl, hS, k⟩ := h
    have nd := sc_law_low.nd
    refine ⟨_, (pss_cons (ps_set (i := 1) nd rfl (by first | exact Or.inl rfl | exact Or.inr rfl) pe_non)
      (pss_cons (ps_for PassesOwn.never rfl (piList K (pv 0)) (pg_name (i := 2) nd rfl (by first | exact Or.inl rfl | exact Or.inr rfl))
        (pss_one (ps_if (PW.pt (pw_and (pt_cmpR op_notN (pv 2) pe_non (nomark _)) (pw_and1 (PW.pt (pw_or (pt_cmpR op_isN (pv 1) pe_non (nomark _)) (pw_or1 (pt_cmpR op_lt (pv 2) (pv 1) (nomark _))))))))
          (pss_one (ps_set (i := 1) nd rfl (by first | exact Or.inl rfl | exact Or.inr rfl) (pv 2)))
          pss_nil)))
      (pss_one (ps_ret (pv 1))))), ?_⟩
    refine ⟨_, rfl, a, rfl, ⟨_, hS⟩, ?_⟩
    refine for_list (xs := ps.map pV) (fun i σ' H' => ∃ c2 : Option V, σ' = [some (.ref a), some (pV (MK.lowS (ps.take i))), c2] ∧ H' = H) ⟨none, rfl, rfl⟩ (fun i σ' H' _ ⟨_, _, e⟩ => by rw [e]; exact hS) (fun i x σ' H' hx hp => ?_) (fun σ' H' hp => ?_)
    · obtain ⟨c2, rfl, rfl⟩ := hp
      obtain ⟨p, hp, rfl⟩ := map_get hx
      have et : MK.lowS (ps.take (i + 1)) = MK.lowStep (MK.lowS (ps.take i)) p := by
        rw [take_snoc hp]
        unfold MK.lowS
        rw [List.foldl_append]
        rfl
      rw [et]
      generalize MK.lowS (ps.take i) = b
      refine ⟨_, rfl, rfl, _, rfl, ?_⟩
      cases p with
      | none =>
        refine ite2 (fun h => absurd h notn_none) (fun _ => ?_)
        refine ⟨some (pV none), ?_, rfl⟩
        cases b <;> rfl
      | some x =>
        refine ite2 (fun _ => ⟨_, rfl, rfl, _, rfl, ?_⟩) (fun h => absurd notn_some h)
        cases b with
        | none => exact ite2 (fun _ => ⟨_, rfl, ⟨_, rfl, rfl⟩⟩) (fun h => absurd isn_none h)
        | some y =>
          refine ite2 (fun h => absurd h isn_some) (fun _ => ⟨_, rfl, _, rfl, x, y, rfl, rfl, _, rfl, ?_⟩)
          have e : MK.lowStep (some y) (some x) = if x < y then some x else some y := rfl
          rw [e]
          by_cases h : x < y
          · rw [if_pos h]
            exact ite2 (fun _ => ⟨_, rfl, ⟨_, rfl, rfl⟩⟩) (fun n => absurd (decide_eq_true (by omega)) n)
          · rw [if_neg h]
            exact ite2 (fun n => absurd (of_decide_eq_true n) (by omega)) (fun _ => ⟨_, rfl, rfl⟩)
    · obtain ⟨c2, rfl, rfl⟩ := hp
      rw [List.length_map, List.take_length]
      exact ⟨_, rfl, k⟩
def spCost : Sp := fun vs H Q _ => ∃ (d c : Addr), vs = [.ref d] ∧ Dr H d c ∧ ∀ (n : Nat) H', n ≤ 1000 → Dr H' d c → Kp d H H' → Q (nV n) H'
theorem c_law_cost (D : FnAt K mg "_law_cost" s_law_cost) (T : Bl mg) (c_law_rare : Cal P w K mg base 2 "_law_rare" spRare []) (c_law_draw : Cal P w K mg base 1 "_law_draw" spDraw []) : Cal P w K mg base 3 "_law_cost" spCost [] := by
  refine calOf D sc_law_cost (fun _ _ _ _ _ _ us hl => match us, hl with | [_], _ => rfl) (fun vs H Q E h => ?_) (fun f cdv A outer s H vs Q E hr h => ?_)
  · obtain ⟨d, c, rfl, _⟩ := h
    rfl
  · obtain ⟨d, c, rfl, D, k⟩ := h
    refine ⟨_, (pss_cons (ps_if (pt_val (pe_c c_law_rare hr (by decide) (by rfl) (pa_cons (pv 0) (pa_cons pe_int pa_nil))))
        (pss_one (ps_ret (pe_c c_law_draw hr (by decide) (by rfl) (pa_cons (pv 0) (pa_cons pe_int pa_nil)))))
        pss_nil)
      (pss_one (ps_ret (pe_c c_law_draw hr (by decide) (by rfl) (pa_cons (pv 0) (pa_cons pe_int pa_nil)))))), ?_⟩
    refine ⟨_, rfl, d, c, 11, rfl, D, by decide, by decide, fun b H1 D1 kp1 => ⟨b, rfl, ite2 (fun _ => ?_) (fun _ => ?_)⟩⟩
    · exact ⟨_, rfl, d, c, 1001, rfl, D1, by decide, by decide, fun n H2 hn D2 kp2 => k n H2 (by omega) D2 (kp1.trans kp2)⟩
    · exact ⟨_, rfl, d, c, 6, rfl, D1, by decide, by decide, fun n H2 hn D2 kp2 => k n H2 (by omega) D2 (kp1.trans kp2)⟩
def PrOk (ps : List (Option Nat)) : Prop := ∀ p ∈ ps, ∀ m, p = some m → m ≤ 1000
def spOpened : Sp := fun vs H Q _ => ∃ (d c a : Addr) (ps : List (Option Nat)), vs = [.ref d, .ref a] ∧ Dr H d c ∧ H a = some (.lst (ps.map pV)) ∧ a ≠ d ∧ a ≠ c ∧ 0 < ps.length ∧ ps.length ≤ 16 ∧ PrOk ps ∧
  ∀ (ps' : List (Option Nat)) H', ps'.length = ps.length → PrOk ps' → (∃ p ∈ ps', p.isSome = true) → Dr H' d c → H' a = some (.lst (ps'.map pV)) → (∀ b o, H b = some o → b ≠ d → b ≠ a → H' b = some o) → Q (.ref a) H'
theorem c_law_opened (D : FnAt K mg "_law_opened" s_law_opened) (T : Bl mg) (c_law_low : Cal P w K mg base 1 "_law_low" (spLow K) []) (c_law_cost : Cal P w K mg base 3 "_law_cost" spCost []) (c_law_draw : Cal P w K mg base 1 "_law_draw" spDraw []) : Cal P w K mg base 4 "_law_opened" spOpened [] := by
  refine calOf D sc_law_opened (fun _ _ _ _ _ _ us hl => match us, hl with | [_, _], _ => rfl) (fun vs H Q E h => ?_) (fun f cdv A outer s H vs Q E hr h => ?_)
  · obtain ⟨d, c, a, ps, rfl, _⟩ := h
    rfl
  · obtain ⟨d, c, a, ps, rfl, D, ha, nad, nac, h0, h16, ok, k⟩ := h
    refine ⟨_, (pss_cut (ps_if (pt_cmpR op_isN (pe_c c_law_low hr (by decide) (by rfl) (pa_cons (pv 1) pa_nil)) pe_non (nomark _))
        (pss_one (ps_asg (pe_c c_law_cost hr (by decide) (by rfl) (pa_cons (pv 0) pa_nil)) (pg_sub (pv 1) (pe_c c_law_draw hr (by decide) (by rfl) (pa_cons (pv 0) (pa_cons (pe_callB (crLen K) (by rfl) T.b_len (by decide +kernel) (pa_cons (pv 1) pa_nil)) pa_nil))) set_list)))
        pss_nil)
      (pss_one (ps_ret (pv 1)))), ?_⟩
    refine ⟨fun σ' H' => σ' = [some (.ref d), some (.ref a)] ∧ ∃ ps', ps'.length = ps.length ∧ PrOk ps' ∧ (∃ p ∈ ps', p.isSome = true) ∧ Dr H' d c ∧ H' a = some (.lst (ps'.map pV)) ∧ (∀ b o, H b = some o → b ≠ d → b ≠ a → H' b = some o), ?_, ?_⟩
    · refine ⟨_, rfl, a, ps, rfl, SqL.of ha, rfl, _, rfl, ite2 (fun hn => ?_) (fun hn => ?_)⟩
      · refine ⟨_, rfl, d, c, rfl, D, fun n H1 hn1 D1 kp1 => ?_⟩
        have ha1 := kp1 _ _ ha nad
        refine ⟨_, rfl, _, rfl, _, rfl, a, _, rfl, .inl (SqL.of ha1), d, c, (ps.length : Int), by rw [List.length_map]; rfl, D1, by omega, by omega, fun j H2 hj D2 kp2 => ?_⟩
        have ha2 := kp2 _ _ ha1 nad
        have hj' : j < ps.length := by omega
        refine ⟨a, _, (j : Int), j, rfl, rfl, ha2, ixN_lt (by rw [List.length_map]; exact hj'), rfl, ps.set j (some n), by rw [List.length_set], fun p hp m hm => ?_, ⟨some n, List.mem_of_getElem? (List.getElem?_set_self hj'), rfl⟩, D2.put nad nac, ?_, fun b o e n1 n2 => ?_⟩
        · rcases List.mem_or_eq_of_mem_set hp with z | z
          · exact ok p z m hm
          · rw [z] at hm
            cases hm
            exact hn1
        · rw [upd_same, List.map_set]
          rfl
        · rw [upd_ne n2]
          exact kp2 _ _ (kp1 _ _ e n1) n1
      · refine ⟨rfl, ps, rfl, ok, MK.lowS_some.mp ?_, D, ha, fun b o e _ _ => e⟩
        cases e : MK.lowS ps with
        | none => rw [e] at hn; exact absurd isn_none hn
        | some x => rfl
    · rintro σ' H' ⟨rfl, ps', l, o, e, D', h, kp⟩
      exact ⟨_, rfl, k ps' H' l o e D' h kp⟩
def spLoose (K : PySem.W.Frag) : Sp := fun vs H Q _ => ∃ (d c : Addr) (pl bar : Nat), vs = [.ref d, nV pl, nV bar] ∧ Dr H d c ∧ 1 ≤ pl ∧ pl ≤ 4 ∧ ∀ p q ps H', TbOk (pl, ps) → H p = none → H' p = some (.tup [nV pl, .ref q]) → H' q = some (.tup (ps.map pV)) → Dr H' d c → Kp d H H' → Q (.ref p) H'
theorem c_law_loose (D : FnAt K mg "_law_loose" s_law_loose) (T : Bl mg) (c_law_draw : Cal P w K mg base 1 "_law_draw" spDraw []) (c_law_cost : Cal P w K mg base 3 "_law_cost" spCost []) (c_law_opened : Cal P w K mg base 4 "_law_opened" spOpened []) : Cal P w K mg base 5 "_law_loose" (spLoose K) [] := by
  refine calOf D sc_law_loose (fun _ _ _ _ _ _ us hl => match us, hl with | [_, _, _], _ => rfl) (fun vs H Q E h => ?_) (fun f cdv A outer s H vs Q E hr h => ?_)
  · obtain ⟨d, c, pl, bar, rfl, _⟩ := h
    rfl
  · obtain ⟨d, c, pl, bar, rfl, D, h1, h4, k⟩ := h
    have nd := sc_law_loose.nd
    have p16 : 2 ^ pl ≤ 2 ^ 4 := Nat.pow_le_pow_right (by decide) h4
    have p0 := Nat.two_pow_pos pl
    refine ⟨_, (pss_cons (ps_set (i := 3) nd rfl (by first | exact Or.inl rfl | exact Or.inr rfl) (pe_lst pa_nil))
      (pss_cons (ps_for PassesOwn.never rfl (pi_range1 (by rfl) T.b_range (pa_cons (pe_op op_shlNN pe_int (pv 1)) pa_nil)) (pg_name (i := 4) nd rfl (by first | exact Or.inl rfl | exact Or.inr rfl))
        (pss_cons (ps_set (i := 5) nd rfl (by first | exact Or.inl rfl | exact Or.inr rfl) (pe_cmpR op_lt (pe_c c_law_draw hr (by decide) (by rfl) (pa_cons (pv 0) (pa_cons pe_int pa_nil))) (pv 2) (nomark _)))
        (pss_one (ps_expr (pe_bm PySem.F.plainAttrs_list PySem.F.slot_list_append PySem.F.type_list_append mt_append (pv 3) (pa_cons (pe_ifExp (pt_val (pv 5)) pe_non (pe_c c_law_cost hr (by decide) (by rfl) (pa_cons (pv 0) pa_nil))) pa_nil))))))
      (pss_one (ps_ret (pe_tup (pa_cons (pv 1) (pa_cons (pe_callTy (crTup K) (by rfl) T.b_tuple (by decide +kernel) (pa_cons (pe_c c_law_opened hr (by decide) (by rfl) (pa_cons (pv 0) (pa_cons (pv 3) pa_nil))) pa_nil)) pa_nil))))))), ?_⟩
    refine ⟨Nat.zero_le _, fun a ha => ?_⟩
    obtain ⟨nad, nac⟩ := D.ne ha
    refine ⟨_, rfl, 1, pl, rfl, rfl, ⟨by omega, by decide⟩, _, rfl, by omega, by omega, ?_⟩
    rw [Int.toNat_natCast, Nat.one_mul]
    refine for_range (lo := 0) (n := 2 ^ pl) (fun i σ' H' => ∃ (ps : List (Option Nat)) (c4 c5 : Option V), σ' = [some (.ref d), some (nV pl), some (nV bar), some (.ref a), c4, c5] ∧ H' a = some (.lst (ps.map pV)) ∧ ps.length = i ∧ PrOk ps ∧ Dr H' d c ∧ Kp d H H')
      ⟨[], none, none, rfl, upd_same, rfl, fun p hp => (nomatch hp), D.put nad nac, (Kp.refl d H).new ha⟩ ?_ ?_
    · rintro i σ' H1 hi ⟨ps, c4, c5, rfl, e1, l1, ok, D1, kp1⟩
      refine ⟨_, rfl, d, c, 8, rfl, D1, by decide, by decide, fun n H2 hn D2 kp2 => ⟨_, rfl, n, bar, rfl, rfl, ?_⟩⟩
      have e2 := kp2 _ _ e1 nad
      refine ⟨_, rfl, .inl ⟨rfl, _, SqL.of e2⟩, _, rfl, _, rfl, ?_⟩
      have fin : ∀ (o : Option Nat) (H3 : Hp), (∀ m, o = some m → m ≤ 1000) → H3 a = some (.lst (ps.map pV)) → Dr H3 d c → Kp d H H3 → ∃ l xs v, V.ref a = .ref l ∧ [pV o] = [v] ∧ H3 l = some (.lst xs) ∧ xs.length < sizeLine ∧
          ∃ (ps' : List (Option Nat)) (c4 c5 : Option V), [some (V.ref d), some (nV pl), some (nV bar), some (.ref a), some (.int (0 + (i : Int))), some (.bl (decide ((n : Int) < (bar : Int))))] = [some (.ref d), some (nV pl), some (nV bar), some (.ref a), c4, c5] ∧
            (upd H3 l (.lst (xs ++ [v]))) a = some (.lst (ps'.map pV)) ∧ ps'.length = i + 1 ∧ PrOk ps' ∧ Dr (upd H3 l (.lst (xs ++ [v]))) d c ∧ Kp d H (upd H3 l (.lst (xs ++ [v]))) := fun o H3 ho e3 D3 kp3 => by
        refine ⟨a, _, _, rfl, rfl, e3, Nat.lt_of_le_of_lt (show (ps.map pV).length ≤ 16 by rw [List.length_map]; omega) (by decide), ps ++ [o], _, _, rfl, by rw [upd_same, List.map_append]; rfl, by rw [List.length_append, l1]; rfl, fun p hp m hm => ?_, D3.put nad nac, kp3.new ha⟩
        rcases List.mem_append.mp hp with z | z
        · exact ok p z m hm
        · rw [List.mem_singleton.mp z] at hm
          exact ho m hm
      refine ite2 (fun _ => ?_) (fun _ => ?_)
      · obtain ⟨l, xs, v, e1', e2', e3', lt, r⟩ := fin none H2 (fun m h => (nomatch h)) e2 D2 (kp1.trans kp2)
        exact ⟨l, xs, v, e1', e2', e3', lt, r⟩
      · refine ⟨_, rfl, d, c, rfl, D2, fun m H3 hm D3 kp3 => ?_⟩
        obtain ⟨l, xs, v, e1', e2', e3', lt, r⟩ := fin (some m) H3 (fun m' h => by cases h; exact hm) (kp3 _ _ e2 nad) D3 ((kp1.trans kp2).trans kp3)
        exact ⟨l, xs, v, e1', e2', e3', lt, r⟩
    · rintro σ' H1 ⟨ps, c4, c5, rfl, e1, l1, ok, D1, kp1⟩
      refine ⟨_, rfl, _, rfl, _, rfl, d, c, a, ps, rfl, D1, e1, nad, nac, by omega, by omega, ok, fun ps' H2 l2 ok2 ex D2 e2 kp2 => ⟨a, _, rfl, .inl ⟨SqL.of e2, fun q hq => ?_⟩⟩⟩
      have sm1 := same_new (o := .tup (ps'.map pV)) hq
      refine ⟨by show 2 ≤ sizeLine; decide, fun p hp => ?_⟩
      have sm2 := same_new (o := .tup [nV pl, .ref q]) hp
      have kp3 : Kp d H H2 := fun b o e n => kp2 _ _ (kp1 _ _ e n) n (ne_of_none e ha)
      have hp0 : H p = none := by
        cases e : H p with
        | none => rfl
        | some o =>
          by_cases z : p = d
          · obtain ⟨_, _, _, _, hd, _⟩ := D2.ex
            have := (sm1 _ _ hd)
            rw [← z, hp] at this
            cases this
          · have := sm1 _ _ (kp3 _ _ e z)
            rw [hp] at this
            cases this
      exact k p q ps' _ ⟨h1, h4, by rw [l2, l1], ex, ok2⟩ hp0 upd_same (sm2 _ _ upd_same) ((D2.keep sm1).keep sm2) (kp3.trans (Kp.of (sm1.trans sm2)))
def spMkB (K : PySem.W.Frag) : Sp := fun vs H Q _ => ∃ (d c : Addr) (pl bar : Nat), vs = [.ref d, nV pl, nV bar] ∧ Dr H d c ∧ 1 ≤ pl ∧ pl ≤ 4 ∧ MkT K d c pl H Q
def spMk (K : PySem.W.Frag) : Sp := fun vs H Q _ => ∃ (d c : Addr) (pl : Nat), vs = [.ref d, nV pl] ∧ Dr H d c ∧ 1 ≤ pl ∧ pl ≤ 4 ∧ MkT K d c pl H Q
theorem loose_mk (c0 : Cal P w K mg base 5 "_law_loose" (spLoose K) []) : Cal P w K mg base 5 "_law_loose" (spMkB K) [] := Cal.weak c0 fun vs H Q E ⟨d, c, pl, bar, e, D, h1, h4, k⟩ => ⟨d, c, pl, bar, e, D, h1, h4, fun p q ps H' ok _ e1 e2 D' kp => k _ ps H' ok ⟨p, q, rfl, .inl (.inl e1), .inl (.inl e2)⟩ D' kp⟩
/-- the end of a maker: the pair of the places and the prices as a tuple -/
theorem mk_end {d c : Addr} {pl : Nat} {H H2 : Hp} {Q : VK} {ps : List (Option Nat)} (k : MkT K d c pl H Q) (ok : TbOk (pl, ps)) (D : Dr H2 d c) (kp : Kp d H H2) (q : Addr) (hq : H2 q = none) :
    2 ≤ sizeLine ∧ ∀ p, (upd H2 q (.tup (ps.map pV))) p = none → Q (.ref p) (upd (upd H2 q (.tup (ps.map pV))) p (.tup [nV pl, .ref q])) := by
  refine ⟨by decide, fun p hp => ?_⟩
  obtain ⟨sm, lt⟩ := mk_ltr (K := K) (pl := pl) hq hp
  exact k _ ps _ ok lt (D.keep sm) (kp.trans (Kp.of sm))
theorem c_law_crisp (D : FnAt K mg "_law_crisp" s_law_crisp) (T : Bl mg) (c_law_draw : Cal P w K mg base 1 "_law_draw" spDraw []) (c_law_cost : Cal P w K mg base 3 "_law_cost" spCost []) (c_law_opened : Cal P w K mg base 4 "_law_opened" spOpened []) : Cal P w K mg base 5 "_law_crisp" (spMkB K) [] := by
  refine calOf D sc_law_crisp (fun _ _ _ _ _ _ us hl => match us, hl with | [_, _, _], _ => rfl) (fun vs H Q E h => ?_) (fun f cdv A outer s H vs Q E hr h => ?_)
  · obtain ⟨d, c, pl, bar, rfl, _⟩ := h
    rfl
  · obtain ⟨d, c, pl, bar, rfl, D, h1, h4, k⟩ := h
    have nd := sc_law_crisp.nd
    have p16 : 2 ^ pl ≤ 2 ^ 4 := Nat.pow_le_pow_right (by decide) h4
    have p0 := Nat.two_pow_pos pl
    refine ⟨_, (pss_cons (ps_set (i := 3) nd rfl (by first | exact Or.inl rfl | exact Or.inr rfl) (pe_c c_law_cost hr (by decide) (by rfl) (pa_cons (pv 0) pa_nil)))
      (pss_cons (ps_setLc (i := 4) (own := [("number", 5)]) (g := gName 5) (tt := tYes) rfl nd rfl rfl (sw_true rfl rfl rfl (by decide +kernel)) (pi_range1 (by rfl) T.b_range (pa_cons (pe_op op_shlNN pe_int (pv 1)) pa_nil)) (blkOk_by (N := ["d", "places", "barred", "price", "prices", "number"]) (sc := defScope s_law_crisp) (own := [("number", 5)]) (by decide +kernel)) (fun _ _ _ _ _ => (pg_name (i := 5) nd rfl (by first | exact Or.inl rfl | exact Or.inr rfl))) (fun _ _ _ _ _ => pts_nil) (fun _ _ _ _ _ => (pe_ifExp (pt_cmpR op_lt (pe_c c_law_draw hr (by decide) (by rfl) (pa_cons (pv 0) (pa_cons pe_int pa_nil))) (pv 2) (nomark _)) pe_non (pv 3))))
      (pss_one (ps_ret (pe_tup (pa_cons (pv 1) (pa_cons (pe_callTy (crTup K) (by rfl) T.b_tuple (by decide +kernel) (pa_cons (pe_c c_law_opened hr (by decide) (by rfl) (pa_cons (pv 0) (pa_cons (pv 4) pa_nil))) pa_nil)) pa_nil))))))), ?_⟩
    refine ⟨_, rfl, d, c, rfl, D, fun pr H1 hpr D1 kp1 => ?_⟩
    refine ⟨_, rfl, 1, pl, rfl, rfl, ⟨by omega, by decide⟩, _, rfl, by omega, by omega, ?_⟩
    rw [Int.toNat_natCast, Nat.one_mul]
    intro W hW
    obtain ⟨nWd, nWc⟩ := D1.ne hW
    refine lc_range (lo := 0) (n := 2 ^ pl) (fun j H3 => ∃ ps : List (Option Nat), H3 W = some (.lst (ps.map pV)) ∧ ps.length = j ∧ PrOk ps ∧ Dr H3 d c ∧ Kp d H1 H3) ⟨[], upd_same, rfl, fun _ h => (nomatch h), D1.put nWd nWc, (Kp.refl d H1).new hW⟩ ?_ ?_
    · rintro j H3 hj ⟨ps, g1, nl, ok, D3, kp3⟩
      refine ⟨rfl, ?_⟩
      have fin : ∀ (o : Option Nat) (H4 : Hp), (∀ m, o = some m → m ≤ 1000) → Dr H4 d c → Kp d H3 H4 → ∃ acc, H4 W = some (.lst acc) ∧ acc.length < sizeLine ∧ ∃ ps' : List (Option Nat), (upd H4 W (.lst (acc ++ [pV o]))) W = some (.lst (ps'.map pV)) ∧ ps'.length = j + 1 ∧ PrOk ps' ∧ Dr (upd H4 W (.lst (acc ++ [pV o]))) d c ∧ Kp d H1 (upd H4 W (.lst (acc ++ [pV o]))) := fun o H4 ho D4 kp4 => by
        refine ⟨_, kp4 _ _ g1 nWd, Nat.lt_of_le_of_lt (show (ps.map pV).length ≤ 16 by rw [List.length_map]; omega) (by decide), ps ++ [o], by rw [upd_same, List.map_append]; rfl, by rw [List.length_append, nl]; rfl, fun p hp m hm => ?_, D4.put nWd nWc, (kp3.trans kp4).new hW⟩
        rcases List.mem_append.mp hp with z | z
        · exact ok p z m hm
        · rw [List.mem_singleton.mp z] at hm
          exact ho m hm
      exact ⟨_, rfl, d, c, 8, rfl, D3, by decide, by decide, fun n H4 hn D4 kp4 => ⟨_, rfl, n, bar, rfl, rfl, _, rfl, ite2 (fun _ => fin none H4 (fun _ h => nomatch h) D4 kp4) (fun _ => ⟨_, rfl, fin (some pr) H4 (fun m h => by cases h; exact hpr) D4 kp4⟩)⟩⟩
    · rintro H3 ⟨ps, g1, nl, ok, D3, kp3⟩
      have kpH : Kp d H H3 := kp1.trans kp3
      have hW0 : H W = none := kp_none kp1 hW nWd
      refine ⟨_, rfl, _, rfl, _, rfl, d, c, W, ps, rfl, D3, g1, nWd, nWc, by omega, by omega, ok, fun ps' H2 l2 ok2 ex D2 e2 kp2 => ⟨W, _, rfl, .inl ⟨SqL.of e2, fun q hq => ?_⟩⟩⟩
      exact mk_end k ⟨h1, h4, by rw [l2, nl], ex, ok2⟩ D2 (fun b o e n => kp2 _ _ (kpH _ _ e n) n (ne_of_none e hW0)) q hq
def spTurn (K : PySem.W.Frag) : Sp := fun vs H Q _ => ∃ (y : V) (pl : Nat) (ps : List (Option Nat)), vs = [y] ∧ LTR K H y (pl, ps) ∧ TbOk (pl, ps) ∧ ∀ y' ps' H', TbOk (pl, ps') → LTR K H' y' (pl, ps') → Same H H' → Q y' H'
theorem c_law_turned (D : FnAt K mg "_law_turned" s_law_turned) (T : Bl mg) : Cal P w K mg base 1 "_law_turned" (spTurn K) [] := by
  refine calOf D sc_law_turned (fun _ _ _ _ _ _ us hl => match us, hl with | [_], _ => rfl) (fun vs H Q E h => ?_) (fun f cdv A outer s H vs Q E hr h => ?_)
  · obtain ⟨y, pl, ps, rfl, _⟩ := h
    rfl
  · obtain ⟨y, pl, ps, rfl, ⟨p, q, rfl, hp, hq⟩, ok, k⟩ := h
    have hq : SqT K H q (ps.map pV) := hq
    have nd := sc_law_turned.nd
    have p16 : 2 ^ pl ≤ 2 ^ 4 := Nat.pow_le_pow_right (by decide) ok.2.1
    have hl : ps.length = 2 ^ pl := ok.2.2.1
    refine ⟨_, (pss_one (ps_ret (pe_tup (pa_cons (pe_ix (ixT K) (pv 0) pe_int (fun _ _ => rfl)) (pa_cons (pe_callTy (crTup K) (by rfl) T.b_tuple (by decide +kernel) (pa_cons (pe_lc (own := [("price", 1)]) (g := gName 1) (tt := tYes) rfl nd (RT.pi_revA (by rfl) T.b_reversed (pe_ix (ixT K) (pv 0) pe_int (fun _ _ => rfl))) (blkOk_by (N := ["table", "price"]) (sc := defScope s_law_turned) (own := [("price", 1)]) (by decide +kernel)) (fun _ _ _ _ _ => (pg_name (i := 1) nd rfl (by first | exact Or.inl rfl | exact Or.inr rfl))) (fun _ _ _ _ _ => pts_nil) (fun _ _ _ _ _ => (pv 1))) pa_nil)) pa_nil))))), ?_⟩
    refine ⟨_, rfl, p, _, (0 : Int), nV pl, rfl, rfl, hp, rfl, _, rfl, p, _, (1 : Int), .ref q, rfl, rfl, hp, rfl, q, _, rfl, .inr ⟨hq, fun W hW => lc_revT hq (sel := fun _ => true) (P := fun i y _ => y = pV (ps.getD (ps.length - 1 - i) none)) ⟨fun _ _ _ _ _ h => h, fun i H' _ _ R r => r H' (Same.refl H'), fun i H' hi _ _ R r => ?_⟩ hW (lt_line (by rw [List.length_map]; omega)) (fun H1 ys sm hd _ pr => ?_)⟩⟩
    · rw [List.length_map] at hi
      refine ⟨_, rfl, r _ H' (Same.refl H') ?_⟩
      rw [List.length_map, map_getD none (by omega)]
    · rw [filter_yes, List.length_map] at pr
      have ey : ys = ps.reverse.map pV := by
        rw [paired_map_eq pr]
        apply List.ext_getElem
        · rw [List.length_map, List.length_range, List.length_map, List.length_reverse]
        · intro i h1 h2
          rw [List.getElem_map, List.getElem_range, List.getElem_map, List.getElem_reverse, List.getD_eq_getElem?_getD, List.getElem?_eq_getElem]
          rfl
      rw [ey] at hd
      refine ⟨W, _, rfl, .inl ⟨SqL.of hd, fun t ht => ⟨by show 2 ≤ sizeLine; decide, fun r hr0 => ?_⟩⟩⟩
      obtain ⟨sm2, lt⟩ := mk_ltr (K := K) (pl := pl) ht hr0
      refine k _ ps.reverse _ ⟨ok.1, ok.2.1, by show ps.reverse.length = _; rw [List.length_reverse]; exact hl, ?_, fun o ho m hm => ok.2.2.2.2 o (List.mem_reverse.mp ho) m hm⟩ lt (sm.trans sm2)
      obtain ⟨o, ho, hs⟩ := ok.2.2.2.1
      exact ⟨o, List.mem_reverse.mpr ho, hs⟩
theorem c_law_zero (D : FnAt K mg "_law_zero" s_law_zero) (T : Bl mg) (c_law_draw : Cal P w K mg base 1 "_law_draw" spDraw []) (c_law_loose : Cal P w K mg base 5 "_law_loose" (spMkB K) []) (c_law_low : Cal P w K mg base 1 "_law_low" (spLow K) []) : Cal P w K mg base 6 "_law_zero" (spMk K) [] := by
  refine calOf D sc_law_zero (fun _ _ _ _ _ _ us hl => match us, hl with | [_, _], _ => rfl) (fun vs H Q E h => ?_) (fun f cdv A outer s H vs Q E hr h => ?_)
  · obtain ⟨d, c, pl, rfl, _⟩ := h
    rfl
  · obtain ⟨d, c, pl, rfl, D, h1, h4, k⟩ := h
    have nd := sc_law_zero.nd
    refine ⟨_, (pss_cons (ps_set (i := 2) nd rfl (by first | exact Or.inl rfl | exact Or.inr rfl) (pe_callTy (crList K) (by rfl) T.b_list (by decide +kernel) (pa_cons (pe_ix (ixT K) (pe_c c_law_loose hr (by decide) (by rfl) (pa_cons (pv 0) (pa_cons (pv 1) (pa_cons (pe_c c_law_draw hr (by decide) (by rfl) (pa_cons (pv 0) (pa_cons pe_int pa_nil))) pa_nil)))) pe_int (fun _ _ => rfl)) pa_nil)))
      (pss_cons (ps_set (i := 3) nd rfl (by first | exact Or.inl rfl | exact Or.inr rfl) (pe_c c_law_low hr (by decide) (by rfl) (pa_cons (pv 2) pa_nil)))
      (pss_cons (ps_asg (pe_ifExp (pt_cmpR op_eq (pe_c c_law_draw hr (by decide) (by rfl) (pa_cons (pv 0) (pa_cons pe_int pa_nil))) pe_int (nomark _)) (pv 3) (pe_c c_law_draw hr (by decide) (by rfl) (pa_cons (pv 0) (pa_cons (pe_op op_addNN (pv 3) pe_int) pa_nil)))) (pg_sub (pv 2) pe_int set_list))
      (pss_one (ps_ret (pe_tup (pa_cons (pv 1) (pa_cons (pe_callTy (crTup K) (by rfl) T.b_tuple (by decide +kernel) (pa_cons (pv 2) pa_nil)) pa_nil)))))))), ?_⟩
    refine ⟨_, rfl, _, rfl, _, rfl, d, c, 5, rfl, D, by decide, by decide, fun bar H1 hb D1 kp1 => ?_⟩
    refine ⟨d, c, pl, bar, rfl, D1, h1, h4, fun y ps H2 ok lt D2 kp2 => ?_⟩
    obtain ⟨p, q, rfl, hp, hq⟩ := lt
    have hl : ps.length = 2 ^ pl := ok.2.2.1
    have p0 := Nat.two_pow_pos pl
    refine ⟨p, _, (1 : Int), .ref q, rfl, rfl, hp, rfl, q, _, rfl, .inr hq, fun W hW => ?_⟩
    obtain ⟨nWd, nWc⟩ := D2.ne hW
    have s3 : Same H2 (upd H2 W (.lst (ps.map pV))) := same_new hW
    have g3 : (upd H2 W (.lst (ps.map pV))) W = some (.lst (ps.map pV)) := upd_same
    have D3 := D2.keep s3
    have kpH : Kp d H (upd H2 W (.lst (ps.map pV))) := (kp1.trans kp2).trans (Kp.of s3)
    have hW0 : H W = none := kp_none (kp1.trans kp2) hW nWd
    revert s3 g3 D3 kpH
    generalize upd H2 W (.lst (ps.map pV)) = H3
    intro s3 g3 D3 kpH
    obtain ⟨lo, elo⟩ := Option.isSome_iff_exists.mp (MK.lowS_some.mpr ok.2.2.2.1)
    have lle : lo ≤ 1000 := low_le ps ok.2.2.2.2 lo elo
    refine ⟨_, rfl, W, ps, rfl, SqL.of g3, ?_⟩
    rw [elo]
    have fin : ∀ (m : Nat) (H4 : Hp), m ≤ lo → Dr H4 d c → Kp d H3 H4 → ∃ (p : Addr) (xs : List V) (j : Int) (i : Nat), V.ref W = .ref p ∧ V.int 0 = .int j ∧ H4 p = some (.lst xs) ∧ ixN xs.length j = some i ∧ True := fun m H4 hm D4 kp4 => ⟨W, _, 0, 0, rfl, rfl, kp4 _ _ g3 nWd, ixN_lt (j := 0) (by rw [List.length_map]; omega), trivial⟩
    have after : ∀ (m : Nat) (H4 : Hp), m ≤ lo → Dr H4 d c → Kp d H3 H4 → Dr (upd H4 W (.lst ((ps.set 0 (some m)).map pV))) d c ∧ Kp d H (upd H4 W (.lst ((ps.set 0 (some m)).map pV))) ∧ TbOk (pl, ps.set 0 (some m)) := fun m H4 hm D4 kp4 => by
      refine ⟨D4.put nWd nWc, (kpH.trans kp4).new hW0, h1, h4, by show (ps.set 0 (some m)).length = _; rw [List.length_set]; exact hl, ⟨some m, List.mem_of_getElem? (List.getElem?_set_self (by omega)), rfl⟩, fun o ho x hx => ?_⟩
      rcases List.mem_or_eq_of_mem_set ho with z | z
      · exact ok.2.2.2.2 o z x hx
      · rw [z] at hx
        cases hx
        omega
    refine ⟨_, rfl, d, c, 2, rfl, D3, by decide, by decide, fun n H4 hn D4 kp4 => ⟨rfl, _, rfl, ite2 (fun _ => ?_) (fun _ => ?_)⟩⟩
    · obtain ⟨a1, a2, a3⟩ := after lo H4 (Nat.le_refl _) D4 kp4
      refine ⟨_, rfl, _, rfl, W, _, (0 : Int), 0, rfl, rfl, kp4 _ _ g3 nWd, ixN_lt (j := 0) (by rw [List.length_map]; omega), ?_⟩
      refine ⟨_, rfl, _, rfl, W, _, rfl, .inl ⟨SqL.of upd_same, fun t ht => ?_⟩⟩
      rw [show (List.set (ps.map pV) 0 (pV (some lo))) = (ps.set 0 (some lo)).map pV by rw [List.map_set]] at ht ⊢
      exact mk_end k a3 a1 a2 t ht
    · refine ⟨_, rfl, _, rfl, lo, 1, rfl, rfl, d, c, ((lo + 1 : Nat) : Int), rfl, D4, by omega, by omega, fun m H5 hm D5 kp5 => ?_⟩
      obtain ⟨a1, a2, a3⟩ := after m H5 (by omega) D5 (kp4.trans kp5)
      refine ⟨_, rfl, W, _, (0 : Int), 0, rfl, rfl, (kp4.trans kp5) _ _ g3 nWd, ixN_lt (j := 0) (by rw [List.length_map]; omega), ?_⟩
      refine ⟨_, rfl, _, rfl, W, _, rfl, .inl ⟨SqL.of upd_same, fun t ht => ?_⟩⟩
      rw [show (List.set (ps.map pV) 0 (nV m)) = (ps.set 0 (some m)).map pV by rw [List.map_set]; rfl] at ht ⊢
      exact mk_end k a3 a1 a2 t ht
end
end L2.KK
namespace L2.KK
open PySem PySem.Spec PyProof.Rows C8
theorem sc_law_least : FnScope ["d", "places", "size", "kept", "number", "first", "second", "prices", "base", "below", "k", "price"] ["d", "places"] (defScope s_law_least) := ⟨rfl, rfl, rfl, by decide +kernel, rfl, by decide +kernel, by decide +kernel⟩
theorem walk_revL {K : PySem.W.Frag} {a : Addr} {xs : List V} : Walk (Itv K a xs.length) xs.length (fun H => SqL K H a xs) (fun i H x H' => H' = H ∧ xs[xs.length - 1 - i]? = some x) :=
  ⟨fun i _ hi q => ⟨hi, xs, xs[xs.length - 1 - i]'(by omega), q, by simp [show xs.length - 1 - i < xs.length by omega]⟩, fun _ _ => Nat.le_refl _, fun _ _ _ _ _ q y => ⟨y.1, y.2 xs q⟩⟩
theorem nats_list {B : Nat} : ∀ {ys : List V}, (∀ y ∈ ys, ∃ n : Nat, y = nV n ∧ n ≤ B) → ∃ ns : List Nat, ys = nL ns ∧ ∀ n ∈ ns, n ≤ B
  | [], _ => ⟨[], rfl, fun _ h => nomatch h⟩
  | y :: ys, h => by
    obtain ⟨ns, e, hb⟩ := nats_list fun z hz => h z (List.mem_cons_of_mem _ hz)
    obtain ⟨n, en, hn⟩ := h y List.mem_cons_self
    refine ⟨n :: ns, by rw [en, e]; rfl, fun m hm => ?_⟩
    rcases List.mem_cons.mp hm with z | z
    · rw [z]; exact hn
    · exact hb m z
theorem pr_mem {α β : Type} {F : α → β → Prop} : ∀ {ys : List α} {l : List β}, Paired F ys l → ∀ y ∈ ys, ∃ j ∈ l, F y j
  | _, _, .nil, _, h => nomatch h
  | _, _, .cons r t, y, h => by
    rcases List.mem_cons.mp h with z | z
    · exact ⟨_, List.mem_cons_self, z ▸ r⟩
    · obtain ⟨j, h1, h2⟩ := pr_mem t y z
      exact ⟨j, List.mem_cons_of_mem _ h1, h2⟩
theorem nL_set (ks : List Nat) (i n : Nat) : (nL ks).set i (nV n) = nL (ks.set i n) := by
  show (ks.map nV).set i (nV n) = (ks.set i n).map nV
  rw [List.map_set]
theorem pL_set (ps : List (Option Nat)) (i : Nat) (o : Option Nat) : (ps.map pV).set i (pV o) = (ps.set i o).map pV := by rw [List.map_set]
theorem rep_one {α : Type} (n : Nat) (x : α) : (List.replicate n [x]).flatten = List.replicate n x := List.flatten_replicate_singleton
theorem getD_set {α : Type} (xs : List α) (i j : Nat) (x d : α) : (xs.set i x).getD j d = if i = j ∧ j < xs.length then x else xs.getD j d := by
  rw [List.getD_eq_getElem?_getD, List.getElem?_set, List.getD_eq_getElem?_getD]
  by_cases h : i = j
  · rw [if_pos h]
    subst h
    by_cases hl : i < xs.length
    · rw [if_pos hl, if_pos ⟨rfl, hl⟩]
      rfl
    · rw [if_neg hl, if_neg (fun z => hl z.2), List.getElem?_eq_none (by omega)]
  · rw [if_neg h, if_neg (fun z => h z.1)]
section
variable {P : Program} {w : World} {K : PySem.W.Frag} {mg : Str → Option Value} {base : Heap}
/-- the marks that the law keeps while it closes a lot of rows -/
def KeptI (H0 : Hp) (d c W n : Nat) (H : Hp) : Prop := ∃ ks : List Nat, H W = some (.lst (nL ks)) ∧ ks.length = n ∧ (∃ i : Nat, ks[i]? = some 1) ∧ Dr H d c ∧ Kp d H0 H
theorem KeptI.put {H0 H : Hp} {d c W n i : Nat} {ks : List Nat} (hi : i < n) (hW : H W = some (.lst (nL ks))) (hl : ks.length = n) (D : Dr H d c) (kp : Kp d H0 H) (hW0 : H0 W = none) (nd : W ≠ d) (nc : W ≠ c) : KeptI H0 d c W n (upd H W (.lst ((nL ks).set i (nV 1)))) := by
  refine ⟨ks.set i 1, by rw [upd_same, nL_set], by rw [List.length_set]; exact hl, ⟨i, List.getElem?_set_self (by omega)⟩, D.put nd nc, kp.new hW0⟩
theorem c_law_least (D : FnAt K mg "_law_least" s_law_least) (T : Bl mg) (c_law_draw : Cal P w K mg base 1 "_law_draw" spDraw []) : Cal P w K mg base 2 "_law_least" (spMk K) [] := by
  refine calOf D sc_law_least (fun _ _ _ _ _ _ us hl => match us, hl with | [_, _], _ => rfl) (fun vs H Q E h => ?_) (fun f cdv A outer s H vs Q E hr h => ?_)
  · obtain ⟨d, c, pl, rfl, _⟩ := h
    rfl
  · obtain ⟨d, c, pl, rfl, D, h1, h4, k⟩ := h
    have nd := sc_law_least.nd
    have p16 : 2 ^ pl ≤ 2 ^ 4 := Nat.pow_le_pow_right (by decide) h4
    have p0 := Nat.two_pow_pos pl
    refine ⟨_, (pss_cons (ps_set (i := 2) nd rfl (by first | exact Or.inl rfl | exact Or.inr rfl) (pe_op op_shlNN pe_int (pv 1)))
      (pss_cons (ps_setLc (i := 3) (own := [("number", 4)]) (g := gName 4) (tt := tYes) rfl nd rfl rfl (sw_true rfl rfl rfl (by decide +kernel)) (pi_range1 (by rfl) T.b_range (pa_cons (pv 2) pa_nil)) (blkOk_by (N := ["d", "places", "size", "kept", "number", "first", "second", "prices", "base", "below", "k", "price"]) (sc := defScope s_law_least) (own := [("number", 4)]) (by decide +kernel)) (fun _ _ _ _ _ => (pg_name (i := 4) nd rfl (by first | exact Or.inl rfl | exact Or.inr rfl))) (fun _ _ _ _ _ => pts_nil) (fun _ _ _ _ _ => (pe_callTy call_int1 (by rfl) T.b_int (by decide +kernel) (pa_cons (pe_cmpR op_lt (pe_c c_law_draw hr (by decide) (by rfl) (pa_cons (pv 0) (pa_cons pe_int pa_nil))) pe_int (nomark _)) pa_nil))))
      (pss_cons (ps_asg pe_int (pg_sub (pv 3) (pe_c c_law_draw hr (by decide) (by rfl) (pa_cons (pv 0) (pa_cons (pv 2) pa_nil))) set_list))
      (pss_cons (ps_for PassesOwn.never rfl (pi_range1 (by rfl) T.b_range (pa_cons (pv 2) pa_nil)) (pg_name (i := 5) nd rfl (by first | exact Or.inl rfl | exact Or.inr rfl))
        (pss_one (ps_for PassesOwn.never rfl (pi_range1 (by rfl) T.b_range (pa_cons (pv 2) pa_nil)) (pg_name (i := 6) nd rfl (by first | exact Or.inl rfl | exact Or.inr rfl))
          (pss_one (ps_if (PW.pt (pw_and (pt_cmpR op_eq (pe_ix (ixL K) (pv 3) (pv 5) (fun _ _ => rfl)) pe_int (nomark _)) (pw_and1 (pt_cmpR op_eq (pe_ix (ixL K) (pv 3) (pv 6) (fun _ _ => rfl)) pe_int (nomark _)))))
            (pss_one (ps_asg pe_int (pg_sub (pv 3) (pe_op op_andN (pv 5) (pv 6)) set_list)))
            pss_nil)))))
      (pss_cons (ps_for PassesOwn.never rfl (RT.pi_revA (by rfl) T.b_reversed (pe_listRg rfl (by rfl) T.b_list (prg_1 (by rfl) T.b_range (pv 2)))) (pg_name (i := 5) nd rfl (by first | exact Or.inl rfl | exact Or.inr rfl))
        (pss_one (ps_for PassesOwn.never rfl (pi_range1 (by rfl) T.b_range (pa_cons (pv 2) pa_nil)) (pg_name (i := 6) nd rfl (by first | exact Or.inl rfl | exact Or.inr rfl))
          (pss_one (ps_if (PW.pt (pw_and (pt_cmpR op_eq (pe_ix (ixL K) (pv 3) (pv 5) (fun _ _ => rfl)) pe_int (nomark _)) (pw_and1 (pt_cmpR op_eq (pe_ix (ixL K) (pv 3) (pv 6) (fun _ _ => rfl)) pe_int (nomark _)))))
            (pss_one (ps_asg pe_int (pg_sub (pv 3) (pe_op op_andN (pv 5) (pv 6)) set_list)))
            pss_nil)))))
      (pss_cons (ps_set (i := 7) nd rfl (by first | exact Or.inl rfl | exact Or.inr rfl) (pe_op op_rep (pe_lst (pa_cons pe_non pa_nil)) (pv 2)))
      (pss_cons (ps_set (i := 8) nd rfl (by first | exact Or.inl rfl | exact Or.inr rfl) (pe_c c_law_draw hr (by decide) (by rfl) (pa_cons (pv 0) (pa_cons pe_int pa_nil))))
      (pss_cons (ps_for PassesOwn.never rfl (pi_range1 (by rfl) T.b_range (pa_cons (pv 2) pa_nil)) (pg_name (i := 4) nd rfl (by first | exact Or.inl rfl | exact Or.inr rfl))
        (pss_one (ps_if (pt_cmpR op_eq (pe_ix (ixL K) (pv 3) (pv 4) (fun _ _ => rfl)) pe_int (nomark _))
          (pss_cons (ps_setLc (i := 9) (own := [("k", 10)]) (g := gName 10) rfl nd rfl rfl (sw_true rfl rfl rfl (by decide +kernel)) (pi_range1 (by rfl) T.b_range (pa_cons (pv 4) pa_nil)) (blkOk_by (N := ["d", "places", "size", "kept", "number", "first", "second", "prices", "base", "below", "k", "price"]) (sc := defScope s_law_least) (own := [("k", 10)]) (by decide +kernel)) (fun _ _ _ _ _ => (pg_name (i := 10) nd rfl (by first | exact Or.inl rfl | exact Or.inr rfl))) (fun _ _ _ _ _ => (pts_one (pt_cmpR op_eq (pe_op op_andN (pv 10) (pv 4)) (pv 10) (nomark _)))) (fun _ _ _ _ _ => (pe_ix (ixL K) (pv 7) (pv 10) (fun _ _ => rfl))))
          (pss_cons (ps_setLc (i := 9) (own := [("price", 11)]) (g := gName 11) rfl nd rfl rfl (sw_true rfl rfl rfl (by decide +kernel)) (piList K (pv 9)) (blkOk_by (N := ["d", "places", "size", "kept", "number", "first", "second", "prices", "base", "below", "k", "price"]) (sc := defScope s_law_least) (own := [("price", 11)]) (by decide +kernel)) (fun _ _ _ _ _ => (pg_name (i := 11) nd rfl (by first | exact Or.inl rfl | exact Or.inr rfl))) (fun _ _ _ _ _ => (pts_one (pt_cmpR op_notN (pv 11) pe_non (nomark _)))) (fun _ _ _ _ _ => (pv 11)))
          (pss_one (ps_asg (pe_op op_add (pe_callB (crMax K) (by rfl) T.b_max (by decide +kernel) (pa_cons (pe_op op_cat (pe_lst (pa_cons (pv 8) pa_nil)) (pv 9)) pa_nil)) (pe_op op_mulNN (pe_c c_law_draw hr (by decide) (by rfl) (pa_cons (pv 0) (pa_cons pe_int pa_nil))) (pe_c c_law_draw hr (by decide) (by rfl) (pa_cons (pv 0) (pa_cons pe_int pa_nil))))) (pg_sub (pv 7) (pv 4) set_list)))))
          pss_nil)))
      (pss_one (ps_ret (pe_tup (pa_cons (pv 1) (pa_cons (pe_callTy (crTup K) (by rfl) T.b_tuple (by decide +kernel) (pa_cons (pv 7) pa_nil)) pa_nil))))))))))))), ?_⟩
    refine ⟨_, rfl, 1, pl, rfl, rfl, ⟨by omega, by decide⟩, ?_⟩
    obtain ⟨n, hn⟩ : ∃ n, 2 ^ pl = n := ⟨_, rfl⟩
    rw [hn] at p16 p0
    dsimp only
    rw [Nat.one_mul, hn]
    refine ⟨_, rfl, _, rfl, by omega, by omega, ?_⟩
    rw [Int.toNat_natCast]
    intro W hW
    obtain ⟨nWd, nWc⟩ := D.ne hW
    refine lc_range (lo := 0) (n := n) (fun j H3 => ∃ ks : List Nat, H3 W = some (.lst (nL ks)) ∧ ks.length = j ∧ Dr H3 d c ∧ Kp d H H3) ⟨[], upd_same, rfl, D.put nWd nWc, (Kp.refl d H).new hW⟩ ?_ ?_
    · rintro j H3 hj ⟨ks, g1, nl, D3, kp3⟩
      refine ⟨rfl, ?_⟩
      refine ⟨_, rfl, d, c, 8, rfl, D3, by decide, by decide, fun m H4 hm D4 kp4 => ⟨m, 5, rfl, rfl, .inr ⟨_, rfl, ?_⟩⟩⟩
      obtain ⟨x, ex⟩ : ∃ x : Nat, V.int (if decide ((m : Int) < 5) = true then 1 else 0) = nV x := by
        by_cases z : (m : Int) < 5
        · exact ⟨1, by rw [decide_eq_true z]; rfl⟩
        · exact ⟨0, by rw [decide_eq_false z]; rfl⟩
      refine ⟨_, kp4 _ _ g1 nWd, Nat.lt_of_le_of_lt (show (nL ks).length ≤ 16 by rw [List.length_map]; omega) (by decide), ks ++ [x], ?_, by rw [List.length_append, nl]; rfl, D4.put nWd nWc, (kp3.trans kp4).new hW⟩
      rw [upd_same, nL_snoc, ← ex]
    rintro H3 ⟨ks, g1, nl, D3, kp3⟩
    -- one mark at least
    refine ⟨_, rfl, _, rfl, _, rfl, d, c, (n : Int), rfl, D3, by omega, by omega, fun t H4 ht D4 kp4 => ?_⟩
    refine ⟨W, _, (t : Int), t, rfl, rfl, kp4 _ _ g1 nWd, ixN_lt (by rw [List.length_map]; omega), ?_⟩
    have I0 := KeptI.put (n := n) (i := t) (by omega) (kp4 _ _ g1 nWd) nl D4 (kp3.trans kp4) hW nWd nWc
    revert I0
    generalize upd H4 W (.lst ((nL ks).set t (nV 1))) = H5
    intro I0
    have put2 : ∀ {i1 i2 : Nat} {HH : Hp} {ls : List Nat}, i1 < n → HH W = some (.lst (nL ls)) → ls.length = n → Dr HH d c → Kp d H HH → KeptI H d c W n (upd HH W (.lst ((nL ls).set (i1 &&& i2) (nV 1)))) := fun {i1 i2 HH ls} hi g l DD kk => KeptI.put (Nat.lt_of_le_of_lt Nat.and_le_left hi) g l DD kk hW nWd nWc
    refine ⟨_, rfl, _, rfl, by omega, by omega, ?_⟩
    rw [Int.toNat_natCast]
    refine for_range (lo := 0) (n := n) (fun _ σ' H' => ∃ c5 c6 : Option V, σ' = [some (.ref d), some (nV pl), some (nV n), some (.ref W), none, c5, c6, none, none, none, none, none] ∧ KeptI H d c W n H') ⟨none, none, rfl, I0⟩ ?_ ?_
    · rintro i σ' H6 hi ⟨c5, c6, rfl, I1⟩
      rw [Int.zero_add]
      refine ⟨_, rfl, _, rfl, by omega, by omega, ?_⟩
      rw [Int.toNat_natCast]
      refine for_range (lo := 0) (n := n) (fun _ σ' H' => ∃ c6 : Option V, σ' = [some (.ref d), some (nV pl), some (nV n), some (.ref W), none, some (nV i), c6, none, none, none, none, none] ∧ KeptI H d c W n H') ⟨c6, rfl, I1⟩ ?_ ?_
      · rintro j σ' H7 hj ⟨c6, rfl, I2⟩
        rw [Int.zero_add]
        obtain ⟨ls, gl, ll, ex, DD, kk⟩ := id I2
        refine ⟨_, rfl, _, rfl, W, _, (i : Int), _, rfl, rfl, SqL.of gl, nL_atI (by omega), rfl, _, rfl, ite2 (fun _ => ?_) (fun _ => ⟨_, rfl, I2⟩)⟩
        refine ⟨_, rfl, _, rfl, W, _, (j : Int), _, rfl, rfl, SqL.of gl, nL_atI (by omega), rfl, _, rfl, ite2 (fun _ => ?_) (fun _ => ⟨_, rfl, I2⟩)⟩
        exact ⟨_, rfl, _, rfl, _, rfl, i, j, rfl, rfl, W, _, ((i &&& j : Nat) : Int), i &&& j, rfl, rfl, gl, ixN_lt (by rw [List.length_map, ll]; exact Nat.lt_of_le_of_lt Nat.and_le_left hi), _, rfl, put2 hi gl ll DD kk⟩
      · rintro σ' H7 ⟨c6, rfl, I2⟩
        exact ⟨_, _, rfl, I2⟩
    rintro σ' H6 ⟨c5, c6, rfl, I1⟩
    refine ⟨_, rfl, (n : Int), rfl, RgOk.of_le (by decide) (by omega) (by decide) (by omega), fun q hq => ⟨q, _, rfl, .inl ⟨SqL.of upd_same, ?_⟩⟩⟩
    have I2 : KeptI H d c W n (upd H6 q (.lst (rgV 0 n))) := by
      obtain ⟨ls, gl, ll, ex, DD, kk⟩ := I1
      exact ⟨ls, same_new hq _ _ gl, ll, ex, DD.keep (same_new hq), kk.trans (Kp.of (same_new hq))⟩
    have gq : (upd H6 q (.lst (rgV 0 n))) q = some (.lst (rgV 0 n)) := upd_same
    have nqW : q ≠ W := fun z => by
      obtain ⟨ls, gl, _⟩ := I1
      rw [← z, hq] at gl
      cases gl
    have nqd : q ≠ d := by
      obtain ⟨_, _, _, _, DD, _⟩ := I1
      exact (DD.ne hq).1
    revert I2 gq
    generalize upd H6 q (.lst (rgV 0 n)) = H6b
    intro I2 gq
    have rl : (rgV 0 n).length = n := by rw [rgV_length]; omega
    refine for_it walk_revL (fun _ σ' H' => ∃ c5 c6 : Option V, σ' = [some (.ref d), some (nV pl), some (nV n), some (.ref W), none, c5, c6, none, none, none, none, none] ∧ KeptI H d c W n H' ∧ H' q = some (.lst (rgV 0 n))) ⟨c5, c6, rfl, I2, gq⟩ (fun _ _ _ _ ⟨_, _, _, _, g⟩ => SqL.of g) ?_ ?_
    · rintro i0 x σ' H7 H8 hi0 ⟨c5, c6, rfl, I3, g3⟩ ⟨rfl, hx⟩
      obtain ⟨i, hi, rfl⟩ : ∃ i, i < n ∧ x = nV i := by
        rw [rl] at hx hi0
        unfold rgV at hx
        rw [List.getElem?_map, List.getElem?_range (by omega)] at hx
        refine ⟨n - 1 - i0, by omega, ?_⟩
        have := Option.some.inj hx
        rw [← this]
        show V.int (0 + ((n - 1 - i0 : Nat) : Int)) = _
        rw [Int.zero_add]
      refine ⟨_, rfl, _, rfl, by omega, by omega, ?_⟩
      rw [Int.toNat_natCast]
      refine for_range (lo := 0) (n := n) (fun _ σ' H' => ∃ c6 : Option V, σ' = [some (.ref d), some (nV pl), some (nV n), some (.ref W), none, some (nV i), c6, none, none, none, none, none] ∧ KeptI H d c W n H' ∧ H' q = some (.lst (rgV 0 n))) ⟨c6, rfl, I3, g3⟩ ?_ ?_
      · rintro j σ' H7 hj ⟨c6, rfl, I2, g2⟩
        rw [Int.zero_add]
        obtain ⟨ls, gl, ll, ex, DD, kk⟩ := id I2
        refine ⟨_, rfl, _, rfl, W, _, (i : Int), _, rfl, rfl, SqL.of gl, nL_atI (by omega), rfl, _, rfl, ite2 (fun _ => ?_) (fun _ => ⟨_, rfl, I2, g2⟩)⟩
        refine ⟨_, rfl, _, rfl, W, _, (j : Int), _, rfl, rfl, SqL.of gl, nL_atI (by omega), rfl, _, rfl, ite2 (fun _ => ?_) (fun _ => ⟨_, rfl, I2, g2⟩)⟩
        exact ⟨_, rfl, _, rfl, _, rfl, i, j, rfl, rfl, W, _, ((i &&& j : Nat) : Int), i &&& j, rfl, rfl, gl, ixN_lt (by rw [List.length_map, ll]; exact Nat.lt_of_le_of_lt Nat.and_le_left hi), _, rfl, put2 hi gl ll DD kk, by rw [upd_ne nqW]; exact g2⟩
      · rintro σ' H7 ⟨c6, rfl, I2, g2⟩
        exact ⟨_, _, rfl, I2, g2⟩
    rintro σ' H7 ⟨c5, c6, rfl, ⟨ks, gk, lk, ⟨t0, ht0⟩, D7, kp7⟩, _⟩
    -- the prices
    refine ⟨by show 1 ≤ sizeLine; decide, fun q1 hq1 => ⟨_, rfl, q1, (n : Int), [.non], rfl, rfl, upd_same, by omega, by omega, ?_, fun p hp => ?_⟩⟩
    · rw [Int.toNat_natCast]
      exact lt_line (by show 1 * n ≤ _; omega)
    rw [Int.toNat_natCast, rep_one]
    have s8 : Same H7 (upd (upd H7 q1 (.lst [.non])) p (.lst (List.replicate n .non))) := (same_new hq1).trans (same_new hp)
    have g8 : (upd (upd H7 q1 (.lst [.non])) p (.lst (List.replicate n .non))) p = some (.lst ((List.replicate n (none : Option Nat)).map pV)) := by rw [upd_same, List.map_replicate]; rfl
    have hp7 : H7 p = none := (same_new hq1).free hp
    revert s8 g8
    generalize upd (upd H7 q1 (.lst [.non])) p (.lst (List.replicate n .non)) = H8
    intro s8 g8
    have D8 := D7.keep s8
    obtain ⟨npd, npc⟩ := D7.ne hp7
    have npW : p ≠ W := fun z => by rw [← z, hp7] at gk; cases gk
    have hp0 : H p = none := kp_none kp7 hp7 npd
    refine ⟨_, rfl, d, c, 4, rfl, D8, by decide, by decide, fun b0 H9 hb0 D9 kp9 => ?_⟩
    refine ⟨_, rfl, _, rfl, by omega, by omega, ?_⟩
    rw [Int.toNat_natCast]
    refine for_range (lo := 0) (n := n) (fun i σ' H' => ∃ (c4 c9 : Option V) (ps : List (Option Nat)), σ' = [some (.ref d), some (nV pl), some (nV n), some (.ref W), c4, c5, c6, some (.ref p), some (nV b0), c9, none, none] ∧ H' p = some (.lst (ps.map pV)) ∧ ps.length = n ∧ H' W = some (.lst (nL ks)) ∧
        (∀ j m, ps.getD j none = some m → m ≤ 3 + 6 * (j + 1)) ∧ (∀ j, j < i → ks.getD j 0 = 1 → (ps.getD j none).isSome = true) ∧ Dr H' d c ∧ Kp d H H')
      ⟨none, none, List.replicate n none, rfl, kp9 _ _ g8 npd, List.length_replicate, kp9 _ _ (s8 _ _ gk) nWd, fun j m e => (by
        rw [List.getD_eq_getElem?_getD, List.getElem?_replicate] at e
        split at e <;> cases e), fun j hj => absurd hj (Nat.not_lt_zero j), D9, (kp7.trans (Kp.of s8)).trans kp9⟩ ?_ ?_
    · rintro i σ' HA hi ⟨c4, c9, ps, rfl, gp, lp, gW, le, som, DA, kpA⟩
      rw [Int.zero_add]
      refine ⟨_, rfl, _, rfl, W, _, (i : Int), _, rfl, rfl, SqL.of gW, nL_atI (by omega), rfl, _, rfl, ite2 (fun _ => ?_) (fun hno => ?_)⟩
      rotate_left
      · refine ⟨_, _, ps, rfl, gp, lp, gW, le, fun j hj hk => ?_, DA, kpA⟩
        rcases Nat.lt_succ_iff_lt_or_eq.mp hj with z | z
        · exact som j z hk
        · exact absurd (decide_eq_true (by rw [← z, hk]; rfl)) hno
      refine ⟨_, rfl, _, rfl, by omega, by omega, ?_⟩
      rw [Int.toNat_natCast]
      refine fun B1 hB1 => lc_rangeT (lo := 0) (sel := fun j => decide (nV (j &&& i) = nV j)) (P := fun j y _ => y = pV (ps.getD j none)) ⟨fun _ _ _ _ _ h => h, fun j H2 hj _ R r => ?_, fun j H2 hj _ sm R r => ?_⟩ hB1 (lt_line (by omega)) (fun HB xs smB hxs lxs prx => ?_)
      · rw [Int.zero_add]
        exact ⟨_, rfl, _, rfl, j, i, rfl, rfl, _, rfl, rfl, _, rfl, r H2 (Same.refl H2)⟩
      · rw [Int.zero_add]
        exact ⟨_, rfl, _, rfl, p, _, (j : Int), _, rfl, rfl, SqL.of (sm _ _ gp), pr_at (by omega), r _ H2 (Same.refl H2) rfl⟩
      refine ⟨_, rfl, B1, rfl, ⟨_, SqL.of hxs⟩, fun B2 hB2 => lc_listT (SqL.of hxs) (sel := fun j => !decide (xs.getD j .non = V.non)) (P := fun j y _ => y = xs.getD j .non) ⟨fun _ _ _ _ _ h => h, fun j H2 hj _ R r => ⟨_, rfl, rfl, _, rfl, r H2 (Same.refl H2)⟩, fun j H2 hj _ sm R r => ⟨_, rfl, r _ H2 (Same.refl H2) rfl⟩⟩ hB2 (lt_line (by omega)) (fun HC ys smC hys lys pry => ?_)⟩
      have each : ∀ y ∈ ys, ∃ m : Nat, y = nV m ∧ m ≤ 3 + 6 * i := fun y hy => by
        obtain ⟨j, hj, ey⟩ := pr_mem pry y hy
        obtain ⟨h1, h2⟩ := List.mem_filter.mp hj
        have hjx := List.mem_range.mp h1
        have ym : y ∈ xs := by
          rw [ey, List.getD_eq_getElem?_getD, List.getElem?_eq_getElem hjx]
          exact List.getElem_mem hjx
        obtain ⟨j', hj', ey'⟩ := pr_mem prx y ym
        have hj'' := List.mem_range.mp (List.mem_filter.mp hj').1
        cases e : ps.getD j' none with
        | none =>
          rw [e] at ey'
          rw [← ey, ey'] at h2
          cases h2
        | some m =>
          rw [e] at ey'
          have := le j' m e
          exact ⟨m, ey', by omega⟩
      obtain ⟨ns, rfl, nsB⟩ := nats_list each
      have smBC := smB.trans smC
      have nsl : ns.length ≤ 16 := by
        rw [List.length_map] at lys
        omega
      refine ⟨_, rfl, by show 1 ≤ sizeLine; decide, fun q2 hq2 => ⟨_, rfl, q2, B2, [nV b0], nL ns, rfl, rfl, upd_same, same_new hq2 _ _ hys, lt_line (by rw [List.length_map]; show 1 + ns.length ≤ _; omega), fun q3 hq3 => ?_⟩⟩
      have s10 : Same HA (upd (upd HC q2 (.lst [nV b0])) q3 (.lst ([nV b0] ++ nL ns))) := (smBC.trans (same_new hq2)).trans (same_new hq3)
      have g10 : (upd (upd HC q2 (.lst [nV b0])) q3 (.lst ([nV b0] ++ nL ns))) q3 = some (.lst (nL (b0 :: ns))) := upd_same
      revert s10 g10
      generalize upd (upd HC q2 (.lst [nV b0])) q3 (.lst ([nV b0] ++ nL ns)) = HD
      intro s10 g10
      refine ⟨q3, iL (b0 :: ns), rfl, by rw [← nL_eq]; exact SqL.of g10, by show 0 < ((b0 :: ns).map _).length; rw [List.length_map]; exact Nat.zero_lt_succ _, fun mx hmx _ => ?_⟩
      obtain ⟨mn, hmn, rfl⟩ : ∃ mn : Nat, mn ≤ 3 + 6 * i ∧ mx = (mn : Int) := by
        obtain ⟨x, hx, rfl⟩ := List.mem_map.mp hmx
        refine ⟨x, ?_, rfl⟩
        rcases List.mem_cons.mp hx with z | z
        · rw [z]; omega
        · exact nsB x z
      have DD := DA.keep s10
      refine ⟨_, rfl, d, c, 3, rfl, DD, by decide, by decide, fun a1 HE ha1 DE kpE => ⟨_, rfl, d, c, 4, rfl, DE, by decide, by decide, fun a2 HF ha2 DF kpF => ⟨a1, a2, rfl, rfl, .inl (by omega), _, _, rfl, rfl, ?_⟩⟩⟩
      have gpF : HF p = some (.lst (ps.map pV)) := kpF _ _ (kpE _ _ (s10 _ _ gp) npd) npd
      refine ⟨_, rfl, _, rfl, p, _, (i : Int), i, rfl, rfl, gpF, ixN_lt (by rw [List.length_map]; omega), ?_⟩
      have pr12 : a1 * a2 ≤ 2 * 3 := Nat.mul_le_mul (by omega) (by omega)
      refine ⟨_, _, ps.set i (some (mn + a1 * a2)), rfl, by rw [upd_same, ← pL_set]; rfl, by rw [List.length_set]; exact lp, by rw [upd_ne npW.symm]; exact kpF _ _ (kpE _ _ (s10 _ _ gW) nWd) nWd, fun j m e => ?_, fun j hj hk => ?_, DF.put npd npc, (((kpA.trans (Kp.of s10)).trans kpE).trans kpF).new hp0⟩
      · rw [getD_set] at e
        split at e
        · rename_i hc
          cases e
          omega
        · exact le j m e
      · rw [getD_set]
        split
        · rfl
        · rename_i hc
          rcases Nat.lt_succ_iff_lt_or_eq.mp hj with z | z
          · exact som j z hk
          · exact absurd ⟨z.symm, by omega⟩ hc
    · rintro σ' HA ⟨c4, c9, ps, rfl, gp, lp, gW, le, som, DA, kpA⟩
      have ht := (List.getElem?_eq_some_iff.mp ht0).1
      have k0 : ks.getD t0 0 = 1 := by rw [List.getD_eq_getElem?_getD, ht0]; rfl
      have s0 := som t0 (by omega) k0
      refine ⟨_, rfl, _, rfl, p, _, rfl, .inl ⟨SqL.of gp, fun q hq => ?_⟩⟩
      refine mk_end k ⟨h1, h4, by rw [hn]; exact lp, ⟨ps.getD t0 none, ?_, s0⟩, fun o ho m hm => ?_⟩ DA kpA q hq
      · rw [List.getD_eq_getElem?_getD, List.getElem?_eq_getElem (by omega)]
        exact List.getElem_mem _
      · obtain ⟨j, hj, rfl⟩ := List.getElem_of_mem ho
        have hj : j < ps.length := hj
        have := le j m (by rw [List.getD_eq_getElem?_getD, List.getElem?_eq_getElem hj]; exact hm)
        omega
end
end L2.KK
namespace L2.KK
open PySem PySem.Spec PyProof.Rows C8
theorem sc_law_add_bends : FnScope ["d", "places", "prices", "size", "k", "mask", "cost", "way", "number", "inside", "low", "high"] ["d", "places", "prices"] (defScope s_law_add_bends) := ⟨rfl, rfl, rfl, by decide +kernel, rfl, by decide +kernel, by decide +kernel⟩
/-- prices up to the i-th may have grown by 5 -/
def Bd (ns : List Nat) (i b : Nat) : Prop := ∀ j, j < ns.length → ns.getD j 0 ≤ if j < i then b + 5 else b
theorem Bd.zero {ns : List Nat} {b : Nat} (h : ∀ n ∈ ns, n ≤ b) : Bd ns 0 b := fun j hj => by
  rw [if_neg (Nat.not_lt_zero j), List.getD_eq_getElem?_getD, List.getElem?_eq_getElem hj]
  exact h _ (List.getElem_mem hj)
theorem Bd.skip {ns : List Nat} {i b : Nat} (h : Bd ns i b) : Bd ns (i + 1) b := fun j hj => by
  have := h j hj
  split at this <;> split <;> omega
theorem Bd.add {ns : List Nat} {i b c : Nat} (h : Bd ns i b) (hi : i < ns.length) (hc : c ≤ 5) : Bd (ns.set i (ns.getD i 0 + c)) (i + 1) b := fun j hj => by
  rw [List.length_set] at hj
  rw [getD_set]
  have h1 := h j hj
  have h2 := h i hi
  rw [if_neg (Nat.lt_irrefl i)] at h2
  split
  · split <;> omega
  · split at h1 <;> split <;> omega
theorem Bd.done {ns : List Nat} {b : Nat} (h : Bd ns ns.length b) : ∀ n ∈ ns, n ≤ b + 5 := fun n hn => by
  obtain ⟨j, hj, rfl⟩ := List.getElem_of_mem hn
  have := h j hj
  rw [if_pos hj, List.getD_eq_getElem?_getD, List.getElem?_eq_getElem hj] at this
  exact this
section
variable {P : Program} {w : World} {K : PySem.W.Frag} {mg : Str → Option Value} {base : Heap}
def spBends : Sp := fun vs H Q _ => ∃ (d c a : Addr) (pl B : Nat) (ns : List Nat), vs = [.ref d, nV pl, .ref a] ∧ Dr H d c ∧ H a = some (.lst (nL ns)) ∧ a ≠ d ∧ a ≠ c ∧ 1 ≤ ns.length ∧ ns.length ≤ 16 ∧ 1 ≤ pl ∧ pl ≤ 4 ∧ (∀ n ∈ ns, n ≤ B) ∧
  ∀ ns' H', ns'.length = ns.length → (∀ n ∈ ns', n ≤ B + 35) → Dr H' d c → H' a = some (.lst (nL ns')) → (∀ b o, H b = some o → b ≠ d → b ≠ a → H' b = some o) → Q (.ref a) H'
/-- what the loops over the prices keep -/
def BendI (H0 : Hp) (d c a n i b : Nat) (H : Hp) : Prop := ∃ ns : List Nat, H a = some (.lst (nL ns)) ∧ ns.length = n ∧ Bd ns i b ∧ Dr H d c ∧ ∀ x o, H0 x = some o → x ≠ d → x ≠ a → H x = some o
theorem BendI.skip {H0 H : Hp} {d c a n i b : Nat} (h : BendI H0 d c a n i b H) : BendI H0 d c a n (i + 1) b H := by
  obtain ⟨ns, h1, h2, h3, h4⟩ := h
  exact ⟨ns, h1, h2, h3.skip, h4⟩
theorem BendI.draw {H0 H H' : Hp} {d c a n i b : Nat} (h : BendI H0 d c a n i b H) (ne : a ≠ d) (D : Dr H' d c) (k : Kp d H H') : BendI H0 d c a n i b H' := by
  obtain ⟨ns, h1, h2, h3, h4, h5⟩ := h
  exact ⟨ns, k _ _ h1 ne, h2, h3, D, fun x o e n1 n2 => k _ _ (h5 x o e n1 n2) n1⟩
theorem BendI.next {H0 H : Hp} {d c a n b : Nat} (h : BendI H0 d c a n n b H) : BendI H0 d c a n 0 (b + 5) H := by
  obtain ⟨ns, h1, rfl, h3, h4⟩ := h
  exact ⟨ns, h1, rfl, .zero h3.done, h4⟩
theorem c_law_add_bends (D : FnAt K mg "_law_add_bends" s_law_add_bends) (T : Bl mg) (c_law_draw : Cal P w K mg base 1 "_law_draw" spDraw []) : Cal P w K mg base 2 "_law_add_bends" spBends [] := by
  refine calOf D sc_law_add_bends (fun _ _ _ _ _ _ us hl => match us, hl with | [_, _, _], _ => rfl) (fun vs H Q E h => ?_) (fun f cdv A outer s H vs Q E hr h => ?_)
  · obtain ⟨d, c, a, pl, B, ns, rfl, _⟩ := h
    rfl
  · obtain ⟨d, c, a, pl, B, ns, rfl, D, ha, nad, nac, l1, l16, h1, h4, hB, k⟩ := h
    have nd := sc_law_add_bends.nd
    refine ⟨_, (pss_cons (ps_set (i := 3) nd rfl (by first | exact Or.inl rfl | exact Or.inr rfl) (pe_callB (crLen K) (by rfl) T.b_len (by decide +kernel) (pa_cons (pv 2) pa_nil)))
      (pss_cons (ps_for PassesOwn.never rfl (pi_range1 (by rfl) T.b_range (pa_cons (pe_c c_law_draw hr (by decide) (by rfl) (pa_cons (pv 0) (pa_cons pe_int pa_nil))) pa_nil)) (pg_name (i := 4) nd rfl (by first | exact Or.inl rfl | exact Or.inr rfl))
        (pss_cons (ps_set (i := 5) nd rfl (by first | exact Or.inl rfl | exact Or.inr rfl) (pe_c c_law_draw hr (by decide) (by rfl) (pa_cons (pv 0) (pa_cons (pv 3) pa_nil))))
        (pss_cons (ps_set (i := 6) nd rfl (by first | exact Or.inl rfl | exact Or.inr rfl) (pe_c c_law_draw hr (by decide) (by rfl) (pa_cons (pv 0) (pa_cons pe_int pa_nil))))
        (pss_cons (ps_set (i := 7) nd rfl (by first | exact Or.inl rfl | exact Or.inr rfl) (pe_c c_law_draw hr (by decide) (by rfl) (pa_cons (pv 0) (pa_cons pe_int pa_nil))))
        (pss_one (ps_for PassesOwn.never rfl (pi_range1 (by rfl) T.b_range (pa_cons (pv 3) pa_nil)) (pg_name (i := 8) nd rfl (by first | exact Or.inl rfl | exact Or.inr rfl))
          (pss_cons (ps_set (i := 9) nd rfl (by first | exact Or.inl rfl | exact Or.inr rfl) (pe_op op_andN (pv 8) (pv 5)))
          (pss_one (ps_if (PW.pt (pw_or (PW.pt (pw_and (pt_cmpR op_eq (pv 7) pe_int (nomark _)) (pw_and1 (pt_cmpR op_ne (pv 9) (pv 5) (nomark _))))) (pw_or1 (PW.pt (pw_and (pt_cmpR op_eq (pv 7) pe_int (nomark _)) (pw_and1 (pt_cmpR op_ne (pv 9) pe_int (nomark _))))))))
            (pss_one (ps_augS (pv 2) (pv 8) (getL K) (pv 6) ip_add set_list))
            pss_nil)))))))))
      (pss_cons (ps_for PassesOwn.never rfl (pi_range1 (by rfl) T.b_range (pa_cons (pe_c c_law_draw hr (by decide) (by rfl) (pa_cons (pv 0) (pa_cons pe_int pa_nil))) pa_nil)) (pg_name (i := 4) nd rfl (by first | exact Or.inl rfl | exact Or.inr rfl))
        (pss_cons (ps_set (i := 10) nd rfl (by first | exact Or.inl rfl | exact Or.inr rfl) (pe_op op_shlNN pe_int (pe_c c_law_draw hr (by decide) (by rfl) (pa_cons (pv 0) (pa_cons (pv 1) pa_nil)))))
        (pss_cons (ps_set (i := 11) nd rfl (by first | exact Or.inl rfl | exact Or.inr rfl) (pe_op op_shlNN pe_int (pe_c c_law_draw hr (by decide) (by rfl) (pa_cons (pv 0) (pa_cons (pv 1) pa_nil)))))
        (pss_cons (ps_set (i := 6) nd rfl (by first | exact Or.inl rfl | exact Or.inr rfl) (pe_c c_law_draw hr (by decide) (by rfl) (pa_cons (pv 0) (pa_cons pe_int pa_nil))))
        (pss_one (ps_for PassesOwn.never rfl (pi_range1 (by rfl) T.b_range (pa_cons (pv 3) pa_nil)) (pg_name (i := 8) nd rfl (by first | exact Or.inl rfl | exact Or.inr rfl))
          (pss_one (ps_if (PW.pt (pw_and (pt_cmpR op_gt (pe_op op_andN (pv 8) (pv 10)) pe_int (nomark _)) (pw_and1 (pt_cmpR op_eq (pe_op op_andN (pv 8) (pv 11)) pe_int (nomark _)))))
            (pss_one (ps_augS (pv 2) (pv 8) (getL K) (pv 6) ip_add set_list))
            pss_nil))))))))
      (pss_one (ps_ret (pv 2)))))), ?_⟩
    refine ⟨_, rfl, a, _, rfl, .inl (SqL.of ha), ?_⟩
    obtain ⟨n, hn⟩ : ∃ n, ns.length = n := ⟨_, rfl⟩
    dsimp only
    rw [List.length_map, hn]
    rw [hn] at l1 l16
    have I0 : BendI H d c a n 0 B H := ⟨ns, ha, hn, .zero hB, D, fun x o e _ _ => e⟩
    -- one number's price grows
    have inc : ∀ {i b co : Nat} {HH : Hp}, i < n → co ≤ 5 → BendI H d c a n i b HH → ∃ xs v, HH a = some (.lst xs) ∧ xs[i]? = some (nV v) ∧ ixN xs.length (i : Int) = some i ∧ BendI H d c a n (i + 1) b (upd HH a (.lst (xs.set i (nV (v + co))))) := fun {i b co HH} hi hc I => by
      obtain ⟨ls, g1, g2, g3, g4, g5⟩ := I
      refine ⟨nL ls, ls.getD i 0, g1, ?_, ixN_lt (by rw [List.length_map]; omega), ls.set i (ls.getD i 0 + co), by rw [upd_same, nL_set], by rw [List.length_set]; exact g2, g3.add (by omega) hc, g4.put nad nac, fun x o e n1 n2 => by rw [upd_ne n2]; exact g5 x o e n1 n2⟩
      rw [nL_get (by omega), List.getD_eq_getElem?_getD, List.getElem?_eq_getElem (by omega)]
      rfl
    refine ⟨_, rfl, d, c, 4, rfl, D, by decide, by decide, fun m1 H1 hm1 D1 kp1 => ⟨_, rfl, by omega, by omega, ?_⟩⟩
    rw [Int.toNat_natCast]
    refine for_range (lo := 0) (n := m1) (fun i σ' H' => ∃ c4 c5 c6 c7 c8 c9 : Option V, σ' = [some (.ref d), some (nV pl), some (.ref a), some (nV n), c4, c5, c6, c7, c8, c9, none, none] ∧ BendI H d c a n 0 (B + 5 * i) H') ⟨none, none, none, none, none, none, rfl, I0.draw nad D1 kp1⟩ ?_ ?_
    · rintro i σ' H2 hi ⟨c4, c5, c6, c7, c8, c9, rfl, I2⟩
      have D2 : Dr H2 d c := by obtain ⟨_, _, _, _, D2, _⟩ := I2; exact D2
      refine ⟨_, rfl, _, rfl, d, c, (n : Int), rfl, D2, by omega, by omega, fun mask H3 _ D3 kp3 => ?_⟩
      refine ⟨_, rfl, d, c, 6, rfl, D3, by decide, by decide, fun co H4 hco D4 kp4 => ?_⟩
      refine ⟨_, rfl, d, c, 2, rfl, D4, by decide, by decide, fun way H5 _ D5 kp5 => ?_⟩
      have I5 := ((I2.draw nad D3 kp3).draw nad D4 kp4).draw nad D5 kp5
      refine ⟨_, rfl, _, rfl, by omega, by omega, ?_⟩
      rw [Int.toNat_natCast]
      refine for_range (lo := 0) (n := n) (fun j σ' H' => ∃ c8 c9 : Option V, σ' = [some (.ref d), some (nV pl), some (.ref a), some (nV n), some (.int (0 + (i : Int))), some (nV mask), some (nV co), some (nV way), c8, c9, none, none] ∧ BendI H d c a n j (B + 5 * i) H') ⟨c8, c9, rfl, I5⟩ ?_ ?_
      · rintro j σ' H6 hj ⟨c8, c9, rfl, I6⟩
        rw [Int.zero_add (j : Int)]
        refine ⟨_, rfl, _, rfl, j, mask, rfl, rfl, ?_⟩
        obtain ⟨xs, v, g1, g2, g3, g4⟩ := inc hj (show co ≤ 5 by omega) I6
        have y1 : ∃ c8 c9 : Option V, [some (.ref d), some (nV pl), some (.ref a), some (nV n), some (.int (0 + (i : Int))), some (nV mask), some (nV co), some (nV way), some (nV j), some (nV (j &&& mask)), none, none] = [some (.ref d), some (nV pl), some (.ref a), some (nV n), some (.int (0 + (i : Int))), some (nV mask), some (nV co), some (nV way), c8, c9, none, none] ∧ BendI H d c a n (j + 1) (B + 5 * i) H6 := ⟨_, _, rfl, I6.skip⟩
        refine ⟨_, rfl, rfl, _, rfl, ite2 (fun _ => ?_) (fun _ => ?_)⟩
        · refine ⟨_, rfl, _, rfl, rfl, _, rfl, ite2 (fun _ => ?_) (fun _ => ?_)⟩
          · exact ⟨_, rfl, _, rfl, a, xs, j, nV v, rfl, rfl, SqL.of g1, g2, by omega, _, rfl, _, _, rfl, rfl, a, xs, (j : Int), j, rfl, rfl, g1, g3, _, _, rfl, g4⟩
          · refine ⟨_, rfl, rfl, _, rfl, ite2 (fun _ => ?_) (fun _ => y1)⟩
            refine ⟨_, rfl, rfl, _, rfl, ite2 (fun _ => ?_) (fun _ => y1)⟩
            exact ⟨_, rfl, _, rfl, a, xs, j, nV v, rfl, rfl, SqL.of g1, g2, by omega, _, rfl, _, _, rfl, rfl, a, xs, (j : Int), j, rfl, rfl, g1, g3, _, _, rfl, g4⟩
        · refine ⟨_, rfl, rfl, _, rfl, ite2 (fun _ => ?_) (fun _ => y1)⟩
          refine ⟨_, rfl, rfl, _, rfl, ite2 (fun _ => ?_) (fun _ => y1)⟩
          exact ⟨_, rfl, _, rfl, a, xs, j, nV v, rfl, rfl, SqL.of g1, g2, by omega, _, rfl, _, _, rfl, rfl, a, xs, (j : Int), j, rfl, rfl, g1, g3, _, _, rfl, g4⟩
      · rintro σ' H6 ⟨c8, c9, rfl, I6⟩
        exact ⟨_, _, _, _, _, _, rfl, by have := I6.next; rw [Nat.mul_succ, ← Nat.add_assoc]; exact this⟩
    rintro σ' H2 ⟨c4, c5, c6, c7, c8, c9, rfl, I2⟩
    have D2 : Dr H2 d c := by obtain ⟨_, _, _, _, D2, _⟩ := I2; exact D2
    refine ⟨_, rfl, d, c, 5, rfl, D2, by decide, by decide, fun m2 H3 hm2 D3 kp3 => ⟨_, rfl, by omega, by omega, ?_⟩⟩
    rw [Int.toNat_natCast]
    refine for_range (lo := 0) (n := m2) (fun i σ' H' => ∃ c4 c6 c8 ca cb : Option V, σ' = [some (.ref d), some (nV pl), some (.ref a), some (nV n), c4, c5, c6, c7, c8, c9, ca, cb] ∧ BendI H d c a n 0 (B + 5 * m1 + 5 * i) H') ⟨c4, c6, c8, none, none, rfl, I2.draw nad D3 kp3⟩ ?_ ?_
    · rintro i σ' H4 hi ⟨c4, c6, c8, ca, cb, rfl, I4⟩
      have D4 : Dr H4 d c := by obtain ⟨_, _, _, _, D4, _⟩ := I4; exact D4
      refine ⟨_, rfl, _, rfl, d, c, (pl : Int), rfl, D4, by omega, by omega, fun lo H5 hlo D5 kp5 => ⟨1, lo, rfl, rfl, ⟨by omega, by decide⟩, ?_⟩⟩
      refine ⟨_, rfl, _, rfl, d, c, (pl : Int), rfl, D5, by omega, by omega, fun hi' H6 hhi D6 kp6 => ⟨1, hi', rfl, rfl, ⟨by omega, by decide⟩, ?_⟩⟩
      refine ⟨_, rfl, d, c, 6, rfl, D6, by decide, by decide, fun co H7 hco D7 kp7 => ?_⟩
      have I7 := ((I4.draw nad D5 kp5).draw nad D6 kp6).draw nad D7 kp7
      dsimp only
      generalize 1 * 2 ^ lo = lw
      generalize 1 * 2 ^ hi' = hw
      refine ⟨_, rfl, _, rfl, by omega, by omega, ?_⟩
      rw [Int.toNat_natCast]
      refine for_range (lo := 0) (n := n) (fun j σ' H' => ∃ c8 : Option V, σ' = [some (.ref d), some (nV pl), some (.ref a), some (nV n), some (.int (0 + (i : Int))), c5, some (nV co), c7, c8, c9, some (nV lw), some (nV hw)] ∧ BendI H d c a n j (B + 5 * m1 + 5 * i) H') ⟨c8, rfl, I7⟩ ?_ ?_
      · rintro j σ' H8 hj ⟨c8, rfl, I8⟩
        rw [Int.zero_add (j : Int)]
        obtain ⟨xs, v, g1, g2, g3, g4⟩ := inc hj (show co ≤ 5 by omega) I8
        refine ⟨_, rfl, _, rfl, j, lw, rfl, rfl, _, 0, rfl, rfl, _, rfl, ite2 (fun _ => ?_) (fun _ => ⟨_, rfl, I8.skip⟩)⟩
        refine ⟨_, rfl, _, rfl, j, hw, rfl, rfl, rfl, _, rfl, ite2 (fun _ => ?_) (fun _ => ⟨_, rfl, I8.skip⟩)⟩
        exact ⟨_, rfl, _, rfl, a, xs, j, nV v, rfl, rfl, SqL.of g1, g2, by omega, _, rfl, _, _, rfl, rfl, a, xs, (j : Int), j, rfl, rfl, g1, g3, _, rfl, g4⟩
      · rintro σ' H8 ⟨c8, rfl, I8⟩
        exact ⟨_, _, _, _, _, rfl, by have := I8.next; rw [Nat.mul_succ, ← Nat.add_assoc]; exact this⟩
    · rintro σ' H4 ⟨c4, c6, c8, ca, cb, rfl, ⟨ls, g1, g2, g3, g4, g5⟩⟩
      have g6 : ∀ x ∈ ls, x ≤ B + 35 := fun x hx => by
        obtain ⟨j, hj, rfl⟩ := List.getElem_of_mem hx
        have := g3 j hj
        rw [if_neg (Nat.not_lt_zero j), List.getD_eq_getElem?_getD, List.getElem?_eq_getElem hj] at this
        have h2 : ls[j] ≤ B + 5 * m1 + 5 * m2 := this
        omega
      exact ⟨_, rfl, k ls H4 (g2.trans hn.symm) g6 g4 g1 g5⟩
end
end L2.KK
namespace L2.KK
open PySem PySem.Spec PyProof.Rows C8
theorem sc_law_cut : FnScope ["d", "places", "size", "prices", "place", "spent", "number", "saved", "k", "low", "high", "bars", "spot"] ["d", "places"] (defScope s_law_cut) := ⟨rfl, rfl, rfl, by decide +kernel, rfl, by decide +kernel, by decide +kernel⟩
theorem opts_of' {R : Nat → Option Nat → Prop} : ∀ {ys : List V} {k n : Nat}, Paired (fun y j => ∃ o, y = pV o ∧ R j o) ys (List.range' k n) → ∃ os : List (Option Nat), ys = os.map pV ∧ os.length = n ∧ ∀ j, j < n → R (k + j) (os.getD j none)
  | ys, k, 0, h => by
    cases h
    exact ⟨[], rfl, rfl, fun j hj => absurd hj (Nat.not_lt_zero j)⟩
  | ys, k, n + 1, h => by
    rw [List.range'_succ] at h
    cases h with
    | cons r t =>
      obtain ⟨o, rfl, ho⟩ := r
      obtain ⟨os, e1, e2, e3⟩ := opts_of' t
      refine ⟨o :: os, by rw [e1]; rfl, by rw [List.length_cons, e2], fun j hj => ?_⟩
      cases j with
      | zero => exact ho
      | succ j =>
        have := e3 j (Nat.lt_of_succ_lt_succ hj)
        rw [show k + 1 + j = k + (j + 1) by omega] at this
        exact this
theorem opts_of {R : Nat → Option Nat → Prop} {ys : List V} {n : Nat} (h : Paired (fun y j => ∃ o, y = pV o ∧ R j o) ys (List.range n)) : ∃ os : List (Option Nat), ys = os.map pV ∧ os.length = n ∧ ∀ j, j < n → R j (os.getD j none) := by
  rw [List.range_eq_range'] at h
  obtain ⟨os, h1, h2, h3⟩ := opts_of' h
  exact ⟨os, h1, h2, fun j hj => by have := h3 j hj; rw [Nat.zero_add] at this; exact this⟩
/-- bounded prices that keep a row open -/
structure PrS (ps : List (Option Nat)) (n sv : Nat) : Prop where
  len : ps.length = n
  le : ∀ j m, ps.getD j none = some m → m ≤ 1000
  some : (ps.getD sv none).isSome = true
theorem PrS.ok {ps : List (Option Nat)} {n sv pl : Nat} (h : PrS ps n sv) (hs : sv < n) (h1 : 1 ≤ pl) (h4 : pl ≤ 4) (hn : 2 ^ pl = n) : TbOk (pl, ps) := by
  refine ⟨h1, h4, by rw [hn]; exact h.len, ⟨ps.getD sv none, ?_, h.some⟩, fun o ho m hm => ?_⟩
  · rw [List.getD_eq_getElem?_getD, List.getElem?_eq_getElem (by rw [h.len]; exact hs)]
    exact List.getElem_mem _
  · obtain ⟨j, hj, rfl⟩ := List.getElem_of_mem ho
    have hj : j < ps.length := hj
    exact h.le j m (by rw [List.getD_eq_getElem?_getD, List.getElem?_eq_getElem hj]; exact hm)
/-- each price stays or is taken away, that of a row stays -/
theorem PrS.less {ps os : List (Option Nat)} {n sv : Nat} (h : PrS ps n sv) (hs : sv < n) (hl : os.length = n) (hr : ∀ j, j < n → (os.getD j none = none ∨ os.getD j none = ps.getD j none) ∧ (j = sv → os.getD j none = ps.getD j none)) : PrS os n sv := by
  refine ⟨hl, fun j m e => ?_, by rw [(hr sv hs).2 rfl]; exact h.some⟩
  by_cases hj : j < n
  · rcases (hr j hj).1 with z | z
    · rw [z] at e; cases e
    · rw [z] at e; exact h.le j m e
  · rw [List.getD_eq_getElem?_getD, List.getElem?_eq_none (by omega)] at e
    cases e
theorem shr_lt {j p : Nat} : (j >>> p) &&& 1 < 2 := Nat.lt_of_le_of_lt Nat.and_le_right (by decide)
section
variable {P : Program} {w : World} {K : PySem.W.Frag} {mg : Str → Option Value} {base : Heap}
theorem c_law_cut (D : FnAt K mg "_law_cut" s_law_cut) (T : Bl mg) (c_law_draw : Cal P w K mg base 1 "_law_draw" spDraw []) (c_law_add_bends : Cal P w K mg base 2 "_law_add_bends" spBends []) : Cal P w K mg base 3 "_law_cut" (spMk K) [] := by
  refine calOf D sc_law_cut (fun _ _ _ _ _ _ us hl => match us, hl with | [_, _], _ => rfl) (fun vs H Q E h => ?_) (fun f cdv A outer s H vs Q E hr h => ?_)
  · obtain ⟨d, c, pl, rfl, _⟩ := h
    rfl
  · obtain ⟨d, c, pl, rfl, D, h1, h4, k⟩ := h
    have nd := sc_law_cut.nd
    have p16 : 2 ^ pl ≤ 2 ^ 4 := Nat.pow_le_pow_right (by decide) h4
    have p0 := Nat.two_pow_pos pl
    refine ⟨_, (pss_cons (ps_set (i := 2) nd rfl (by first | exact Or.inl rfl | exact Or.inr rfl) (pe_op op_shlNN pe_int (pv 1)))
      (pss_cons (ps_set (i := 3) nd rfl (by first | exact Or.inl rfl | exact Or.inr rfl) (pe_op op_rep (pe_lst (pa_cons (pe_c c_law_draw hr (by decide) (by rfl) (pa_cons (pv 0) (pa_cons pe_int pa_nil))) pa_nil)) (pv 2)))
      (pss_cons (ps_for PassesOwn.never rfl (pi_range1 (by rfl) T.b_range (pa_cons (pv 1) pa_nil)) (pg_name (i := 4) nd rfl (by first | exact Or.inl rfl | exact Or.inr rfl))
        (pss_cons (ps_set (i := 5) nd rfl (by first | exact Or.inl rfl | exact Or.inr rfl) (pe_lst (pa_cons (pe_c c_law_draw hr (by decide) (by rfl) (pa_cons (pv 0) (pa_cons pe_int pa_nil))) (pa_cons (pe_c c_law_draw hr (by decide) (by rfl) (pa_cons (pv 0) (pa_cons pe_int pa_nil))) pa_nil))))
        (pss_one (ps_set (i := 3) nd rfl (by first | exact Or.inl rfl | exact Or.inr rfl) (pe_lc (own := [("number", 6)]) (g := gName 6) (tt := tYes) rfl nd (pi_range1 (by rfl) T.b_range (pa_cons (pv 2) pa_nil)) (blkOk_by (N := ["d", "places", "size", "prices", "place", "spent", "number", "saved", "k", "low", "high", "bars", "spot"]) (sc := defScope s_law_cut) (own := [("number", 6)]) (by decide +kernel)) (fun _ _ _ _ _ => (pg_name (i := 6) nd rfl (by first | exact Or.inl rfl | exact Or.inr rfl))) (fun _ _ _ _ _ => pts_nil) (fun _ _ _ _ _ => (pe_op op_addNN (pe_ix (ixL K) (pv 3) (pv 6) (fun _ _ => rfl)) (pe_ix (ixL K) (pv 5) (pe_op op_andN (pe_op op_shrNN (pv 6) (pv 4)) pe_int) (fun _ _ => rfl)))))))))
      (pss_cons (ps_set (i := 3) nd rfl (by first | exact Or.inl rfl | exact Or.inr rfl) (pe_c c_law_add_bends hr (by decide) (by rfl) (pa_cons (pv 0) (pa_cons (pv 1) (pa_cons (pv 3) pa_nil)))))
      (pss_cons (ps_set (i := 7) nd rfl (by first | exact Or.inl rfl | exact Or.inr rfl) (pe_c c_law_draw hr (by decide) (by rfl) (pa_cons (pv 0) (pa_cons (pv 2) pa_nil))))
      (pss_cons (ps_for PassesOwn.never rfl (pi_range1 (by rfl) T.b_range (pa_cons (pe_op op_mul (pe_op op_fdivN (pe_c c_law_draw hr (by decide) (by rfl) (pa_cons (pv 0) (pa_cons pe_int pa_nil))) pe_int) (pe_c c_law_draw hr (by decide) (by rfl) (pa_cons (pv 0) (pa_cons pe_int pa_nil)))) pa_nil)) (pg_name (i := 8) nd rfl (by first | exact Or.inl rfl | exact Or.inr rfl))
        (pss_cons (ps_set (i := 9) nd rfl (by first | exact Or.inl rfl | exact Or.inr rfl) (pe_op op_shlNN pe_int (pe_c c_law_draw hr (by decide) (by rfl) (pa_cons (pv 0) (pa_cons (pv 1) pa_nil)))))
        (pss_cons (ps_set (i := 10) nd rfl (by first | exact Or.inl rfl | exact Or.inr rfl) (pe_op op_shlNN pe_int (pe_c c_law_draw hr (by decide) (by rfl) (pa_cons (pv 0) (pa_cons (pv 1) pa_nil)))))
        (pss_one (ps_if (PW.pt (pw_or (pt_cmpR op_eq (pe_op op_andN (pv 7) (pv 9)) pe_int (nomark _)) (pw_or1 (pt_cmpR op_gt (pe_op op_andN (pv 7) (pv 10)) pe_int (nomark _)))))
          (pss_cons (ps_set (i := 11) nd rfl (by first | exact Or.inl rfl | exact Or.inr rfl) (pe_lc (own := [("number", 6)]) (g := gName 6) (tt := tYes) rfl nd (pi_range1 (by rfl) T.b_range (pa_cons (pv 2) pa_nil)) (blkOk_by (N := ["d", "places", "size", "prices", "place", "spent", "number", "saved", "k", "low", "high", "bars", "spot"]) (sc := defScope s_law_cut) (own := [("number", 6)]) (by decide +kernel)) (fun _ _ _ _ _ => (pg_name (i := 6) nd rfl (by first | exact Or.inl rfl | exact Or.inr rfl))) (fun _ _ _ _ _ => pts_nil) (fun _ _ _ _ _ => (pe_and (pe_cmpR op_gt (pe_op op_andN (pv 6) (pv 9)) pe_int (nomark _)) (pe_one (pe_cmpR op_eq (pe_op op_andN (pv 6) (pv 10)) pe_int (nomark _)))))))
          (pss_one (ps_set (i := 3) nd rfl (by first | exact Or.inl rfl | exact Or.inr rfl) (pe_lc (own := [("number", 6)]) (g := gName 6) (tt := tYes) rfl nd (pi_range1 (by rfl) T.b_range (pa_cons (pv 2) pa_nil)) (blkOk_by (N := ["d", "places", "size", "prices", "place", "spent", "number", "saved", "k", "low", "high", "bars", "spot"]) (sc := defScope s_law_cut) (own := [("number", 6)]) (by decide +kernel)) (fun _ _ _ _ _ => (pg_name (i := 6) nd rfl (by first | exact Or.inl rfl | exact Or.inr rfl))) (fun _ _ _ _ _ => pts_nil) (fun _ _ _ _ _ => (pe_ifExp (pt_val (pe_ix (ixL K) (pv 11) (pv 6) (fun _ _ => rfl))) pe_non (pe_ix (ixL K) (pv 3) (pv 6) (fun _ _ => rfl))))))))
          pss_nil)))))
      (pss_cut (ps_if (pt_cmpR op_eq (pe_c c_law_draw hr (by decide) (by rfl) (pa_cons (pv 0) (pa_cons pe_int pa_nil))) pe_int (nomark _))
        (pss_cons (ps_set (i := 12) nd rfl (by first | exact Or.inl rfl | exact Or.inr rfl) (pe_op op_shlNN pe_int (pe_c c_law_draw hr (by decide) (by rfl) (pa_cons (pv 0) (pa_cons (pv 1) pa_nil)))))
        (pss_one (ps_set (i := 3) nd rfl (by first | exact Or.inl rfl | exact Or.inr rfl) (pe_lc (own := [("number", 6)]) (g := gName 6) (tt := tYes) rfl nd (pi_range1 (by rfl) T.b_range (pa_cons (pv 2) pa_nil)) (blkOk_by (N := ["d", "places", "size", "prices", "place", "spent", "number", "saved", "k", "low", "high", "bars", "spot"]) (sc := defScope s_law_cut) (own := [("number", 6)]) (by decide +kernel)) (fun _ _ _ _ _ => (pg_name (i := 6) nd rfl (by first | exact Or.inl rfl | exact Or.inr rfl))) (fun _ _ _ _ _ => pts_nil) (fun _ _ _ _ _ => (pe_ifExp (pt_cmpR op_eq (pe_op op_andN (pv 6) (pv 12)) (pe_op op_andN (pv 7) (pv 12)) (nomark _)) (pe_ix (ixL K) (pv 3) (pv 6) (fun _ _ => rfl)) pe_non))))))
        pss_nil)
      (pss_one (ps_ret (pe_tup (pa_cons (pv 1) (pa_cons (pe_callTy (crTup K) (by rfl) T.b_tuple (by decide +kernel) (pa_cons (pv 3) pa_nil)) pa_nil)))))))))))), ?_⟩
    refine ⟨_, rfl, 1, pl, rfl, rfl, ⟨by omega, by decide⟩, ?_⟩
    obtain ⟨n, hn⟩ : ∃ n, 2 ^ pl = n := ⟨_, rfl⟩
    rw [hn] at p16 p0
    dsimp only
    rw [Nat.one_mul, hn]
    refine ⟨_, rfl, d, c, 4, rfl, D, by decide, by decide, fun x0 H1 hx0 D1 kp1 => ⟨by show 1 ≤ sizeLine; decide, fun q1 hq1 => ⟨_, rfl, q1, (n : Int), [nV x0], rfl, rfl, upd_same, by omega, by omega, ?_, fun a0 ha0 => ?_⟩⟩⟩
    · rw [Int.toNat_natCast]
      exact lt_line (by show 1 * n ≤ _; omega)
    rw [Int.toNat_natCast, rep_one]
    have s2 : Same H1 (upd (upd H1 q1 (.lst [nV x0])) a0 (.lst (List.replicate n (nV x0)))) := (same_new hq1).trans (same_new ha0)
    have g2 : (upd (upd H1 q1 (.lst [nV x0])) a0 (.lst (List.replicate n (nV x0)))) a0 = some (.lst (nL (List.replicate n x0))) := by
      rw [upd_same]
      show _ = some (HO.lst ((List.replicate n x0).map nV))
      rw [List.map_replicate]
    have ha01 : H1 a0 = none := (same_new hq1).free ha0
    revert s2 g2
    generalize upd (upd H1 q1 (.lst [nV x0])) a0 (.lst (List.replicate n (nV x0))) = H2
    intro s2 g2
    obtain ⟨nad, nac⟩ := D1.ne ha01
    refine ⟨_, rfl, _, rfl, by omega, by omega, ?_⟩
    rw [Int.toNat_natCast]
    refine for_range (lo := 0) (n := pl) (fun i σ' H' => ∃ (a : Addr) (ns : List Nat) (c4 c5 : Option V), σ' = [some (.ref d), some (nV pl), some (nV n), some (.ref a), c4, c5, none, none, none, none, none, none, none] ∧ H' a = some (.lst (nL ns)) ∧ ns.length = n ∧ (∀ x ∈ ns, x ≤ 3 + 5 * i) ∧ a ≠ d ∧ a ≠ c ∧ H a = none ∧ Dr H' d c ∧ Kp d H H')
      ⟨a0, List.replicate n x0, none, none, rfl, g2, List.length_replicate, fun x hx => by rw [List.eq_of_mem_replicate hx]; omega, nad, nac, kp_none kp1 ha01 nad, D1.keep s2, kp1.trans (Kp.of s2)⟩ ?_ ?_
    · rintro i σ' H3 hi ⟨a, ns, c4, c5, rfl, g3, l3, b3, nad, nac, haH, D3, kp3⟩
      rw [Int.zero_add]
      refine ⟨_, rfl, d, c, 6, rfl, D3, by decide, by decide, fun s0 H4 hs0 D4 kp4 => ⟨_, rfl, d, c, 6, rfl, D4, by decide, by decide, fun s1 H5 hs1 D5 kp5 => ⟨by show 2 ≤ sizeLine; decide, fun q hq => ?_⟩⟩⟩
      have s6 : Same H5 (upd H5 q (.lst [nV s0, nV s1])) := same_new hq
      have gq : (upd H5 q (.lst [nV s0, nV s1])) q = some (.lst (nL [s0, s1])) := upd_same
      revert s6 gq
      generalize upd H5 q (.lst [nV s0, nV s1]) = H6
      intro s6 gq
      have g6 : H6 a = some (.lst (nL ns)) := s6 _ _ (kp5 _ _ (kp4 _ _ g3 nad) nad)
      refine ⟨_, rfl, _, rfl, by omega, by omega, ?_⟩
      rw [Int.toNat_natCast]
      refine fun W hW => lc_rangeT (lo := 0) (sel := fun _ => true) (P := fun j y _ => y = nV (ns.getD j 0 + [s0, s1].getD ((j >>> i) &&& 1) 0)) ⟨fun _ _ _ _ _ h => h, fun j H2 _ _ R r => r H2 (Same.refl H2), fun j H7 hj _ sm R r => ?_⟩ hW (lt_line (by omega)) (fun H7 ys sm hys lys pry => ?_)
      · rw [Int.zero_add]
        exact ⟨_, rfl, _, rfl, a, _, (j : Int), _, rfl, rfl, SqL.of (sm _ _ g6), nL_atI (by omega), _, rfl, _, rfl, _, rfl, j, i, rfl, rfl, _, 1, rfl, rfl, q, _, (((j >>> i) &&& 1 : Nat) : Int), _, rfl, rfl, SqL.of (sm _ _ gq), nL_atI (xs := [s0, s1]) shr_lt, _, _, rfl, rfl, r _ H7 (Same.refl H7) rfl⟩
      · rw [filter_yes] at pry
        have ey : ys = nL ((List.range n).map fun j => ns.getD j 0 + [s0, s1].getD ((j >>> i) &&& 1) 0) := by
          rw [paired_map_eq pry]
          show _ = ((List.range n).map _).map nV
          rw [List.map_map]
          rfl
        rw [ey] at hys
        have nWd : W ≠ d ∧ W ≠ c := (D5.keep s6).ne hW
        have hW0 : H W = none := kp_none ((((kp3.trans kp4).trans kp5)).trans (Kp.of s6)) hW nWd.1
        refine ⟨W, _, _, _, rfl, hys, by rw [List.length_map, List.length_range], fun x hx => ?_, nWd.1, nWd.2, hW0, (D5.keep s6).keep sm, (((kp3.trans kp4).trans kp5).trans (Kp.of s6)).trans (Kp.of sm)⟩
        obtain ⟨j, hj, rfl⟩ := List.mem_map.mp hx
        have hj' := List.mem_range.mp hj
        have e1 : ns.getD j 0 ≤ 3 + 5 * i := b3 _ (by rw [List.getD_eq_getElem?_getD, List.getElem?_eq_getElem (by omega)]; exact List.getElem_mem _)
        have e2 : [s0, s1].getD ((j >>> i) &&& 1) 0 ≤ 5 := by
          have := shr_lt (j := j) (p := i)
          generalize (j >>> i) &&& 1 = z at this ⊢
          match z, this with
          | 0, _ => show s0 ≤ 5; omega
          | 1, _ => show s1 ≤ 5; omega
        omega
    rintro σ' H3 ⟨a, ns, c4, c5, rfl, g3, l3, b3, nad, nac, haH, D3, kp3⟩
    refine ⟨_, rfl, _, rfl, _, rfl, d, c, a, pl, 3 + 5 * pl, ns, rfl, D3, g3, nad, nac, by omega, by omega, h1, h4, b3, fun ns' H4 l4 b4 D4 g4 kp4 => ?_⟩
    have kpH4 : Kp d H H4 := fun b o e n1 => kp4 _ _ (kp3 _ _ e n1) n1 (ne_of_none e haH)
    refine ⟨_, rfl, _, rfl, d, c, (n : Int), rfl, D4, by omega, by omega, fun sv H5 hsv D5 kp5 => ?_⟩
    have hsv' : sv < n := by omega
    have P5 : PrS (ns'.map some) n sv := by
      refine ⟨by rw [List.length_map]; omega, fun j m e => ?_, ?_⟩
      · by_cases hj : j < ns'.length
        · rw [List.getD_eq_getElem?_getD, List.getElem?_map, List.getElem?_eq_getElem hj] at e
          have := b4 _ (List.getElem_mem hj)
          cases e
          omega
        · rw [List.getD_eq_getElem?_getD, List.getElem?_map, List.getElem?_eq_none (by omega)] at e
          cases e
      · rw [List.getD_eq_getElem?_getD, List.getElem?_map, List.getElem?_eq_getElem (by omega)]
        rfl
    have g5 : H5 a = some (.lst ((ns'.map some).map pV)) := by
      rw [kp5 _ _ g4 nad, List.map_map]
      rfl
    have I5 : ∃ (a : Addr) (ps : List (Option Nat)), V.ref a = V.ref a ∧ H5 a = some (.lst (ps.map pV)) ∧ PrS ps n sv := ⟨a, _, rfl, g5, P5⟩
    clear I5
    refine ⟨_, rfl, d, c, 4, rfl, D5, by decide, by decide, fun u1 H6 hu1 D6 kp6 => ⟨u1, 2, rfl, rfl, ⟨by decide, by decide⟩, _, rfl, d, c, 3, rfl, D6, by decide, by decide, fun u2 H7 hu2 D7 kp7 => ?_⟩⟩
    have f01 : 0 ≤ (u1 : Int).fdiv 2 ∧ (u1 : Int).fdiv 2 ≤ 1 := by
      rw [Int.fdiv_eq_ediv_of_nonneg _ (by decide)]
      omega
    have ff : (u1 : Int).fdiv 2 * (u2 : Int) = 0 ∨ (u1 : Int).fdiv 2 * (u2 : Int) = u2 := by
      rcases (show (u1 : Int).fdiv 2 = 0 ∨ (u1 : Int).fdiv 2 = 1 by omega) with z | z
      · rw [z]; exact .inl (Int.zero_mul _)
      · rw [z]; exact .inr (Int.one_mul _)
    refine ⟨(u1 : Int).fdiv 2, u2, rfl, rfl, .inl ⟨by omega, by omega⟩, (u1 : Int).fdiv 2 * u2, rfl, by omega, by omega, ?_⟩
    generalize ((u1 : Int).fdiv 2 * (u2 : Int)).toNat = m
    refine for_range (lo := 0) (n := m) (fun i σ' H' => ∃ (a : Addr) (ps : List (Option Nat)) (c6 c8 c9 ca cb : Option V), σ' = [some (.ref d), some (nV pl), some (nV n), some (.ref a), c4, c5, c6, some (nV sv), c8, c9, ca, cb, none] ∧ H' a = some (.lst (ps.map pV)) ∧ PrS ps n sv ∧ a ≠ d ∧ Dr H' d c ∧ Kp d H H')
      ⟨a, _, none, none, none, none, none, rfl, kp7 _ _ (kp6 _ _ g5 nad) nad, P5, nad, D7, ((kpH4.trans kp5).trans kp6).trans kp7⟩ ?_ ?_
    · rintro i σ' H8 hi ⟨a, ps, c6, c8, c9, ca, cb, rfl, g8, P8, nad, D8, kp8⟩
      refine ⟨_, rfl, _, rfl, d, c, (pl : Int), rfl, D8, by omega, by omega, fun lo H9 hlo D9 kp9 => ⟨1, lo, rfl, rfl, ⟨by omega, by decide⟩, ?_⟩⟩
      refine ⟨_, rfl, _, rfl, d, c, (pl : Int), rfl, D9, by omega, by omega, fun hi' HA hhi DA kpA => ⟨1, hi', rfl, rfl, ⟨by omega, by decide⟩, ?_⟩⟩
      dsimp only
      generalize 1 * 2 ^ lo = lw
      generalize 1 * 2 ^ hi' = hw
      have gA := kpA _ _ (kp9 _ _ g8 nad) nad
      have kpHA := (kp8.trans kp9).trans kpA
      have bad : ∀ (hc : sv &&& lw = 0 ∨ 0 < sv &&& hw) (j : Nat), j = sv → ¬ (0 < j &&& lw ∧ j &&& hw = 0) := fun hc j e z => by
        subst e
        rcases hc with hc | hc <;> omega
      have c0 : ∀ x : Nat, decide (nV x = V.int 0) = true → x = 0 := fun x h => by
        have := V.int.inj (of_decide_eq_true h)
        omega
      have c0' : ∀ x : Nat, ¬ decide (nV x = V.int 0) = true → 0 < x := fun x h => by
        have : x ≠ 0 := fun z => h (decide_eq_true (by rw [z]; rfl))
        omega
      have cp : ∀ x : Nat, decide ((0 : Int) < (x : Int)) = true → 0 < x := fun x h => by
        have := of_decide_eq_true h
        omega
      have cp' : ∀ x : Nat, ¬ decide ((0 : Int) < (x : Int)) = true → x = 0 := fun x h => by
        have : ¬ (0 : Int) < (x : Int) := fun z => h (decide_eq_true z)
        omega
      -- the bars and the prices behind them, if the saved row is open
      refine ⟨_, rfl, _, rfl, sv, lw, rfl, rfl, rfl, _, rfl, ?_⟩
      by_cases hc : sv &&& lw = 0 ∨ 0 < sv &&& hw
      · have key : ∀ (Q0 : Prop), Q0 → Q0 := fun _ q => q
        clear key
        by_cases hc1 : sv &&& lw = 0
        · refine ite2 (fun _ => ?_) (fun h => absurd (decide_eq_true (show nV (sv &&& lw) = V.int 0 by rw [hc1]; rfl)) h)
          refine ⟨_, rfl, _, rfl, by omega, by omega, ?_⟩
          rw [Int.toNat_natCast]
          refine fun B hB => lc_rangeT (lo := 0) (sel := fun _ => true) (P := fun j y _ => ∃ b : Bool, y = .bl b ∧ (j = sv → b = false)) ⟨fun _ _ _ _ _ h => h, fun j H2 _ _ R r => r H2 (Same.refl H2), fun j H2 hj _ sm R r => ?_⟩ hB (lt_line (by omega)) (fun HB bs smB hbs lbs prb => ?_)
          · rw [Int.zero_add (j : Int)]
            refine ⟨_, rfl, _, rfl, j, lw, rfl, rfl, _, 0, rfl, rfl, _, rfl, ite2 (fun h => ?_) (fun h => r _ H2 (Same.refl H2) ⟨false, rfl, fun _ => rfl⟩)⟩
            refine ⟨_, rfl, _, rfl, j, hw, rfl, rfl, rfl, r _ H2 (Same.refl H2) ⟨_, rfl, fun e => ?_⟩⟩
            exact Bool.eq_false_iff.mpr fun z => bad hc j e ⟨cp _ h, c0 _ z⟩
          rw [filter_yes] at prb
          obtain ⟨bl, ba⟩ := paired_at prb
          rw [List.length_range] at bl
          have gB := smB _ _ gA
          refine ⟨_, rfl, _, rfl, by omega, by omega, ?_⟩
          rw [Int.toNat_natCast]
          refine fun W hW => lc_rangeT (lo := 0) (sel := fun _ => true) (P := fun j y _ => ∃ o, y = pV o ∧ ((o = none ∨ o = ps.getD j none) ∧ (j = sv → o = ps.getD j none))) ⟨fun _ _ _ _ _ h => h, fun j H2 _ _ R r => r H2 (Same.refl H2), fun j H2 hj _ sm R r => ?_⟩ hW (lt_line (by omega)) (fun HC ys sm hys lys pry => ?_)
          · rw [Int.zero_add (j : Int)]
            have hb : bs[j]? = some (bs[j]'(by omega)) := List.getElem?_eq_getElem (by omega)
            obtain ⟨j', hj', b, eb, hbz⟩ := ba j _ hb
            rw [List.getElem?_range hj] at hj'
            cases hj'
            refine ⟨_, rfl, _, rfl, B, _, (j : Int), .bl b, rfl, rfl, SqL.of (sm _ _ hbs), by rw [← eb]; exact atI_nat hb, b, rfl, ite2 (fun h => ?_) (fun _ => ?_)⟩
            · exact r _ H2 (Same.refl H2) ⟨none, rfl, .inl rfl, fun e => by rw [hbz e] at h; cases h⟩
            · exact ⟨_, rfl, _, rfl, a, _, (j : Int), _, rfl, rfl, SqL.of (sm _ _ gB), pr_at (by rw [P8.len]; omega), r _ H2 (Same.refl H2) ⟨_, rfl, .inr rfl, fun _ => rfl⟩⟩
          rw [filter_yes] at pry
          obtain ⟨os, rfl, lo', ho⟩ := opts_of pry
          have nWd : W ≠ d := ((DA.keep smB).ne hW).1
          exact ⟨W, os, _, _, _, _, _, rfl, hys, P8.less hsv' lo' ho, nWd, (DA.keep smB).keep sm, (kpHA.trans (Kp.of smB)).trans (Kp.of sm)⟩
        · refine ite2 (fun h => absurd (c0 _ h) hc1) (fun _ => ?_)
          refine ⟨_, rfl, _, rfl, sv, hw, rfl, rfl, _, 0, rfl, rfl, _, rfl, ite2 (fun _ => ?_) (fun h => ?_)⟩
          · refine ⟨_, rfl, _, rfl, by omega, by omega, ?_⟩
            rw [Int.toNat_natCast]
            refine fun B hB => lc_rangeT (lo := 0) (sel := fun _ => true) (P := fun j y _ => ∃ b : Bool, y = .bl b ∧ (j = sv → b = false)) ⟨fun _ _ _ _ _ h => h, fun j H2 _ _ R r => r H2 (Same.refl H2), fun j H2 hj _ sm R r => ?_⟩ hB (lt_line (by omega)) (fun HB bs smB hbs lbs prb => ?_)
            · rw [Int.zero_add (j : Int)]
              refine ⟨_, rfl, _, rfl, j, lw, rfl, rfl, _, 0, rfl, rfl, _, rfl, ite2 (fun h => ?_) (fun h => r _ H2 (Same.refl H2) ⟨false, rfl, fun _ => rfl⟩)⟩
              refine ⟨_, rfl, _, rfl, j, hw, rfl, rfl, rfl, r _ H2 (Same.refl H2) ⟨_, rfl, fun e => ?_⟩⟩
              exact Bool.eq_false_iff.mpr fun z => bad hc j e ⟨cp _ h, c0 _ z⟩
            rw [filter_yes] at prb
            obtain ⟨bl, ba⟩ := paired_at prb
            rw [List.length_range] at bl
            have gB := smB _ _ gA
            refine ⟨_, rfl, _, rfl, by omega, by omega, ?_⟩
            rw [Int.toNat_natCast]
            refine fun W hW => lc_rangeT (lo := 0) (sel := fun _ => true) (P := fun j y _ => ∃ o, y = pV o ∧ ((o = none ∨ o = ps.getD j none) ∧ (j = sv → o = ps.getD j none))) ⟨fun _ _ _ _ _ h => h, fun j H2 _ _ R r => r H2 (Same.refl H2), fun j H2 hj _ sm R r => ?_⟩ hW (lt_line (by omega)) (fun HC ys sm hys lys pry => ?_)
            · rw [Int.zero_add (j : Int)]
              have hb : bs[j]? = some (bs[j]'(by omega)) := List.getElem?_eq_getElem (by omega)
              obtain ⟨j', hj', b, eb, hbz⟩ := ba j _ hb
              rw [List.getElem?_range hj] at hj'
              cases hj'
              refine ⟨_, rfl, _, rfl, B, _, (j : Int), .bl b, rfl, rfl, SqL.of (sm _ _ hbs), by rw [← eb]; exact atI_nat hb, b, rfl, ite2 (fun h => ?_) (fun _ => ?_)⟩
              · exact r _ H2 (Same.refl H2) ⟨none, rfl, .inl rfl, fun e => by rw [hbz e] at h; cases h⟩
              · exact ⟨_, rfl, _, rfl, a, _, (j : Int), _, rfl, rfl, SqL.of (sm _ _ gB), pr_at (by rw [P8.len]; omega), r _ H2 (Same.refl H2) ⟨_, rfl, .inr rfl, fun _ => rfl⟩⟩
            rw [filter_yes] at pry
            obtain ⟨os, rfl, lo', ho⟩ := opts_of pry
            have nWd : W ≠ d := ((DA.keep smB).ne hW).1
            exact ⟨W, os, _, _, _, _, _, rfl, hys, P8.less hsv' lo' ho, nWd, (DA.keep smB).keep sm, (kpHA.trans (Kp.of smB)).trans (Kp.of sm)⟩
          · have := cp' _ h
            omega
      · refine ite2 (fun h => absurd (.inl (c0 _ h)) hc) (fun _ => ?_)
        refine ⟨_, rfl, _, rfl, sv, hw, rfl, rfl, _, 0, rfl, rfl, _, rfl, ite2 (fun h => absurd (.inr (cp _ h)) hc) (fun _ => ?_)⟩
        exact ⟨a, ps, _, _, _, _, _, rfl, gA, P8, nad, DA, kpHA⟩
    · rintro σ' H8 ⟨a, ps, c6, c8, c9, ca, cb, rfl, g8, P8, nad, D8, kp8⟩
      refine ⟨fun σ' H' => ∃ (a : Addr) (ps : List (Option Nat)) (c6 c8 c9 ca cb cc : Option V), σ' = [some (.ref d), some (nV pl), some (nV n), some (.ref a), c4, c5, c6, some (nV sv), c8, c9, ca, cb, cc] ∧ H' a = some (.lst (ps.map pV)) ∧ PrS ps n sv ∧ Dr H' d c ∧ Kp d H H', ?_, ?_⟩
      · refine ⟨_, rfl, d, c, 5, rfl, D8, by decide, by decide, fun u H9 hu D9 kp9 => ⟨rfl, _, rfl, ite2 (fun _ => ?_) (fun _ => ⟨a, ps, _, _, _, _, _, _, rfl, kp9 _ _ g8 nad, P8, D9, kp8.trans kp9⟩)⟩⟩
        refine ⟨_, rfl, _, rfl, d, c, (pl : Int), rfl, D9, by omega, by omega, fun sp HA hsp DA kpA => ⟨1, sp, rfl, rfl, ⟨by omega, by decide⟩, ?_⟩⟩
        dsimp only
        generalize 1 * 2 ^ sp = sw
        have gA := kpA _ _ (kp9 _ _ g8 nad) nad
        refine ⟨_, rfl, _, rfl, by omega, by omega, ?_⟩
        rw [Int.toNat_natCast]
        refine fun W hW => lc_rangeT (lo := 0) (sel := fun _ => true) (P := fun j y _ => ∃ o, y = pV o ∧ ((o = none ∨ o = ps.getD j none) ∧ (j = sv → o = ps.getD j none))) ⟨fun _ _ _ _ _ h => h, fun j H2 _ _ R r => r H2 (Same.refl H2), fun j H2 hj _ sm R r => ?_⟩ hW (lt_line (by omega)) (fun HB ys sm hys lys pry => ?_)
        · rw [Int.zero_add (j : Int)]
          refine ⟨_, rfl, _, rfl, j, sw, rfl, rfl, _, rfl, _, rfl, sv, sw, rfl, rfl, rfl, _, rfl, ite2 (fun _ => ?_) (fun h => ?_)⟩
          · exact ⟨_, rfl, _, rfl, a, _, (j : Int), _, rfl, rfl, SqL.of (sm _ _ gA), pr_at (by rw [P8.len]; omega), r _ H2 (Same.refl H2) ⟨_, rfl, .inr rfl, fun _ => rfl⟩⟩
          · exact r _ H2 (Same.refl H2) ⟨none, rfl, .inl rfl, fun e => absurd (decide_eq_true (by rw [e])) h⟩
        · rw [filter_yes] at pry
          obtain ⟨os, rfl, lo, ho⟩ := opts_of pry
          exact ⟨W, os, _, _, _, _, _, _, rfl, hys, P8.less hsv' lo ho, DA.keep sm, ((kp8.trans kp9).trans kpA).trans (Kp.of sm)⟩
      rintro σ' H9 ⟨a, ps, c6, c8, c9, ca, cb, cc, rfl, g9, P9, D9, kp9⟩
      refine ⟨_, rfl, _, rfl, a, _, rfl, .inl ⟨SqL.of g9, fun q hq => ?_⟩⟩
      exact mk_end k (P9.ok hsv' h1 h4 hn) D9 kp9 q hq
end
end L2.KK
namespace L2.KK
open PySem PySem.Spec PyProof.Rows C8
theorem sc_law_sums : FnScope ["d", "places", "size", "price", "saved", "prices", "k", "mask", "number"] ["d", "places"] (defScope s_law_sums) := ⟨rfl, rfl, rfl, by decide +kernel, rfl, by decide +kernel, by decide +kernel⟩
theorem sc_law_twos : FnScope ["d", "places", "size", "price", "saved", "prices", "k", "first", "second", "pair", "number"] ["d", "places"] (defScope s_law_twos) := ⟨rfl, rfl, rfl, by decide +kernel, rfl, by decide +kernel, by decide +kernel⟩
theorem PrS.out {ps : List (Option Nat)} {n sv j : Nat} (h : PrS ps n sv) (ne : j ≠ sv) : PrS (ps.set j none) n sv := by
  refine ⟨by rw [List.length_set]; exact h.len, fun i m e => ?_, ?_⟩
  · rw [getD_set] at e
    split at e
    · cases e
    · exact h.le i m e
  · rw [getD_set, if_neg (fun z => ne z.1)]
    exact h.some
theorem PrS.rep {n sv pr : Nat} (hs : sv < n) (hp : pr ≤ 1000) : PrS (List.replicate n (Option.some pr)) n sv := by
  refine ⟨List.length_replicate, fun i m e => ?_, ?_⟩
  · rw [List.getD_eq_getElem?_getD, List.getElem?_replicate] at e
    split at e
    · cases e; exact hp
    · cases e
  · rw [List.getD_eq_getElem?_getD, List.getElem?_replicate, if_pos hs]
    rfl
section
variable {K : PySem.W.Frag} {H : Hp} {a b : Addr} {xs ys : List Nat} {Q : VK}
theorem dp_nats {K : PySem.W.Frag} {H : Hp} {a : Addr} {xs : List Nat} (h : SqT K H a (nL xs)) : Dp K H (.ref a) (.tuple ((iL xs).map PyData.int)) := by
  rw [nL_eq] at h
  exact .tup h (dpAll_ints _)
theorem pln_nats (xs : List Nat) : pln (.tuple ((iL xs).map PyData.int)) = true := pln_tup fun y hy => by
  obtain ⟨_, _, rfl⟩ := List.mem_map.mp hy
  rfl
theorem depth_nats (xs : List Nat) : (PyData.tuple ((iL xs).map PyData.int)).depth ≤ 64 := Nat.le_trans (depth_tup (n := 0) fun y hy => by
  obtain ⟨_, _, rfl⟩ := List.mem_map.mp hy
  exact Nat.le_refl 0) (by decide)
theorem eqd_any (ha : SqT K H a (nL xs)) (hb : SqT K H b (nL ys)) (q : ∀ r : Bool, Q (.bl r) H) : rEqD K (.ref a) (.ref b) H Q := eqd_pln (dp_nats ha) (dp_nats hb) (pln_nats _) (pln_nats _) (depth_nats _) (depth_nats _) fun r _ => q r
theorem ned_any (ha : SqT K H a (nL xs)) (hb : SqT K H b (nL ys)) (q : ∀ r : Bool, Q (.bl r) H) : rNeD K (.ref a) (.ref b) H Q := ned_pln (dp_nats ha) (dp_nats hb) (pln_nats _) (pln_nats _) (depth_nats _) (depth_nats _) fun r _ => q _
end
section
variable {P : Program} {w : World} {K : PySem.W.Frag} {mg : Str → Option Value} {base : Heap}
theorem rep_prices {H : Hp} {q a : Addr} {n pr : Nat} (hq : H q = none) (ha : (upd H q (.lst [nV pr])) a = none) : Same H (upd (upd H q (.lst [nV pr])) a (.lst (List.replicate n (nV pr)))) ∧ (upd (upd H q (.lst [nV pr])) a (.lst (List.replicate n (nV pr)))) a = some (.lst ((List.replicate n (some pr)).map pV)) :=
  ⟨(same_new hq).trans (same_new ha), by rw [upd_same, List.map_replicate]; rfl⟩
theorem c_law_sums (D : FnAt K mg "_law_sums" s_law_sums) (T : Bl mg) (c_law_draw : Cal P w K mg base 1 "_law_draw" spDraw []) (c_law_cost : Cal P w K mg base 3 "_law_cost" spCost []) (c_law_ones : Cal P w K mg base 1 "_law_ones" spOnes []) : Cal P w K mg base 4 "_law_sums" (spMk K) [] := by
  refine calOf D sc_law_sums (fun _ _ _ _ _ _ us hl => match us, hl with | [_, _], _ => rfl) (fun vs H Q E h => ?_) (fun f cdv A outer s H vs Q E hr h => ?_)
  · obtain ⟨d, c, pl, rfl, _⟩ := h
    rfl
  · obtain ⟨d, c, pl, rfl, D, h1, h4, k⟩ := h
    have nd := sc_law_sums.nd
    have p16 : 2 ^ pl ≤ 2 ^ 4 := Nat.pow_le_pow_right (by decide) h4
    have p0 := Nat.two_pow_pos pl
    refine ⟨_, (pss_cons (ps_set (i := 2) nd rfl (by first | exact Or.inl rfl | exact Or.inr rfl) (pe_op op_shlNN pe_int (pv 1)))
      (pss_cons (ps_set (i := 3) nd rfl (by first | exact Or.inl rfl | exact Or.inr rfl) (pe_c c_law_cost hr (by decide) (by rfl) (pa_cons (pv 0) pa_nil)))
      (pss_cons (ps_set (i := 4) nd rfl (by first | exact Or.inl rfl | exact Or.inr rfl) (pe_c c_law_draw hr (by decide) (by rfl) (pa_cons (pv 0) (pa_cons (pv 2) pa_nil))))
      (pss_cons (ps_set (i := 5) nd rfl (by first | exact Or.inl rfl | exact Or.inr rfl) (pe_op op_rep (pe_lst (pa_cons (pv 3) pa_nil)) (pv 2)))
      (pss_cons (ps_for PassesOwn.never rfl (pi_range1 (by rfl) T.b_range (pa_cons (pe_c c_law_draw hr (by decide) (by rfl) (pa_cons (pv 0) (pa_cons pe_int pa_nil))) pa_nil)) (pg_name (i := 6) nd rfl (by first | exact Or.inl rfl | exact Or.inr rfl))
        (pss_cons (ps_set (i := 7) nd rfl (by first | exact Or.inl rfl | exact Or.inr rfl) (pe_c c_law_draw hr (by decide) (by rfl) (pa_cons (pv 0) (pa_cons (pv 2) pa_nil))))
        (pss_one (ps_for PassesOwn.never rfl (pi_range1 (by rfl) T.b_range (pa_cons (pv 2) pa_nil)) (pg_name (i := 8) nd rfl (by first | exact Or.inl rfl | exact Or.inr rfl))
          (pss_one (ps_if (pt_cmpR op_eq (pe_op op_andN (pe_op op_xorN (pe_c c_law_ones hr (by decide) (by rfl) (pa_cons (pe_op op_andN (pv 8) (pv 7)) pa_nil)) (pe_c c_law_ones hr (by decide) (by rfl) (pa_cons (pe_op op_andN (pv 4) (pv 7)) pa_nil))) pe_int) pe_int (nomark _))
            (pss_one (ps_asg pe_non (pg_sub (pv 5) (pv 8) set_list)))
            pss_nil))))))
      (pss_one (ps_ret (pe_tup (pa_cons (pv 1) (pa_cons (pe_callTy (crTup K) (by rfl) T.b_tuple (by decide +kernel) (pa_cons (pv 5) pa_nil)) pa_nil)))))))))), ?_⟩
    refine ⟨_, rfl, 1, pl, rfl, rfl, ⟨by omega, by decide⟩, ?_⟩
    obtain ⟨n, hn⟩ : ∃ n, 2 ^ pl = n := ⟨_, rfl⟩
    rw [hn] at p16 p0
    dsimp only
    rw [Nat.one_mul, hn]
    refine ⟨_, rfl, d, c, rfl, D, fun pr H1 hpr D1 kp1 => ?_⟩
    refine ⟨_, rfl, _, rfl, d, c, (n : Int), rfl, D1, by omega, by omega, fun sv H2 hsv D2 kp2 => ?_⟩
    have hsv' : sv < n := by omega
    refine ⟨_, rfl, by show 1 ≤ sizeLine; decide, fun q1 hq1 => ⟨_, rfl, q1, (n : Int), [nV pr], rfl, rfl, upd_same, by omega, by omega, ?_, fun a ha => ?_⟩⟩
    · rw [Int.toNat_natCast]
      exact lt_line (by show 1 * n ≤ _; omega)
    rw [Int.toNat_natCast, rep_one]
    obtain ⟨s3, g3⟩ := rep_prices (n := n) hq1 ha
    have ha0 : H2 a = none := (same_new hq1).free ha
    revert s3 g3
    generalize upd (upd H2 q1 (.lst [nV pr])) a (.lst (List.replicate n (nV pr))) = H3
    intro s3 g3
    obtain ⟨nad, nac⟩ := D2.ne ha0
    have haH : H a = none := kp_none (kp1.trans kp2) ha0 nad
    have D3 := D2.keep s3
    refine ⟨_, rfl, d, c, 4, rfl, D3, by decide, by decide, fun m H4 hm D4 kp4 => ⟨_, rfl, by omega, by omega, ?_⟩⟩
    rw [Int.toNat_natCast]
    refine for_range (lo := 0) (n := m) (fun _ σ' H' => ∃ (c6 c7 c8 : Option V) (ps : List (Option Nat)), σ' = [some (.ref d), some (nV pl), some (nV n), some (nV pr), some (nV sv), some (.ref a), c6, c7, c8] ∧ H' a = some (.lst (ps.map pV)) ∧ PrS ps n sv ∧ Dr H' d c ∧ Kp d H H')
      ⟨none, none, none, _, rfl, kp4 _ _ g3 nad, .rep hsv' hpr, D4, ((kp1.trans kp2).trans (Kp.of s3)).trans kp4⟩ ?_ ?_
    · rintro i σ' H5 hi ⟨c6, c7, c8, ps, rfl, g5, P5, D5, kp5⟩
      refine ⟨_, rfl, _, rfl, d, c, (n : Int), rfl, D5, by omega, by omega, fun mk H6 hmk D6 kp6 => ?_⟩
      refine ⟨_, rfl, _, rfl, by omega, by omega, ?_⟩
      rw [Int.toNat_natCast]
      refine for_range (lo := 0) (n := n) (fun _ σ' H' => ∃ (c8 : Option V) (ps : List (Option Nat)), σ' = [some (.ref d), some (nV pl), some (nV n), some (nV pr), some (nV sv), some (.ref a), some (.int (0 + (i : Int))), some (nV mk), c8] ∧ H' a = some (.lst (ps.map pV)) ∧ PrS ps n sv ∧ Dr H' d c ∧ Kp d H H')
        ⟨c8, ps, rfl, kp6 _ _ g5 nad, P5, D6, kp5.trans kp6⟩ ?_ ?_
      · rintro j σ' H7 hj ⟨c8, ps, rfl, g7, P7, D7, kp7⟩
        rw [Int.zero_add (j : Int)]
        refine ⟨_, rfl, _, rfl, j, mk, rfl, rfl, _, rfl, _, rfl, _, rfl, sv, mk, rfl, rfl, _, rfl, _, _, rfl, rfl, _, 1, rfl, rfl, rfl, _, rfl, ite2 (fun h => ?_) (fun _ => ⟨_, ps, rfl, g7, P7, D7, kp7⟩)⟩
        have ne : j ≠ sv := fun z => by
          have := V.int.inj (of_decide_eq_true h)
          rw [z, Nat.xor_self] at this
          cases this
        refine ⟨_, rfl, _, rfl, a, _, (j : Int), j, rfl, rfl, g7, ixN_lt (by rw [List.length_map, P7.len]; exact hj), _, ps.set j none, rfl, by rw [upd_same, ← pL_set]; rfl, P7.out ne, D7.put nad nac, kp7.new haH⟩
      · rintro σ' H7 ⟨c8, ps, rfl, g7, P7, D7, kp7⟩
        exact ⟨_, _, _, ps, rfl, g7, P7, D7, kp7⟩
    · rintro σ' H5 ⟨c6, c7, c8, ps, rfl, g5, P5, D5, kp5⟩
      refine ⟨_, rfl, _, rfl, a, _, rfl, .inl ⟨SqL.of g5, fun q hq => ?_⟩⟩
      exact mk_end k (P5.ok hsv' h1 h4 hn) D5 kp5 q hq
theorem c_law_twos (D : FnAt K mg "_law_twos" s_law_twos) (T : Bl mg) (c_law_draw : Cal P w K mg base 1 "_law_draw" spDraw []) (c_law_cost : Cal P w K mg base 3 "_law_cost" spCost []) : Cal P w K mg base 4 "_law_twos" (spMk K) [] := by
  refine calOf D sc_law_twos (fun _ _ _ _ _ _ us hl => match us, hl with | [_, _], _ => rfl) (fun vs H Q E h => ?_) (fun f cdv A outer s H vs Q E hr h => ?_)
  · obtain ⟨d, c, pl, rfl, _⟩ := h
    rfl
  · obtain ⟨d, c, pl, rfl, D, h1, h4, k⟩ := h
    have nd := sc_law_twos.nd
    have hu := hr.units
    have p16 : 2 ^ pl ≤ 2 ^ 4 := Nat.pow_le_pow_right (by decide) h4
    have p0 := Nat.two_pow_pos pl
    refine ⟨_, (pss_cons (ps_set (i := 2) nd rfl (by first | exact Or.inl rfl | exact Or.inr rfl) (pe_op op_shlNN pe_int (pv 1)))
      (pss_cons (ps_set (i := 3) nd rfl (by first | exact Or.inl rfl | exact Or.inr rfl) (pe_c c_law_cost hr (by decide) (by rfl) (pa_cons (pv 0) pa_nil)))
      (pss_cons (ps_set (i := 4) nd rfl (by first | exact Or.inl rfl | exact Or.inr rfl) (pe_c c_law_draw hr (by decide) (by rfl) (pa_cons (pv 0) (pa_cons (pv 2) pa_nil))))
      (pss_cons (ps_set (i := 5) nd rfl (by first | exact Or.inl rfl | exact Or.inr rfl) (pe_op op_rep (pe_lst (pa_cons (pv 3) pa_nil)) (pv 2)))
      (pss_cons (ps_for PassesOwn.never rfl (pi_range1 (by rfl) T.b_range (pa_cons (pe_c c_law_draw hr (by decide) (by rfl) (pa_cons (pv 0) (pa_cons pe_int pa_nil))) pa_nil)) (pg_name (i := 6) nd rfl (by first | exact Or.inl rfl | exact Or.inr rfl))
        (pss_cons (ps_set (i := 7) nd rfl (by first | exact Or.inl rfl | exact Or.inr rfl) (pe_c c_law_draw hr (by decide) (by rfl) (pa_cons (pv 0) (pa_cons (pv 1) pa_nil))))
        (pss_cons (ps_set (i := 8) nd rfl (by first | exact Or.inl rfl | exact Or.inr rfl) (pe_c c_law_draw hr (by decide) (by rfl) (pa_cons (pv 0) (pa_cons (pv 1) pa_nil))))
        (pss_cons (ps_set (i := 9) nd rfl (by first | exact Or.inl rfl | exact Or.inr rfl) (pe_tup (pa_cons (pe_c c_law_draw hr (by decide) (by rfl) (pa_cons (pv 0) (pa_cons pe_int pa_nil))) (pa_cons (pe_c c_law_draw hr (by decide) (by rfl) (pa_cons (pv 0) (pa_cons pe_int pa_nil))) pa_nil))))
        (pss_one (ps_for PassesOwn.never rfl (pi_range1 (by rfl) T.b_range (pa_cons (pv 2) pa_nil)) (pg_name (i := 10) nd rfl (by first | exact Or.inl rfl | exact Or.inr rfl))
          (pss_one (ps_if (PW.pt (pw_and (pt_cmpR (eqD K hu) (pe_tup (pa_cons (pe_op op_andN (pe_op op_shrNN (pv 10) (pv 7)) pe_int) (pa_cons (pe_op op_andN (pe_op op_shrNN (pv 10) (pv 8)) pe_int) pa_nil))) (pv 9) (nomark _)) (pw_and1 (pt_cmpR op_ne (pv 10) (pv 4) (nomark _)))))
            (pss_one (ps_if (pt_cmpR (neD K hu) (pe_tup (pa_cons (pe_op op_andN (pe_op op_shrNN (pv 4) (pv 7)) pe_int) (pa_cons (pe_op op_andN (pe_op op_shrNN (pv 4) (pv 8)) pe_int) pa_nil))) (pv 9) (nomark _))
              (pss_one (ps_asg pe_non (pg_sub (pv 5) (pv 10) set_list)))
              pss_nil))
            pss_nil))))))))
      (pss_one (ps_ret (pe_tup (pa_cons (pv 1) (pa_cons (pe_callTy (crTup K) (by rfl) T.b_tuple (by decide +kernel) (pa_cons (pv 5) pa_nil)) pa_nil)))))))))), ?_⟩
    refine ⟨_, rfl, 1, pl, rfl, rfl, ⟨by omega, by decide⟩, ?_⟩
    obtain ⟨n, hn⟩ : ∃ n, 2 ^ pl = n := ⟨_, rfl⟩
    rw [hn] at p16 p0
    dsimp only
    rw [Nat.one_mul, hn]
    refine ⟨_, rfl, d, c, rfl, D, fun pr H1 hpr D1 kp1 => ?_⟩
    refine ⟨_, rfl, _, rfl, d, c, (n : Int), rfl, D1, by omega, by omega, fun sv H2 hsv D2 kp2 => ?_⟩
    have hsv' : sv < n := by omega
    refine ⟨_, rfl, by show 1 ≤ sizeLine; decide, fun q1 hq1 => ⟨_, rfl, q1, (n : Int), [nV pr], rfl, rfl, upd_same, by omega, by omega, ?_, fun a ha => ?_⟩⟩
    · rw [Int.toNat_natCast]
      exact lt_line (by show 1 * n ≤ _; omega)
    rw [Int.toNat_natCast, rep_one]
    obtain ⟨s3, g3⟩ := rep_prices (n := n) hq1 ha
    have ha0 : H2 a = none := (same_new hq1).free ha
    revert s3 g3
    generalize upd (upd H2 q1 (.lst [nV pr])) a (.lst (List.replicate n (nV pr))) = H3
    intro s3 g3
    obtain ⟨nad, nac⟩ := D2.ne ha0
    have haH : H a = none := kp_none (kp1.trans kp2) ha0 nad
    have D3 := D2.keep s3
    refine ⟨_, rfl, d, c, 5, rfl, D3, by decide, by decide, fun m H4 hm D4 kp4 => ⟨_, rfl, by omega, by omega, ?_⟩⟩
    rw [Int.toNat_natCast]
    refine for_range (lo := 0) (n := m) (fun _ σ' H' => ∃ (c6 c7 c8 c9 ca : Option V) (ps : List (Option Nat)), σ' = [some (.ref d), some (nV pl), some (nV n), some (nV pr), some (nV sv), some (.ref a), c6, c7, c8, c9, ca] ∧ H' a = some (.lst (ps.map pV)) ∧ PrS ps n sv ∧ Dr H' d c ∧ Kp d H H')
      ⟨none, none, none, none, none, _, rfl, kp4 _ _ g3 nad, .rep hsv' hpr, D4, ((kp1.trans kp2).trans (Kp.of s3)).trans kp4⟩ ?_ ?_
    · rintro i σ' H5 hi ⟨c6, c7, c8, c9, ca, ps, rfl, g5, P5, D5, kp5⟩
      refine ⟨_, rfl, _, rfl, d, c, (pl : Int), rfl, D5, by omega, by omega, fun f1 H6 _ D6 kp6 => ?_⟩
      refine ⟨_, rfl, _, rfl, d, c, (pl : Int), rfl, D6, by omega, by omega, fun f2 H7 _ D7 kp7 => ?_⟩
      refine ⟨_, rfl, d, c, 2, rfl, D7, by decide, by decide, fun b1 H8 _ D8 kp8 => ⟨_, rfl, d, c, 2, rfl, D8, by decide, by decide, fun b2 H9 _ D9 kp9 => ⟨by show 2 ≤ sizeLine; decide, fun q hq => ?_⟩⟩⟩
      have sA : Same H9 (upd H9 q (.tup [nV b1, nV b2])) := same_new hq
      have gq : (upd H9 q (.tup [nV b1, nV b2])) q = some (.tup (nL [b1, b2])) := upd_same
      revert sA gq
      generalize upd H9 q (.tup [nV b1, nV b2]) = HA
      intro sA gq
      have nqd : q ≠ d := (D9.ne hq).1
      have gA : HA a = some (.lst (ps.map pV)) := sA _ _ (kp9 _ _ (kp8 _ _ (kp7 _ _ (kp6 _ _ g5 nad) nad) nad) nad)
      refine ⟨_, rfl, _, rfl, by omega, by omega, ?_⟩
      rw [Int.toNat_natCast]
      refine for_range (lo := 0) (n := n) (fun _ σ' H' => ∃ (ca : Option V) (ps : List (Option Nat)), σ' = [some (.ref d), some (nV pl), some (nV n), some (nV pr), some (nV sv), some (.ref a), some (.int (0 + (i : Int))), some (nV f1), some (nV f2), some (.ref q), ca] ∧ H' a = some (.lst (ps.map pV)) ∧ PrS ps n sv ∧ Dr H' d c ∧ Kp d H H' ∧ H' q = some (.tup (nL [b1, b2])))
        ⟨ca, ps, rfl, gA, P5, D9.keep sA, ((((kp5.trans kp6).trans kp7).trans kp8).trans kp9).trans (Kp.of sA), gq⟩ ?_ ?_
      · rintro j σ' HB hj ⟨ca, ps, rfl, gB, PB, DB, kpB, gqB⟩
        rw [Int.zero_add (j : Int)]
        have skip : ∀ HC, Same HB HC → ∃ (ca : Option V) (ps : List (Option Nat)), [some (V.ref d), some (nV pl), some (nV n), some (nV pr), some (nV sv), some (.ref a), some (.int (0 + (i : Int))), some (nV f1), some (nV f2), some (.ref q), some (.int (j : Int))] = [some (.ref d), some (nV pl), some (nV n), some (nV pr), some (nV sv), some (.ref a), some (.int (0 + (i : Int))), some (nV f1), some (nV f2), some (.ref q), ca] ∧ HC a = some (.lst (ps.map pV)) ∧ PrS ps n sv ∧ Dr HC d c ∧ Kp d H HC ∧ HC q = some (.tup (nL [b1, b2])) := fun HC sm => ⟨_, ps, rfl, sm _ _ gB, PB, DB.keep sm, kpB.trans (Kp.of sm), sm _ _ gqB⟩
        refine ⟨_, rfl, _, rfl, j, f1, rfl, rfl, _, 1, rfl, rfl, _, rfl, _, rfl, j, f2, rfl, rfl, _, 1, rfl, rfl, by show 2 ≤ sizeLine; decide, fun t ht => ⟨_, rfl, ?_⟩⟩
        have s1 := same_new (H := HB) (o := .tup [nV (j >>> f1 &&& 1), nV (j >>> f2 &&& 1)]) ht
        refine eqd_any (xs := [j >>> f1 &&& 1, j >>> f2 &&& 1]) (ys := [b1, b2]) (.inl (.inl upd_same)) (.inl (.inl (s1 _ _ gqB))) fun r => ⟨r, rfl, ite2 (fun _ => ?_) (fun _ => skip _ s1)⟩
        refine ⟨_, rfl, _, rfl, rfl, _, rfl, ite2 (fun h => ?_) (fun _ => skip _ s1)⟩
        have ne : j ≠ sv := fun z => by
          rw [z, Bool.not_eq_true', decide_eq_false_iff_not] at h
          exact h rfl
        refine ⟨_, rfl, _, rfl, sv, f1, rfl, rfl, _, 1, rfl, rfl, _, rfl, _, rfl, sv, f2, rfl, rfl, _, 1, rfl, rfl, by show 2 ≤ sizeLine; decide, fun t2 ht2 => ⟨_, rfl, ?_⟩⟩
        have s2 := s1.trans (same_new (o := .tup [nV (sv >>> f1 &&& 1), nV (sv >>> f2 &&& 1)]) ht2)
        refine ned_any (xs := [sv >>> f1 &&& 1, sv >>> f2 &&& 1]) (ys := [b1, b2]) (.inl (.inl upd_same)) (.inl (.inl (s2 _ _ gqB))) fun r2 => ⟨r2, rfl, ite2 (fun _ => ?_) (fun _ => skip _ s2)⟩
        have nqa : q ≠ a := fun z => by rw [z, gB] at gqB; cases gqB
        refine ⟨_, rfl, _, rfl, a, _, (j : Int), j, rfl, rfl, s2 _ _ gB, ixN_lt (by rw [List.length_map, PB.len]; exact hj), _, ps.set j none, rfl, by rw [upd_same, ← pL_set]; rfl, PB.out ne, (DB.keep s2).put nad nac, (kpB.trans (Kp.of s2)).new haH, by rw [upd_ne nqa]; exact s2 _ _ gqB⟩
      · rintro σ' HB ⟨ca, ps, rfl, gB, PB, DB, kpB, _⟩
        exact ⟨_, _, _, _, _, ps, rfl, gB, PB, DB, kpB⟩
    · rintro σ' H5 ⟨c6, c7, c8, c9, ca, ps, rfl, g5, P5, D5, kp5⟩
      refine ⟨_, rfl, _, rfl, a, _, rfl, .inl ⟨SqL.of g5, fun q hq => ?_⟩⟩
      exact mk_end k (P5.ok hsv' h1 h4 hn) D5 kp5 q hq
end
end L2.KK
namespace L2.KK
open PySem PySem.Spec PyProof.Rows C8
theorem sc_law_ties : FnScope ["d", "places", "size", "masks", "place", "spot", "groups", "mask", "gains", "saved", "base", "prices", "choice", "number", "cost", "k"] ["d", "places"] (defScope s_law_ties) := ⟨rfl, rfl, rfl, by decide +kernel, rfl, by decide +kernel, by decide +kernel⟩
theorem cut_nats (ms : List Nat) (lo hi : Option Int) : ∃ ls : List Nat, cutV (nL ms) lo hi = nL ls ∧ (∀ x ∈ ls, x ∈ ms) ∧ ls.length ≤ ms.length := by
  unfold cutV
  refine ⟨(ms.drop (HT.sIx (nL ms).length 0 lo)).take (HT.sIx (nL ms).length (nL ms).length hi - HT.sIx (nL ms).length 0 lo), ?_, fun x hx => List.mem_of_mem_drop (List.mem_of_mem_take hx), ?_⟩
  · show ((ms.map nV).drop _).take _ = (_ : List Nat).map nV
    rw [List.map_take, List.map_drop]
  · rw [List.length_take, List.length_drop]
    omega
theorem int_atI {gs : List Int} {i : Nat} (h : i < gs.length) : atI (gs.map V.int) (i : Int) = some (.int (gs.getD i 0)) := atI_nat (int_at h)
section
variable {P : Program} {w : World} {K : PySem.W.Frag} {mg : Str → Option Value} {base : Heap}
theorem c_law_ties (D : FnAt K mg "_law_ties" s_law_ties) (T : Bl mg) (c_law_draw : Cal P w K mg base 1 "_law_draw" spDraw []) : Cal P w K mg base 2 "_law_ties" (spMk K) [] := by
  refine calOf D sc_law_ties (fun _ _ _ _ _ _ us hl => match us, hl with | [_, _], _ => rfl) (fun vs H Q E h => ?_) (fun f cdv A outer s H vs Q E hr h => ?_)
  · obtain ⟨d, c, pl, rfl, _⟩ := h
    rfl
  · obtain ⟨d, c, pl, rfl, D, h1, h4, k⟩ := h
    have nd := sc_law_ties.nd
    have p16 : 2 ^ pl ≤ 2 ^ 4 := Nat.pow_le_pow_right (by decide) h4
    have p0 := Nat.two_pow_pos pl
    refine ⟨_, (pss_cons (ps_set (i := 2) nd rfl (by first | exact Or.inl rfl | exact Or.inr rfl) (pe_op op_shlNN pe_int (pv 1)))
      (pss_cons (ps_set (i := 3) nd rfl (by first | exact Or.inl rfl | exact Or.inr rfl) (pe_op op_rep (pe_lst (pa_cons pe_int pa_nil)) (pe_op op_addNN (pv 1) pe_int)))
      (pss_cons (ps_for PassesOwn.never rfl (pi_range1 (by rfl) T.b_range (pa_cons (pv 1) pa_nil)) (pg_name (i := 4) nd rfl (by first | exact Or.inl rfl | exact Or.inr rfl))
        (pss_cons (ps_set (i := 5) nd rfl (by first | exact Or.inl rfl | exact Or.inr rfl) (pe_c c_law_draw hr (by decide) (by rfl) (pa_cons (pv 0) (pa_cons (pe_op op_addNN (pv 1) pe_int) pa_nil))))
        (pss_one (ps_asg (pe_op op_orN (pe_ix (ixL K) (pv 3) (pv 5) (fun _ _ => rfl)) (pe_op op_shlNN pe_int (pv 4))) (pg_sub (pv 3) (pv 5) set_list)))))
      (pss_cons (ps_setLc (i := 6) (own := [("mask", 7)]) (g := gName 7) rfl nd rfl rfl (sw_true rfl rfl rfl (by decide +kernel)) (piList K (pe_slice (slL K) (pv 3) (po_some pe_int) po_none)) (blkOk_by (N := ["d", "places", "size", "masks", "place", "spot", "groups", "mask", "gains", "saved", "base", "prices", "choice", "number", "cost", "k"]) (sc := defScope s_law_ties) (own := [("mask", 7)]) (by decide +kernel)) (fun _ _ _ _ _ => (pg_name (i := 7) nd rfl (by first | exact Or.inl rfl | exact Or.inr rfl))) (fun _ _ _ _ _ => (pts_one (pt_cmpR op_gt (pv 7) pe_int (nomark _)))) (fun _ _ _ _ _ => (pv 7)))
      (pss_cons (ps_setLc (i := 8) (own := [("mask", 7)]) (g := gName 7) (tt := tYes) rfl nd rfl rfl (sw_true rfl rfl rfl (by decide +kernel)) (piList K (pv 6)) (blkOk_by (N := ["d", "places", "size", "masks", "place", "spot", "groups", "mask", "gains", "saved", "base", "prices", "choice", "number", "cost", "k"]) (sc := defScope s_law_ties) (own := [("mask", 7)]) (by decide +kernel)) (fun _ _ _ _ _ => (pg_name (i := 7) nd rfl (by first | exact Or.inl rfl | exact Or.inr rfl))) (fun _ _ _ _ _ => pts_nil) (fun _ _ _ _ _ => (pe_op op_sub (pe_c c_law_draw hr (by decide) (by rfl) (pa_cons (pv 0) (pa_cons pe_int pa_nil))) pe_int)))
      (pss_cons (ps_set (i := 9) nd rfl (by first | exact Or.inl rfl | exact Or.inr rfl) (pe_c c_law_draw hr (by decide) (by rfl) (pa_cons (pv 0) (pa_cons (pv 2) pa_nil))))
      (pss_cons (ps_set (i := 10) nd rfl (by first | exact Or.inl rfl | exact Or.inr rfl) (pe_op op_addNN (pe_op op_mulNN pe_int (pe_callB (crLen K) (by rfl) T.b_len (by decide +kernel) (pa_cons (pv 6) pa_nil))) (pe_c c_law_draw hr (by decide) (by rfl) (pa_cons (pv 0) (pa_cons pe_int pa_nil)))))
      (pss_cons (ps_set (i := 11) nd rfl (by first | exact Or.inl rfl | exact Or.inr rfl) (pe_op op_rep (pe_lst (pa_cons pe_non pa_nil)) (pv 2)))
      (pss_cons (ps_for PassesOwn.never rfl (pi_range1 (by rfl) T.b_range (pa_cons (pe_op op_shlNN pe_int (pe_callB (crLen K) (by rfl) T.b_len (by decide +kernel) (pa_cons (pv 6) pa_nil))) pa_nil)) (pg_name (i := 12) nd rfl (by first | exact Or.inl rfl | exact Or.inr rfl))
        (pss_cons (ps_set (i := 13) nd rfl (by first | exact Or.inl rfl | exact Or.inr rfl) (pv 9))
        (pss_cons (ps_set (i := 14) nd rfl (by first | exact Or.inl rfl | exact Or.inr rfl) (pv 10))
        (pss_cons (ps_for PassesOwn.never rfl (pi_range1 (by rfl) T.b_range (pa_cons (pe_callB (crLen K) (by rfl) T.b_len (by decide +kernel) (pa_cons (pv 6) pa_nil)) pa_nil)) (pg_name (i := 15) nd rfl (by first | exact Or.inl rfl | exact Or.inr rfl))
          (pss_one (ps_if (pt_cmpR op_eq (pe_op op_andN (pe_op op_shrNN (pv 12) (pv 15)) pe_int) pe_int (nomark _))
            (pss_cons (ps_set (i := 13) nd rfl (by first | exact Or.inl rfl | exact Or.inr rfl) (pe_op op_xorN (pv 13) (pe_ix (ixL K) (pv 6) (pv 15) (fun _ _ => rfl))))
            (pss_one (ps_aug (i := 14) nd rfl (by first | exact Or.inl rfl | exact Or.inr rfl) (pe_ix (ixL K) (pv 8) (pv 15) (fun _ _ => rfl)) ip_add)))
            pss_nil)))
        (pss_one (ps_asg (pv 14) (pg_sub (pv 11) (pv 13) set_list)))))))
      (pss_one (ps_ret (pe_tup (pa_cons (pv 1) (pa_cons (pe_callTy (crTup K) (by rfl) T.b_tuple (by decide +kernel) (pa_cons (pv 11) pa_nil)) pa_nil)))))))))))))), ?_⟩
    refine ⟨_, rfl, 1, pl, rfl, rfl, ⟨by omega, by decide⟩, ?_⟩
    obtain ⟨n, hn⟩ : ∃ n, 2 ^ pl = n := ⟨_, rfl⟩
    rw [hn] at p16 p0
    dsimp only
    rw [Nat.one_mul, hn]
    refine ⟨by show 1 ≤ sizeLine; decide, fun q1 hq1 => ⟨_, rfl, pl, 1, rfl, rfl, q1, ((pl + 1 : Nat) : Int), [.int 0], rfl, rfl, upd_same, by omega, by omega, ?_, fun M hM => ?_⟩⟩
    · rw [Int.toNat_natCast]
      exact lt_line (by show 1 * (pl + 1) ≤ _; omega)
    rw [Int.toNat_natCast, rep_one]
    have sA : Same H (upd (upd H q1 (.lst [.int 0])) M (.lst (List.replicate (pl + 1) (.int 0)))) := (same_new hq1).trans (same_new hM)
    have gA : (upd (upd H q1 (.lst [.int 0])) M (.lst (List.replicate (pl + 1) (.int 0)))) M = some (.lst (nL (List.replicate (pl + 1) 0))) := by
      rw [upd_same]
      show _ = some (HO.lst ((List.replicate (pl + 1) 0).map nV))
      rw [List.map_replicate]
      rfl
    have hM0 : H M = none := (same_new hq1).free hM
    revert sA gA
    generalize upd (upd H q1 (.lst [.int 0])) M (.lst (List.replicate (pl + 1) (.int 0))) = HA
    intro sA gA
    obtain ⟨nMd, nMc⟩ := D.ne hM0
    refine ⟨_, rfl, _, rfl, by omega, by omega, ?_⟩
    rw [Int.toNat_natCast]
    refine for_range (lo := 0) (n := pl) (fun _ σ' H' => ∃ (c4 c5 : Option V) (ms : List Nat), σ' = [some (.ref d), some (nV pl), some (nV n), some (.ref M), c4, c5, none, none, none, none, none, none, none, none, none, none] ∧ H' M = some (.lst (nL ms)) ∧ ms.length = pl + 1 ∧ (∀ m ∈ ms, m < n) ∧ Dr H' d c ∧ Kp d H H')
      ⟨none, none, _, rfl, gA, List.length_replicate, fun m hm => by rw [List.eq_of_mem_replicate hm]; exact p0, D.keep sA, Kp.of sA⟩ ?_ ?_
    · rintro i σ' H1 hi ⟨c4, c5, ms, rfl, g1, l1, b1, D1, kp1⟩
      rw [Int.zero_add]
      refine ⟨_, rfl, _, rfl, pl, 1, rfl, rfl, d, c, ((pl + 1 : Nat) : Int), rfl, D1, by omega, by omega, fun sp H2 hsp D2 kp2 => ?_⟩
      have hsp' : sp < ms.length := by omega
      have g2 := kp2 _ _ g1 nMd
      refine ⟨_, rfl, _, rfl, M, _, (sp : Int), _, rfl, rfl, SqL.of g2, nL_atI hsp', _, rfl, 1, i, rfl, rfl, ⟨by omega, by decide⟩, _, _, rfl, rfl, _, rfl, _, rfl, M, _, (sp : Int), sp, rfl, rfl, g2, ixN_lt (by rw [List.length_map]; exact hsp'), ?_⟩
      refine ⟨_, _, ms.set sp (ms.getD sp 0 ||| 1 * 2 ^ i), rfl, by rw [upd_same, ← nL_set], by rw [List.length_set]; exact l1, fun m hm => ?_, D2.put nMd nMc, (kp1.trans kp2).new hM0⟩
      rcases List.mem_or_eq_of_mem_set hm with z | z
      · exact b1 m z
      · rw [z, Nat.one_mul, ← hn]
        have e1 : ms.getD sp 0 < 2 ^ pl := by
          rw [hn]
          refine b1 _ ?_
          rw [List.getD_eq_getElem?_getD, List.getElem?_eq_getElem hsp']
          exact List.getElem_mem _
        exact Nat.or_lt_two_pow e1 (Nat.pow_lt_pow_right (by decide) hi)
    rintro σ' H1 ⟨c4, c5, ms, rfl, g1, l1, b1, D1, kp1⟩
    -- groups
    refine ⟨_, rfl, _, rfl, M, _, rfl, SqL.of g1, fun sl hsl => ?_⟩
    obtain ⟨ls, els, lsm, lsl⟩ := cut_nats ms (some 1) none
    rw [els]
    have s2 : Same H1 (upd H1 sl (.lst (nL ls))) := same_new hsl
    have g2 : (upd H1 sl (.lst (nL ls))) sl = some (.lst (nL ls)) := upd_same
    revert s2 g2
    generalize upd H1 sl (.lst (nL ls)) = H2
    intro s2 g2
    have lsl2 : (nL ls).length = ls.length := List.length_map _
    refine ⟨sl, rfl, ⟨_, SqL.of g2⟩, fun G hG => lc_listT (SqL.of g2) (sel := fun j => decide ((0 : Int) < ((ls.getD j 0 : Nat) : Int))) (P := fun j y _ => y = nV (ls.getD j 0)) ⟨fun _ _ _ _ _ h => h, fun j H3 hj _ R r => ⟨_, rfl, ((ls.getD j 0 : Nat) : Int), 0, nL_getD hj, rfl, _, rfl, r H3 (Same.refl H3)⟩, fun j H3 hj _ sm R r => ⟨_, rfl, r _ H3 (Same.refl H3) (nL_getD hj)⟩⟩ hG (lt_line (by omega)) (fun H3 ys s3 hys lys pry => ?_)⟩
    obtain ⟨gs, rfl, gsB⟩ : ∃ gs : List Nat, ys = nL gs ∧ ∀ x ∈ gs, x ≤ n - 1 := nats_list fun y hy => by
      obtain ⟨j, hj, ey⟩ := pr_mem pry y hy
      have hj' := List.mem_range.mp (List.mem_filter.mp hj).1
      refine ⟨_, ey, ?_⟩
      have : ls.getD j 0 ∈ ls := by
        rw [List.getD_eq_getElem?_getD, List.getElem?_eq_getElem (by omega)]
        exact List.getElem_mem _
      have := b1 _ (lsm _ this)
      omega
    have gsl : gs.length ≤ 5 := by
      rw [List.length_map] at lys
      omega
    have D3 := (D1.keep s2).keep s3
    have kp3 := (kp1.trans (Kp.of s2)).trans (Kp.of s3)
    have nGd : G ≠ d := ((D1.keep s2).ne hG).1
    have nlg : (nL gs).length = gs.length := List.length_map _
    -- gains
    refine ⟨_, rfl, G, rfl, ⟨_, SqL.of hys⟩, fun W hW => ?_⟩
    obtain ⟨nWd, nWc⟩ := D3.ne hW
    have nGW : G ≠ W := fun z => by rw [← z, hys] at hW; cases hW
    refine lc_list (K := K) (a := G) (xs := nL gs) (fun i H' => ∃ ga : List Int, H' W = some (.lst (ga.map V.int)) ∧ ga.length = i ∧ (∀ x ∈ ga, -5 ≤ x ∧ x ≤ 5) ∧ H' G = some (.lst (nL gs)) ∧ Dr H' d c ∧ Kp d H3 H')
      ⟨[], upd_same, rfl, fun _ h => (nomatch h), by rw [upd_ne nGW]; exact hys, D3.put nWd nWc, (Kp.refl d H3).new hW⟩ (fun _ _ _ ⟨_, _, _, _, g, _⟩ => SqL.of g) ?_ ?_
    · rintro i x H4 hx ⟨ga, g4, l4, b4, gG, D4, kp4⟩
      refine ⟨rfl, ?_⟩
      refine ⟨_, rfl, d, c, 11, rfl, D4, by decide, by decide, fun m H5 hm D5 kp5 => ⟨m, 5, rfl, rfl, ?_⟩⟩
      have hi := (List.getElem?_eq_some_iff.mp hx).1
      refine ⟨_, kp5 _ _ g4 nWd, Nat.lt_of_le_of_lt (show (ga.map V.int).length ≤ 5 by rw [List.length_map]; omega) (by decide), ga ++ [(m : Int) - 5], by rw [upd_same, List.map_append]; rfl, by rw [List.length_append, l4]; rfl, fun x hx => ?_, by rw [upd_ne nGW]; exact kp5 _ _ gG nGd, D5.put nWd nWc, (kp4.trans kp5).new hW⟩
      rcases List.mem_append.mp hx with z | z
      · exact b4 x z
      · rw [List.mem_singleton.mp z]
        omega
    rintro H4 ⟨ga, g4, l4, b4, gG, D4, kp4⟩
    rw [nlg] at l4
    -- saved, base
    refine ⟨_, rfl, _, rfl, d, c, (n : Int), rfl, D4, by omega, by omega, fun sv H5 hsv D5 kp5 => ?_⟩
    have hsv' : sv < n := by omega
    refine ⟨_, rfl, G, _, rfl, .inl (SqL.of (kp5 _ _ gG nGd)), 5, gs.length, rfl, by rw [nlg], .inl (by decide), _, rfl, d, c, 4, rfl, D5, by decide, by decide, fun x4 H6 hx4 D6 kp6 => ⟨5 * gs.length, x4, rfl, rfl, ?_⟩⟩
    obtain ⟨bs, hbs⟩ : ∃ bs, 5 * gs.length + x4 = bs := ⟨_, rfl⟩
    dsimp only
    rw [hbs]
    have gG6 := kp6 _ _ (kp5 _ _ gG nGd) nGd
    have gW6 := kp6 _ _ (kp5 _ _ g4 nWd) nWd
    -- prices
    refine ⟨by show 1 ≤ sizeLine; decide, fun q2 hq2 => ⟨_, rfl, q2, (n : Int), [.non], rfl, rfl, upd_same, by omega, by omega, ?_, fun p hp => ?_⟩⟩
    · rw [Int.toNat_natCast]
      exact lt_line (by show 1 * n ≤ _; omega)
    rw [Int.toNat_natCast, rep_one]
    have s7 : Same H6 (upd (upd H6 q2 (.lst [.non])) p (.lst (List.replicate n .non))) := (same_new hq2).trans (same_new hp)
    have g7 : (upd (upd H6 q2 (.lst [.non])) p (.lst (List.replicate n .non))) p = some (.lst ((List.replicate n (none : Option Nat)).map pV)) := by rw [upd_same, List.map_replicate]; rfl
    have hp6 : H6 p = none := (same_new hq2).free hp
    revert s7 g7
    generalize upd (upd H6 q2 (.lst [.non])) p (.lst (List.replicate n .non)) = H7
    intro s7 g7
    obtain ⟨npd, npc⟩ := D6.ne hp6
    have npG : p ≠ G := fun z => by rw [← z, hp6] at gG6; cases gG6
    have npW : p ≠ W := fun z => by rw [← z, hp6] at gW6; cases gW6
    have kp6H : Kp d H H6 := ((kp3.trans kp4).trans kp5).trans kp6
    have hpH : H p = none := kp_none kp6H hp6 npd
    have p32 : 2 ^ gs.length ≤ 2 ^ 5 := Nat.pow_le_pow_right (by decide) gsl
    have pg0 := Nat.two_pow_pos gs.length
    refine ⟨_, rfl, G, _, rfl, .inl (SqL.of (s7 _ _ gG6)), 1, gs.length, rfl, by rw [nlg], ⟨by omega, by decide⟩, _, rfl, by omega, by omega, ?_⟩
    rw [Int.toNat_natCast, Nat.one_mul]
    refine for_range (lo := 0) (n := 2 ^ gs.length) (fun i σ' H' => ∃ (cc cd ce cf : Option V) (ps : List (Option Nat)), σ' = [some (.ref d), some (nV pl), some (nV n), some (.ref M), c4, c5, some (.ref G), none, some (.ref W), some (nV sv), some (nV bs), some (.ref p), cc, cd, ce, cf] ∧ H' p = some (.lst (ps.map pV)) ∧ ps.length = n ∧ (∀ j m, ps.getD j none = some m → m ≤ 1000) ∧ (1 ≤ i → (ps.getD sv none).isSome = true) ∧ H' G = some (.lst (nL gs)) ∧ H' W = some (.lst (ga.map V.int)) ∧ Dr H' d c ∧ Kp d H H')
      ⟨none, none, none, none, _, rfl, g7, List.length_replicate, fun j m e => (by
        rw [List.getD_eq_getElem?_getD, List.getElem?_replicate] at e
        split at e <;> cases e), fun h => absurd h (by decide), s7 _ _ gG6, s7 _ _ gW6, D6.keep s7, kp6H.trans (Kp.of s7)⟩ ?_ ?_
    · rintro i σ' H8 hi ⟨cc, cd, ce, cf, ps, rfl, g8, l8, b8, o8, gG8, gW8, D8, kp8⟩
      rw [Int.zero_add]
      refine ⟨_, rfl, _, rfl, _, rfl, G, _, rfl, .inl (SqL.of gG8), _, rfl, by omega, by omega, ?_⟩
      rw [Int.toNat_natCast, nlg]
      refine for_range (lo := 0) (n := gs.length) (fun j σ' H' => ∃ (num : Nat) (cost : Int) (cf : Option V), σ' = [some (.ref d), some (nV pl), some (nV n), some (.ref M), c4, c5, some (.ref G), none, some (.ref W), some (nV sv), some (nV bs), some (.ref p), some (.int (i : Int)), some (nV num), some (.int cost), cf] ∧ H' = H8 ∧ num < n ∧ (bs : Int) - 5 * j ≤ cost ∧ cost ≤ (bs : Int) + 5 * j ∧ (i = 0 → num = sv))
        ⟨sv, (bs : Int), cf, rfl, rfl, hsv', by omega, by omega, fun _ => rfl⟩ ?_ ?_
      · rintro j σ' H9 hj ⟨num, cost, cf, rfl, rfl, hnum, c1, c2, h0⟩
        rw [Int.zero_add]
        refine ⟨_, rfl, _, rfl, i, j, rfl, rfl, _, 1, rfl, rfl, rfl, _, rfl, ite2 (fun h => ?_) (fun _ => ⟨num, cost, _, rfl, rfl, hnum, by omega, by omega, h0⟩)⟩
        have i0 : i ≠ 0 := fun z => by
          have := V.int.inj (of_decide_eq_true h)
          rw [z, Nat.zero_shiftRight] at this
          cases this
        have hjg : gs.getD j 0 < n := by
          have := gsB (gs.getD j 0) (by
            rw [List.getD_eq_getElem?_getD, List.getElem?_eq_getElem hj]
            exact List.getElem_mem _)
          omega
        have hja : -5 ≤ ga.getD j 0 ∧ ga.getD j 0 ≤ 5 := b4 _ (by
          rw [List.getD_eq_getElem?_getD, List.getElem?_eq_getElem (by omega)]
          exact List.getElem_mem _)
        refine ⟨_, rfl, _, rfl, _, rfl, G, _, (j : Int), _, rfl, rfl, SqL.of gG8, nL_atI hj, num, _, rfl, rfl, ?_⟩
        refine ⟨_, rfl, _, rfl, _, rfl, W, _, (j : Int), _, rfl, rfl, SqL.of gW8, int_atI (by omega), cost, _, rfl, rfl, num ^^^ gs.getD j 0, cost + ga.getD j 0, _, rfl, rfl, ?_, by omega, by omega, fun z => absurd z i0⟩
        rw [← hn] at hnum hjg ⊢
        exact Nat.xor_lt_two_pow hnum hjg
      · rintro σ' H9 ⟨num, cost, cf, rfl, rfl, hnum, c1, c2, h0⟩
        obtain ⟨co, rfl⟩ : ∃ co : Nat, cost = (co : Int) := ⟨cost.toNat, by omega⟩
        refine ⟨_, rfl, _, rfl, _, rfl, p, _, (num : Int), num, rfl, rfl, g8, ixN_lt (by rw [List.length_map]; omega), ?_⟩
        refine ⟨_, _, _, _, ps.set num (some co), rfl, by rw [upd_same, ← pL_set]; rfl, by rw [List.length_set]; exact l8, fun j m e => ?_, fun _ => ?_, by rw [upd_ne npG.symm]; exact gG8, by rw [upd_ne npW.symm]; exact gW8, D8.put npd npc, kp8.new hpH⟩
        · rw [getD_set] at e
          split at e
          · cases e; omega
          · exact b8 j m e
        · rw [getD_set]
          split
          · rfl
          · rename_i hne
            by_cases z : i = 0
            · exact absurd ⟨h0 z, by omega⟩ hne
            · exact o8 (by omega)
    · rintro σ' H8 ⟨cc, cd, ce, cf, ps, rfl, g8, l8, b8, o8, gG8, gW8, D8, kp8⟩
      refine ⟨_, rfl, _, rfl, p, _, rfl, .inl ⟨SqL.of g8, fun q hq => ?_⟩⟩
      exact mk_end k ((⟨l8, b8, o8 pg0⟩ : PrS ps n sv).ok hsv' h1 h4 hn) D8 kp8 q hq
end
end L2.KK
namespace L2.KK
open PySem PySem.Spec PyProof.Rows C8
theorem sc_law_kind_table : FnScope ["d", "kind", "places"] ["d", "kind", "places"] (defScope s_law_kind_table) := ⟨rfl, rfl, rfl, by decide +kernel, rfl, by decide +kernel, by decide +kernel⟩
theorem sc_law_kind_lot : FnScope ["d", "kind", "many", "places", "k"] ["d", "kind", "many", "places"] (defScope s_law_kind_lot) := ⟨rfl, rfl, rfl, by decide +kernel, rfl, by decide +kernel, by decide +kernel⟩
theorem sc_law_sure_hard : FnScope ["d", "a", "b", "way"] ["d"] (defScope s_law_sure_hard) := ⟨rfl, rfl, rfl, by decide +kernel, rfl, by decide +kernel, by decide +kernel⟩
theorem sc_law_hard_lot : FnScope ["d", "tables", "k", "places"] ["d"] (defScope s_law_hard_lot) := ⟨rfl, rfl, rfl, by decide +kernel, rfl, by decide +kernel, by decide +kernel⟩
theorem sc_law_any_lot : FnScope ["d"] ["d"] (defScope s_law_any_lot) := ⟨rfl, rfl, rfl, by decide +kernel, rfl, by decide +kernel, by decide +kernel⟩
/-- a drawn lot, as the law has it -/
def MkL (K : PySem.W.Frag) (d c : Addr) (H : Hp) (Q : VK) : Prop := ∀ tl tbs H', H tl = none → LTs K H' tl tbs → 1 ≤ tbs.length → tbs.length ≤ 4 → (∀ t ∈ tbs, TbOk t) → Dr H' d c → Kp d H H' → Q (.ref tl) H'
theorem pn {ps : List (Option Nat)} (h : PrOk ps) : PrOk (none :: ps) := fun p hp m hm => by
  rcases List.mem_cons.mp hp with z | z
  · rw [z] at hm; cases hm
  · exact h p z m hm
theorem psm {ps : List (Option Nat)} {x : Nat} (hx : x ≤ 1000) (h : PrOk ps) : PrOk (some x :: ps) := fun p hp m hm => by
  rcases List.mem_cons.mp hp with z | z
  · rw [z] at hm; cases hm; exact hx
  · exact h p z m hm
theorem pnil : PrOk [] := fun p hp => nomatch hp
theorem paired2 {K : PySem.W.Frag} {H H' : Hp} {ys : List V} {ts : List Tb} (h : Paired (LTR K H) ys ts) (e : Same H H') : Paired (LTR K H') ys ts := Paired.mapP h fun _ _ q => q.imm (Same.imm e)
theorem TbL.nil : ∀ t ∈ ([] : List Tb), TbOk t := fun _ h => nomatch h
theorem TbL.cons {t : Tb} {l : List Tb} (h : TbOk t) (k : ∀ t ∈ l, TbOk t) : ∀ x ∈ t :: l, TbOk x := fun x hx => by
  rcases List.mem_cons.mp hx with z | z
  · rw [z]; exact h
  · exact k x z
section
variable {P : Program} {w : World} {K : PySem.W.Frag} {mg : Str → Option Value} {base : Heap}
def spKT (K : PySem.W.Frag) : Sp := fun vs H Q _ => ∃ (d c : Addr) (z : Str) (pl : Nat), vs = [.ref d, .str z, nV pl] ∧ Dr H d c ∧ 1 ≤ pl ∧ pl ≤ 4 ∧ MkT K d c pl H Q
theorem c_law_kind_table (D : FnAt K mg "_law_kind_table" s_law_kind_table) (T : Bl mg) (c_law_zero : Cal P w K mg base 6 "_law_zero" (spMk K) []) (c_law_turned : Cal P w K mg base 1 "_law_turned" (spTurn K) []) (c_law_least : Cal P w K mg base 2 "_law_least" (spMk K) []) (c_law_cut : Cal P w K mg base 3 "_law_cut" (spMk K) [])
    (c_law_twos : Cal P w K mg base 4 "_law_twos" (spMk K) []) (c_law_sums : Cal P w K mg base 4 "_law_sums" (spMk K) []) (c_law_ties : Cal P w K mg base 2 "_law_ties" (spMk K) []) : Cal P w K mg base 7 "_law_kind_table" (spKT K) [] := by
  refine calOf D sc_law_kind_table (fun _ _ _ _ _ _ us hl => match us, hl with | [_, _, _], _ => rfl) (fun vs H Q E h => ?_) (fun f cdv A outer s H vs Q E hr h => ?_)
  · obtain ⟨d, c, z, pl, rfl, _⟩ := h
    rfl
  · obtain ⟨d, c, z, pl, rfl, D, h1, h4, k⟩ := h
    have kt : MkT K d c pl H fun v H' => ∃ (y : V) (pl' : Nat) (ps : List (Option Nat)), [v] ++ [] = [y] ∧ LTR K H' y (pl', ps) ∧ TbOk (pl', ps) ∧ ∀ y' ps' H2, TbOk (pl', ps') → LTR K H2 y' (pl', ps') → Same H' H2 → Q y' H2 := fun y ps H' ok lt D' kp => ⟨y, pl, ps, rfl, lt, ok, fun y' ps' H2 ok2 lt2 sm => k y' ps' H2 ok2 lt2 (D'.keep sm) (kp.trans (Kp.of sm))⟩
    refine ⟨_, (pss_cons (ps_if (pt_cmpR op_eq (pv 1) pe_str (nomark _))
        (pss_one (ps_ret (pe_c c_law_zero hr (by decide) (by rfl) (pa_cons (pv 0) (pa_cons (pv 2) pa_nil)))))
        pss_nil)
      (pss_cons (ps_if (pt_cmpR op_eq (pv 1) pe_str (nomark _))
        (pss_one (ps_ret (pe_c c_law_turned hr (by decide) (by rfl) (pa_cons (pe_c c_law_zero hr (by decide) (by rfl) (pa_cons (pv 0) (pa_cons (pv 2) pa_nil))) pa_nil))))
        pss_nil)
      (pss_cons (ps_if (pt_cmpR op_eq (pv 1) pe_str (nomark _))
        (pss_one (ps_ret (pe_c c_law_least hr (by decide) (by rfl) (pa_cons (pv 0) (pa_cons (pv 2) pa_nil)))))
        pss_nil)
      (pss_cons (ps_if (pt_cmpR op_eq (pv 1) pe_str (nomark _))
        (pss_one (ps_ret (pe_c c_law_turned hr (by decide) (by rfl) (pa_cons (pe_c c_law_least hr (by decide) (by rfl) (pa_cons (pv 0) (pa_cons (pv 2) pa_nil))) pa_nil))))
        pss_nil)
      (pss_cons (ps_if (pt_cmpR op_eq (pv 1) pe_str (nomark _))
        (pss_one (ps_ret (pe_c c_law_cut hr (by decide) (by rfl) (pa_cons (pv 0) (pa_cons (pv 2) pa_nil)))))
        pss_nil)
      (pss_cons (ps_if (pt_cmpR op_eq (pv 1) pe_str (nomark _))
        (pss_one (ps_ret (pe_c c_law_twos hr (by decide) (by rfl) (pa_cons (pv 0) (pa_cons (pv 2) pa_nil)))))
        pss_nil)
      (pss_cons (ps_if (pt_cmpR op_eq (pv 1) pe_str (nomark _))
        (pss_one (ps_ret (pe_c c_law_sums hr (by decide) (by rfl) (pa_cons (pv 0) (pa_cons (pv 2) pa_nil)))))
        pss_nil)
      (pss_one (ps_ret (pe_c c_law_ties hr (by decide) (by rfl) (pa_cons (pv 0) (pa_cons (pv 2) pa_nil)))))))))))), ?_⟩
    refine ⟨_, rfl, rfl, _, rfl, ite2 (fun _ => ⟨_, rfl, _, rfl, d, c, pl, rfl, D, h1, h4, k⟩) (fun _ => ?_)⟩
    refine ⟨_, rfl, rfl, _, rfl, ite2 (fun _ => ⟨_, rfl, _, rfl, d, c, pl, rfl, D, h1, h4, kt⟩) (fun _ => ?_)⟩
    refine ⟨_, rfl, rfl, _, rfl, ite2 (fun _ => ⟨_, rfl, _, rfl, d, c, pl, rfl, D, h1, h4, k⟩) (fun _ => ?_)⟩
    refine ⟨_, rfl, rfl, _, rfl, ite2 (fun _ => ⟨_, rfl, _, rfl, d, c, pl, rfl, D, h1, h4, kt⟩) (fun _ => ?_)⟩
    refine ⟨_, rfl, rfl, _, rfl, ite2 (fun _ => ⟨_, rfl, _, rfl, d, c, pl, rfl, D, h1, h4, k⟩) (fun _ => ?_)⟩
    refine ⟨_, rfl, rfl, _, rfl, ite2 (fun _ => ⟨_, rfl, _, rfl, d, c, pl, rfl, D, h1, h4, k⟩) (fun _ => ?_)⟩
    refine ⟨_, rfl, rfl, _, rfl, ite2 (fun _ => ⟨_, rfl, _, rfl, d, c, pl, rfl, D, h1, h4, k⟩) (fun _ => ?_)⟩
    exact ⟨_, rfl, _, rfl, d, c, pl, rfl, D, h1, h4, k⟩
def spKL (K : PySem.W.Frag) : Sp := fun vs H Q _ => ∃ (d c : Addr) (z : Str) (many pls : Nat), vs = [.ref d, .str z, nV many, nV pls] ∧ Dr H d c ∧ 1 ≤ many ∧ many ≤ 4 ∧ 1 ≤ pls ∧ pls ≤ 4 ∧ MkL K d c H Q
theorem c_law_kind_lot (D : FnAt K mg "_law_kind_lot" s_law_kind_lot) (T : Bl mg) (c_law_draw : Cal P w K mg base 1 "_law_draw" spDraw []) (c_law_kind_table : Cal P w K mg base 7 "_law_kind_table" (spKT K) []) : Cal P w K mg base 8 "_law_kind_lot" (spKL K) [] := by
  refine calOf D sc_law_kind_lot (fun _ _ _ _ _ _ us hl => match us, hl with | [_, _, _, _], _ => rfl) (fun vs H Q E h => ?_) (fun f cdv A outer s H vs Q E hr h => ?_)
  · obtain ⟨d, c, z, many, pls, rfl, _⟩ := h
    rfl
  · obtain ⟨d, c, z, many, pls, rfl, D, m1, m4, p1, p4, k⟩ := h
    have nd := sc_law_kind_lot.nd
    refine ⟨_, (pss_one (ps_ret (pe_lc (own := [("k", 4)]) (g := gName 4) (tt := tYes) rfl nd (pi_range1 (by rfl) T.b_range (pa_cons (pv 2) pa_nil)) (blkOk_by (N := ["d", "kind", "many", "places", "k"]) (sc := defScope s_law_kind_lot) (own := [("k", 4)]) (by decide +kernel)) (fun _ _ _ _ _ => (pg_name (i := 4) nd rfl (by first | exact Or.inl rfl | exact Or.inr rfl))) (fun _ _ _ _ _ => pts_nil) (fun _ _ _ _ _ => (pe_c c_law_kind_table hr (by decide) (by rfl) (pa_cons (pv 0) (pa_cons (pv 1) (pa_cons (pe_op op_addNN pe_int (pe_c c_law_draw hr (by decide) (by rfl) (pa_cons (pv 0) (pa_cons (pv 3) pa_nil)))) pa_nil)))))))), ?_⟩
    refine ⟨_, rfl, _, rfl, by omega, by omega, ?_⟩
    rw [Int.toNat_natCast]
    intro W hW
    obtain ⟨nWd, nWc⟩ := D.ne hW
    refine lc_range (lo := 0) (n := many) (fun j H' => ∃ (ys : List V) (tbs : List Tb), H' W = some (.lst ys) ∧ Paired (LTR K H') ys tbs ∧ tbs.length = j ∧ (∀ t ∈ tbs, TbOk t) ∧ Dr H' d c ∧ Kp d H H') ⟨[], [], upd_same, .nil, rfl, TbL.nil, D.put nWd nWc, (Kp.refl d H).new hW⟩ ?_ ?_
    · rintro j H1 hj ⟨ys, tbs, g1, pr, l1, ok, D1, kp1⟩
      refine ⟨rfl, ?_⟩
      refine ⟨_, rfl, _, rfl, _, rfl, _, rfl, d, c, (pls : Int), rfl, D1, by omega, by omega, fun x H2 hx D2 kp2 => ⟨1, x, rfl, rfl, d, c, z, 1 + x, rfl, D2, by omega, by omega, fun y ps H3 ok3 lt3 D3 kp3 => ?_⟩⟩
      obtain ⟨yl, _⟩ := paired_at pr
      have g3 := kp3 _ _ (kp2 _ _ g1 nWd) nWd
      have im : Imm H1 (upd H3 W (.lst (ys ++ [y]))) := ((Kp.imm kp2 D1).trans (Kp.imm kp3 D2)).trans (imm_upd g3 trivial)
      refine ⟨ys, g3, Nat.lt_of_le_of_lt (show ys.length ≤ 4 by omega) (by decide), ys ++ [y], tbs ++ [(1 + x, ps)], upd_same, paired_snoc (Paired.mapP pr fun _ _ q => q.imm im) (lt3.imm (imm_upd g3 trivial)), by rw [List.length_append, l1]; rfl, fun t ht => ?_, D3.put nWd nWc, ((kp1.trans kp2).trans kp3).new hW⟩
      rcases List.mem_append.mp ht with z | z
      · exact ok t z
      · rw [List.mem_singleton.mp z]; exact ok3
    · rintro H1 ⟨ys, tbs, g1, pr, l1, ok, D1, kp1⟩
      exact k W tbs H1 hW ⟨ys, g1, pr⟩ (by omega) (by omega) ok D1 kp1
def spLot0 (K : PySem.W.Frag) : Sp := fun vs H Q _ => ∃ (d c : Addr), vs = [.ref d] ∧ Dr H d c ∧ MkL K d c H Q
theorem ltr_new {H : Hp} {q p : Addr} {pl : Nat} {ps : List (Option Nat)} {ys : List V} {ts : List Tb} (pr : Paired (LTR K H) ys ts) (hq : H q = none) (hp : (upd H q (.tup (ps.map pV))) p = none) : Same H (upd (upd H q (.tup (ps.map pV))) p (.tup [nV pl, .ref q])) ∧ Paired (LTR K (upd (upd H q (.tup (ps.map pV))) p (.tup [nV pl, .ref q]))) (ys ++ [.ref p]) (ts ++ [(pl, ps)]) := by
  obtain ⟨sm, lt⟩ := mk_ltr (K := K) (pl := pl) hq hp
  exact ⟨sm, paired_snoc (paired2 pr sm) lt⟩
theorem lot_end {d c : Addr} {H H1 : Hp} {Q : VK} {ys : List V} {ts : List Tb} (k : MkL K d c H Q) (D : Dr H1 d c) (kp : Kp d H H1) (pr : Paired (LTR K H1) ys ts) (l1 : 1 ≤ ts.length) (l4 : ts.length ≤ 4) (ok : ∀ t ∈ ts, TbOk t) : ∀ tl, H1 tl = none → Q (.ref tl) (upd H1 tl (.lst ys)) := fun tl h => by
  have sm : Same H1 (upd H1 tl (.lst ys)) := same_new h
  exact k tl ts _ (kp_none kp h (D.ne h).1) ⟨ys, upd_same, paired2 pr sm⟩ l1 l4 ok (D.keep sm) (kp.trans (Kp.of sm))
theorem c_law_sure_hard (D : FnAt K mg "_law_sure_hard" s_law_sure_hard) (T : Bl mg) (c_law_draw : Cal P w K mg base 1 "_law_draw" spDraw []) : Cal P w K mg base 2 "_law_sure_hard" (spLot0 K) [] := by
  refine calOf D sc_law_sure_hard (fun _ _ _ _ _ _ us hl => match us, hl with | [_], _ => rfl) (fun vs H Q E h => ?_) (fun f cdv A outer s H vs Q E hr h => ?_)
  · obtain ⟨d, c, rfl, _⟩ := h
    rfl
  · obtain ⟨d, c, rfl, D, k⟩ := h
    have nd := sc_law_sure_hard.nd
    refine ⟨_, (pss_cons (ps_set (i := 1) nd rfl (by first | exact Or.inl rfl | exact Or.inr rfl) (pe_c c_law_draw hr (by decide) (by rfl) (pa_cons (pv 0) (pa_cons pe_int pa_nil))))
      (pss_cons (ps_set (i := 2) nd rfl (by first | exact Or.inl rfl | exact Or.inr rfl) (pe_c c_law_draw hr (by decide) (by rfl) (pa_cons (pv 0) (pa_cons pe_int pa_nil))))
      (pss_cons (ps_set (i := 3) nd rfl (by first | exact Or.inl rfl | exact Or.inr rfl) (pe_c c_law_draw hr (by decide) (by rfl) (pa_cons (pv 0) (pa_cons pe_int pa_nil))))
      (pss_cons (ps_if (pt_cmpR op_eq (pv 3) pe_int (nomark _))
        (pss_one (ps_ret (pe_lst (pa_cons (pe_tup (pa_cons pe_int (pa_cons (pe_tup (pa_cons pe_non (pa_cons (pv 1) (pa_cons (pv 1) (pa_cons pe_non (pa_cons (pv 1) (pa_cons pe_non (pa_cons pe_non (pa_cons pe_non pa_nil))))))))) pa_nil))) pa_nil))))
        pss_nil)
      (pss_cons (ps_if (pt_cmpR op_eq (pv 3) pe_int (nomark _))
        (pss_one (ps_ret (pe_lst (pa_cons (pe_tup (pa_cons pe_int (pa_cons (pe_tup (pa_cons pe_non (pa_cons (pv 1) (pa_cons (pv 1) (pa_cons (pv 1) (pa_cons (pv 1) (pa_cons (pv 1) (pa_cons (pv 1) (pa_cons pe_non pa_nil))))))))) pa_nil))) pa_nil))))
        pss_nil)
      (pss_cons (ps_if (pt_cmpR op_eq (pv 3) pe_int (nomark _))
        (pss_one (ps_ret (pe_lst (pa_cons (pe_tup (pa_cons pe_int (pa_cons (pe_tup (pa_cons (pe_op op_addNN (pe_op op_addNN (pv 1) (pv 2)) pe_int) (pa_cons (pv 1) (pa_cons (pv 1) (pa_cons (pe_op op_addNN (pv 1) pe_int) pa_nil))))) pa_nil))) pa_nil))))
        pss_nil)
      (pss_cons (ps_if (pt_cmpR op_eq (pv 3) pe_int (nomark _))
        (pss_one (ps_ret (pe_lst (pa_cons (pe_tup (pa_cons pe_int (pa_cons (pe_tup (pa_cons (pe_op op_addNN (pv 1) pe_int) (pa_cons (pv 1) (pa_cons (pv 1) (pa_cons (pe_op op_addNN (pv 1) pe_int) pa_nil))))) pa_nil))) pa_nil))))
        pss_nil)
      (pss_cons (ps_if (pt_cmpR op_eq (pv 3) pe_int (nomark _))
        (pss_one (ps_ret (pe_lst (pa_cons (pe_tup (pa_cons pe_int (pa_cons (pe_tup (pa_cons pe_non (pa_cons (pv 1) (pa_cons (pv 1) (pa_cons (pe_op op_addNN (pe_op op_addNN (pv 1) (pv 2)) pe_int) (pa_cons (pv 1) (pa_cons (pe_op op_addNN (pe_op op_addNN (pv 1) (pv 2)) pe_int) (pa_cons (pe_op op_addNN (pe_op op_addNN (pv 1) (pv 2)) pe_int) (pa_cons pe_non pa_nil))))))))) pa_nil))) (pa_cons (pe_tup (pa_cons pe_int (pa_cons (pe_tup (pa_cons (pv 2) (pa_cons (pe_op op_addNN (pv 2) pe_int) pa_nil))) pa_nil))) pa_nil)))))
        pss_nil)
      (pss_cons (ps_if (pt_cmpR op_eq (pv 3) pe_int (nomark _))
        (pss_one (ps_ret (pe_lst (pa_cons (pe_tup (pa_cons pe_int (pa_cons (pe_tup (pa_cons (pv 1) (pa_cons (pv 1) (pa_cons (pv 1) (pa_cons pe_non pa_nil))))) pa_nil))) (pa_cons (pe_tup (pa_cons pe_int (pa_cons (pe_tup (pa_cons pe_non (pa_cons (pv 1) (pa_cons (pv 1) (pa_cons (pv 2) pa_nil))))) pa_nil))) (pa_cons (pe_tup (pa_cons pe_int (pa_cons (pe_tup (pa_cons (pe_op op_addNN (pv 2) pe_int) (pa_cons (pv 2) pa_nil))) pa_nil))) (pa_cons (pe_tup (pa_cons pe_int (pa_cons (pe_tup (pa_cons (pv 2) (pa_cons (pe_op op_addNN (pv 2) pe_int) pa_nil))) pa_nil))) pa_nil)))))))
        pss_nil)
      (pss_one (ps_ret (pe_lst (pa_cons (pe_tup (pa_cons pe_int (pa_cons (pe_tup (pa_cons (pv 2) (pa_cons pe_non (pa_cons pe_non (pa_cons (pv 1) (pa_cons pe_non (pa_cons (pe_op op_addNN (pv 1) pe_int) (pa_cons (pv 1) (pa_cons pe_non pa_nil))))))))) pa_nil))) (pa_cons (pe_tup (pa_cons pe_int (pa_cons (pe_tup (pa_cons pe_non (pa_cons (pv 2) (pa_cons (pv 2) (pa_cons pe_non pa_nil))))) pa_nil))) (pa_cons (pe_tup (pa_cons pe_int (pa_cons (pe_tup (pa_cons pe_int (pa_cons pe_int (pa_cons pe_int (pa_cons pe_int pa_nil))))) pa_nil))) pa_nil))))))))))))))), ?_⟩
    refine ⟨_, rfl, d, c, 5, rfl, D, by decide, by decide, fun a H1 ha D1 kp1 => ?_⟩
    refine ⟨_, rfl, d, c, 5, rfl, D1, by decide, by decide, fun b H2 hb D2 kp2 => ?_⟩
    refine ⟨_, rfl, d, c, 7, rfl, D2, by decide, by decide, fun wy H3 _ D3 kp3 => ?_⟩
    have kpH := (kp1.trans kp2).trans kp3
    have one : ∀ (pl : Nat) (ps : List (Option Nat)), TbOk (pl, ps) → ∀ q, H3 q = none → 2 ≤ sizeLine ∧ ∀ p, (upd H3 q (.tup (ps.map pV))) p = none → 1 ≤ sizeLine ∧ ∀ tl, (upd (upd H3 q (.tup (ps.map pV))) p (.tup [nV pl, .ref q])) tl = none → Q (.ref tl) (upd (upd (upd H3 q (.tup (ps.map pV))) p (.tup [nV pl, .ref q])) tl (.lst [.ref p])) := fun pl ps ok q hq => ⟨by decide, fun p hp => ⟨by decide, by
      obtain ⟨sm, pr⟩ := ltr_new (K := K) (pl := pl) (.nil : Paired (LTR K H3) [] []) hq hp
      exact lot_end k (D3.keep sm) (kpH.trans (Kp.of sm)) pr (by show 1 ≤ 1; decide) (by show 1 ≤ 4; decide) (TbL.cons ok TbL.nil)⟩⟩
    have ok1 : ∀ {pl : Nat} {ps : List (Option Nat)} (x : Nat), 1 ≤ pl → pl ≤ 4 → ps.length = 2 ^ pl → some x ∈ ps → PrOk ps → TbOk (pl, ps) := fun {pl ps} x h1 h4 hl hx hp => ⟨h1, h4, hl, ⟨some x, hx, rfl⟩, hp⟩
    refine ⟨_, rfl, rfl, _, rfl, ite2 (fun _ => ?_) (fun _ => ?_)⟩
    · refine ⟨_, rfl, _, rfl, _, rfl, by show 8 ≤ sizeLine; decide, one 3 [none, some a, some a, none, some a, none, none, none] (ok1 a (by decide) (by decide) rfl (by simp) ?_)⟩
      repeat (first | exact pnil | refine pn ?_ | refine psm (by omega) ?_)
    refine ⟨_, rfl, rfl, _, rfl, ite2 (fun _ => ?_) (fun _ => ?_)⟩
    · refine ⟨_, rfl, _, rfl, _, rfl, _, rfl, _, rfl, _, rfl, by show 8 ≤ sizeLine; decide, one 3 [none, some a, some a, some a, some a, some a, some a, none] (ok1 a (by decide) (by decide) rfl (by simp) ?_)⟩
      repeat (first | exact pnil | refine pn ?_ | refine psm (by omega) ?_)
    refine ⟨_, rfl, rfl, _, rfl, ite2 (fun _ => ?_) (fun _ => ?_)⟩
    · refine ⟨_, rfl, _, rfl, a, b, rfl, rfl, _, 1, rfl, rfl, _, rfl, _, rfl, _, rfl, a, 1, rfl, rfl, by show 4 ≤ sizeLine; decide, one 2 [some (a + b + 1), some a, some a, some (a + 1)] (ok1 a (by decide) (by decide) rfl (by simp) ?_)⟩
      repeat (first | exact pnil | refine pn ?_ | refine psm (by omega) ?_)
    refine ⟨_, rfl, rfl, _, rfl, ite2 (fun _ => ?_) (fun _ => ?_)⟩
    · refine ⟨_, rfl, a, 1, rfl, rfl, _, rfl, _, rfl, _, rfl, a, 1, rfl, rfl, by show 4 ≤ sizeLine; decide, one 2 [some (a + 1), some a, some a, some (a + 1)] (ok1 a (by decide) (by decide) rfl (by simp) ?_)⟩
      repeat (first | exact pnil | refine pn ?_ | refine psm (by omega) ?_)
    refine ⟨_, rfl, rfl, _, rfl, ite2 (fun _ => ?_) (fun _ => ?_)⟩
    · refine ⟨_, rfl, _, rfl, _, rfl, _, rfl, a, b, rfl, rfl, _, 1, rfl, rfl, _, rfl, _, rfl, _, rfl, a, b, rfl, rfl, _, 1, rfl, rfl, _, rfl, _, rfl, a, b, rfl, rfl, _, 1, rfl, rfl, by show 8 ≤ sizeLine; decide, fun q hq => ⟨by show 2 ≤ sizeLine; decide, fun p hp => ?_⟩⟩
      obtain ⟨sm, pr⟩ := ltr_new (K := K) (pl := 3) (ps := [none, some a, some a, some (a + b + 1), some a, some (a + b + 1), some (a + b + 1), none]) (.nil : Paired (LTR K H3) [] []) hq hp
      refine ⟨_, rfl, _, rfl, b, 1, rfl, rfl, by show 2 ≤ sizeLine; decide, fun q2 hq2 => ⟨by show 2 ≤ sizeLine; decide, fun p2 hp2 => ?_⟩⟩
      obtain ⟨sm2, pr2⟩ := ltr_new (K := K) (pl := 1) (ps := [some b, some (b + 1)]) pr hq2 hp2
      refine ⟨by show 2 ≤ sizeLine; decide, lot_end k (D3.keep (sm.trans sm2)) (kpH.trans (Kp.of (sm.trans sm2))) pr2 (by show 1 ≤ 2; decide) (by show 2 ≤ 4; decide) (TbL.cons (ok1 a (by decide) (by decide) rfl (by simp) ?_) (TbL.cons (ok1 b (by decide) (by decide) rfl (by simp) ?_) TbL.nil))⟩
      · repeat (first | exact pnil | refine pn ?_ | refine psm (by omega) ?_)
      · repeat (first | exact pnil | refine pn ?_ | refine psm (by omega) ?_)
    refine ⟨_, rfl, rfl, _, rfl, ite2 (fun _ => ?_) (fun _ => ?_)⟩
    · refine ⟨_, rfl, _, rfl, _, rfl, by show 4 ≤ sizeLine; decide, fun q hq => ⟨by show 2 ≤ sizeLine; decide, fun p hp => ?_⟩⟩
      obtain ⟨sm, pr⟩ := ltr_new (K := K) (pl := 2) (ps := [some a, some a, some a, none]) (.nil : Paired (LTR K H3) [] []) hq hp
      refine ⟨_, rfl, _, rfl, _, rfl, by show 4 ≤ sizeLine; decide, fun q2 hq2 => ⟨by show 2 ≤ sizeLine; decide, fun p2 hp2 => ?_⟩⟩
      obtain ⟨sm2, pr2⟩ := ltr_new (K := K) (pl := 2) (ps := [none, some a, some a, some b]) pr hq2 hp2
      refine ⟨_, rfl, b, 2, rfl, rfl, _, rfl, by show 2 ≤ sizeLine; decide, fun q3 hq3 => ⟨by show 2 ≤ sizeLine; decide, fun p3 hp3 => ?_⟩⟩
      obtain ⟨sm3, pr3⟩ := ltr_new (K := K) (pl := 1) (ps := [some (b + 2), some b]) pr2 hq3 hp3
      refine ⟨_, rfl, _, rfl, b, 1, rfl, rfl, by show 2 ≤ sizeLine; decide, fun q4 hq4 => ⟨by show 2 ≤ sizeLine; decide, fun p4 hp4 => ?_⟩⟩
      obtain ⟨sm4, pr4⟩ := ltr_new (K := K) (pl := 1) (ps := [some b, some (b + 1)]) pr3 hq4 hp4
      have smA := ((sm.trans sm2).trans sm3).trans sm4
      refine ⟨by show 4 ≤ sizeLine; decide, lot_end k (D3.keep smA) (kpH.trans (Kp.of smA)) pr4 (by show 1 ≤ 4; decide) (by show 4 ≤ 4; decide) (TbL.cons (ok1 a (by decide) (by decide) rfl (by simp) ?_) (TbL.cons (ok1 a (by decide) (by decide) rfl (by simp) ?_) (TbL.cons (ok1 b (by decide) (by decide) rfl (by simp) ?_) (TbL.cons (ok1 b (by decide) (by decide) rfl (by simp) ?_) TbL.nil))))⟩
      · repeat (first | exact pnil | refine pn ?_ | refine psm (by omega) ?_)
      · repeat (first | exact pnil | refine pn ?_ | refine psm (by omega) ?_)
      · repeat (first | exact pnil | refine pn ?_ | refine psm (by omega) ?_)
      · repeat (first | exact pnil | refine pn ?_ | refine psm (by omega) ?_)
    · refine ⟨_, rfl, _, rfl, _, rfl, a, 2, rfl, rfl, _, rfl, by show 8 ≤ sizeLine; decide, fun q hq => ⟨by show 2 ≤ sizeLine; decide, fun p hp => ?_⟩⟩
      obtain ⟨sm, pr⟩ := ltr_new (K := K) (pl := 3) (ps := [some b, none, none, some a, none, some (a + 2), some a, none]) (.nil : Paired (LTR K H3) [] []) hq hp
      refine ⟨_, rfl, _, rfl, by show 4 ≤ sizeLine; decide, fun q2 hq2 => ⟨by show 2 ≤ sizeLine; decide, fun p2 hp2 => ?_⟩⟩
      obtain ⟨sm2, pr2⟩ := ltr_new (K := K) (pl := 2) (ps := [none, some b, some b, none]) pr hq2 hp2
      refine ⟨by show 4 ≤ sizeLine; decide, fun q3 hq3 => ⟨by show 2 ≤ sizeLine; decide, fun p3 hp3 => ?_⟩⟩
      obtain ⟨sm3, pr3⟩ := ltr_new (K := K) (pl := 2) (ps := [some 1, some 0, some 0, some 3]) pr2 hq3 hp3
      have smA := (sm.trans sm2).trans sm3
      refine ⟨by show 3 ≤ sizeLine; decide, lot_end k (D3.keep smA) (kpH.trans (Kp.of smA)) pr3 (by show 1 ≤ 3; decide) (by show 3 ≤ 4; decide) (TbL.cons (ok1 b (by decide) (by decide) rfl (by simp) ?_) (TbL.cons (ok1 b (by decide) (by decide) rfl (by simp) ?_) (TbL.cons (ok1 1 (by decide) (by decide) rfl (by simp) ?_) TbL.nil)))⟩
      · repeat (first | exact pnil | refine pn ?_ | refine psm (by omega) ?_)
      · repeat (first | exact pnil | refine pn ?_ | refine psm (by omega) ?_)
      · repeat (first | exact pnil | refine pn ?_ | refine psm (by omega) ?_)
theorem c_law_hard_lot (D : FnAt K mg "_law_hard_lot" s_law_hard_lot) (T : Bl mg) (c_law_draw : Cal P w K mg base 1 "_law_draw" spDraw []) (c_law_crisp : Cal P w K mg base 5 "_law_crisp" (spMkB K) []) (c_law_loose : Cal P w K mg base 5 "_law_loose" (spMkB K) []) (c_law_first_kind : Cal P w K mg base 5 "_law_first_kind" (spFirst K) []) (c_law_sure_hard : Cal P w K mg base 2 "_law_sure_hard" (spLot0 K) []) : Cal P w K mg base 6 "_law_hard_lot" (spLot0 K) [] := by
  refine calOf D sc_law_hard_lot (fun _ _ _ _ _ _ us hl => match us, hl with | [_], _ => rfl) (fun vs H Q E h => ?_) (fun f cdv A outer s H vs Q E hr h => ?_)
  · obtain ⟨d, c, rfl, _⟩ := h
    rfl
  · obtain ⟨d, c, rfl, D, k⟩ := h
    have nd := sc_law_hard_lot.nd
    refine ⟨_, (pss_cons (ps_set (i := 1) nd rfl (by first | exact Or.inl rfl | exact Or.inr rfl) (pe_lst pa_nil))
      (pss_cons (ps_for PassesOwn.never rfl (pi_range1 (by rfl) T.b_range (pa_cons (pe_op op_addNN pe_int (pe_c c_law_draw hr (by decide) (by rfl) (pa_cons (pv 0) (pa_cons pe_int pa_nil)))) pa_nil)) (pg_name (i := 2) nd rfl (by first | exact Or.inl rfl | exact Or.inr rfl))
        (pss_cons (ps_set (i := 3) nd rfl (by first | exact Or.inl rfl | exact Or.inr rfl) (pe_op op_addNN pe_int (pe_c c_law_draw hr (by decide) (by rfl) (pa_cons (pv 0) (pa_cons pe_int pa_nil)))))
        (pss_one (ps_if (pt_cmpR op_eq (pe_c c_law_draw hr (by decide) (by rfl) (pa_cons (pv 0) (pa_cons pe_int pa_nil))) pe_int (nomark _))
          (pss_one (ps_expr (pe_bm PySem.F.plainAttrs_list PySem.F.slot_list_append PySem.F.type_list_append mt_append (pv 1) (pa_cons (pe_c c_law_crisp hr (by decide) (by rfl) (pa_cons (pv 0) (pa_cons (pv 3) (pa_cons (pe_op op_addNN pe_int (pe_c c_law_draw hr (by decide) (by rfl) (pa_cons (pv 0) (pa_cons pe_int pa_nil)))) pa_nil)))) pa_nil))))
          (pss_one (ps_expr (pe_bm PySem.F.plainAttrs_list PySem.F.slot_list_append PySem.F.type_list_append mt_append (pv 1) (pa_cons (pe_c c_law_loose hr (by decide) (by rfl) (pa_cons (pv 0) (pa_cons (pv 3) (pa_cons (pe_c c_law_draw hr (by decide) (by rfl) (pa_cons (pv 0) (pa_cons pe_int pa_nil))) pa_nil)))) pa_nil))))))))
      (pss_cons (ps_if (pt_cmpR op_isN (pe_c c_law_first_kind hr (by decide) (by rfl) (pa_cons (pv 1) pa_nil)) pe_non (nomark _))
        (pss_one (ps_ret (pv 1)))
        pss_nil)
      (pss_one (ps_ret (pe_c c_law_sure_hard hr (by decide) (by rfl) (pa_cons (pv 0) pa_nil))))))), ?_⟩
    refine ⟨Nat.zero_le _, fun W hW => ?_⟩
    obtain ⟨nWd, nWc⟩ := D.ne hW
    have s0 : Same H (upd H W (.lst [])) := same_new hW
    refine ⟨_, rfl, d, c, 3, rfl, D.keep s0, by decide, by decide, fun m H1 hm D1 kp1 => ⟨1, m, rfl, rfl, _, rfl, by omega, by omega, ?_⟩⟩
    rw [Int.toNat_natCast]
    refine for_range (lo := 0) (n := 1 + m) (fun j σ' H' => ∃ (c2 c3 : Option V) (ys : List V) (tbs : List Tb), σ' = [some (.ref d), some (.ref W), c2, c3] ∧ H' W = some (.lst ys) ∧ Paired (LTR K H') ys tbs ∧ tbs.length = j ∧ (∀ t ∈ tbs, TbOk t) ∧ Dr H' d c ∧ Kp d H H')
      ⟨none, none, [], [], rfl, kp1 _ _ upd_same nWd, .nil, rfl, TbL.nil, D1, (Kp.of s0).trans kp1⟩ ?_ ?_
    · rintro j σ' H2 hj ⟨c2, c3, ys, tbs, rfl, g2, pr, l2, ok, D2, kp2⟩
      obtain ⟨yl, _⟩ := paired_at pr
      refine ⟨_, rfl, d, c, 3, rfl, D2, by decide, by decide, fun x H3 hx D3 kp3 => ⟨1, x, rfl, rfl, ?_⟩⟩
      have app : ∀ (y : V) (ps : List (Option Nat)) (H5 : Hp), TbOk (1 + x, ps) → LTR K H5 y (1 + x, ps) → Dr H5 d c → Kp d H3 H5 → ∃ l xs v, V.ref W = .ref l ∧ [y] = [v] ∧ H5 l = some (.lst xs) ∧ xs.length < sizeLine ∧ ∃ (c2' c3' : Option V) (ys' : List V) (tbs' : List Tb), [some (V.ref d), some (.ref W), some (.int (0 + (j : Int))), some (nV (1 + x))] = [some (.ref d), some (.ref W), c2', c3'] ∧ (upd H5 l (.lst (xs ++ [v]))) W = some (.lst ys') ∧ Paired (LTR K (upd H5 l (.lst (xs ++ [v])))) ys' tbs' ∧ tbs'.length = j + 1 ∧ (∀ t ∈ tbs', TbOk t) ∧ Dr (upd H5 l (.lst (xs ++ [v]))) d c ∧ Kp d H (upd H5 l (.lst (xs ++ [v]))) := fun y ps H5 ok5 lt5 D5 kp5 => by
        have g5 := kp5 _ _ (kp3 _ _ g2 nWd) nWd
        have im : Imm H2 (upd H5 W (.lst (ys ++ [y]))) := ((Kp.imm kp3 D2).trans (Kp.imm kp5 D3)).trans (imm_upd g5 trivial)
        refine ⟨W, ys, y, rfl, rfl, g5, Nat.lt_of_le_of_lt (show ys.length ≤ 4 by omega) (by decide), _, _, ys ++ [y], tbs ++ [(1 + x, ps)], rfl, upd_same, paired_snoc (Paired.mapP pr fun _ _ q => q.imm im) (lt5.imm (imm_upd g5 trivial)), by rw [List.length_append, l2]; rfl, fun t ht => ?_, D5.put nWd nWc, ((kp2.trans kp3).trans kp5).new hW⟩
        rcases List.mem_append.mp ht with z | z
        · exact ok t z
        · rw [List.mem_singleton.mp z]; exact ok5
      refine ⟨_, rfl, d, c, 3, rfl, D3, by decide, by decide, fun x2 H4 _ D4 kp4 => ⟨rfl, _, rfl, ite2 (fun _ => ?_) (fun _ => ?_)⟩⟩
      · have g4 := kp4 _ _ (kp3 _ _ g2 nWd) nWd
        refine ⟨_, rfl, .inl ⟨rfl, _, SqL.of g4⟩, _, rfl, _, rfl, _, rfl, d, c, 5, rfl, D4, by decide, by decide, fun x3 H5 _ D5 kp5 => ⟨1, x3, rfl, rfl, d, c, 1 + x, 1 + x3, rfl, D5, by omega, by omega, fun y ps H6 ok6 lt6 D6 kp6 => app y ps H6 ok6 lt6 D6 ((kp4.trans kp5).trans kp6)⟩⟩
      · have g4 := kp4 _ _ (kp3 _ _ g2 nWd) nWd
        refine ⟨_, rfl, .inl ⟨rfl, _, SqL.of g4⟩, _, rfl, _, rfl, _, rfl, d, c, 6, rfl, D4, by decide, by decide, fun x3 H5 _ D5 kp5 => ⟨d, c, 1 + x, x3, rfl, D5, by omega, by omega, fun y ps H6 ok6 lt6 D6 kp6 => app y ps H6 ok6 lt6 D6 ((kp4.trans kp5).trans kp6)⟩⟩
    · rintro σ' H2 ⟨c2, c3, ys, tbs, rfl, g2, pr, l2, ok, D2, kp2⟩
      refine ⟨_, rfl, W, tbs, rfl, ⟨ys, g2, pr⟩, by omega, ok, fun v H3 _ s3 => ⟨rfl, _, rfl, ite2 (fun _ => ?_) (fun _ => ?_)⟩⟩
      · exact ⟨_, rfl, k W tbs H3 hW ⟨ys, s3 _ _ g2, paired2 pr s3⟩ (by omega) (by omega) ok (D2.keep s3) (kp2.trans (Kp.of s3))⟩
      · refine ⟨_, rfl, d, c, rfl, D2.keep s3, fun tl tbs' H4 htl lt l1 l4 ok' D4 kp4 => ?_⟩
        have kp3 := kp2.trans (Kp.of s3)
        exact k tl tbs' H4 (kp_none kp3 htl ((D2.keep s3).ne htl).1) lt l1 l4 ok' D4 (kp3.trans kp4)
theorem c_law_any_lot (D : FnAt K mg "_law_any_lot" s_law_any_lot) (T : Bl mg) (c_law_draw : Cal P w K mg base 1 "_law_draw" spDraw []) (c_law_hard_lot : Cal P w K mg base 6 "_law_hard_lot" (spLot0 K) []) (c_law_kind_lot : Cal P w K mg base 8 "_law_kind_lot" (spKL K) []) (c_law_pick : Cal P w K mg base 2 "_law_pick" spPick []) (c_law_kinds : Cal P w K mg base 1 "_law_kinds" spKinds []) : Cal P w K mg base 9 "_law_any_lot" (spLot0 K) [] := by
  refine calOf D sc_law_any_lot (fun _ _ _ _ _ _ us hl => match us, hl with | [_], _ => rfl) (fun vs H Q E h => ?_) (fun f cdv A outer s H vs Q E hr h => ?_)
  · obtain ⟨d, c, rfl, _⟩ := h
    rfl
  · obtain ⟨d, c, rfl, D, k⟩ := h
    have tr : ∀ {H' : Hp}, Dr H' d c → Kp d H H' → MkL K d c H' Q := fun {H'} D' kp tl tbs H2 h1 h2 h3 h4 h5 h6 h7 => k tl tbs H2 (kp_none kp h1 (D'.ne h1).1) h2 h3 h4 h5 h6 (kp.trans h7)
    refine ⟨_, (pss_cons (ps_if (pt_cmpR op_eq (pe_c c_law_draw hr (by decide) (by rfl) (pa_cons (pv 0) (pa_cons pe_int pa_nil))) pe_int (nomark _))
        (pss_one (ps_ret (pe_c c_law_hard_lot hr (by decide) (by rfl) (pa_cons (pv 0) pa_nil))))
        pss_nil)
      (pss_one (ps_ret (pe_c c_law_kind_lot hr (by decide) (by rfl) (pa_cons (pv 0) (pa_cons (pe_c c_law_pick hr (by decide) (by rfl) (pa_cons (pv 0) (pa_cons (pe_c0 c_law_kinds hr (by decide) (by rfl)) pa_nil))) (pa_cons (pe_op op_addNN pe_int (pe_c c_law_draw hr (by decide) (by rfl) (pa_cons (pv 0) (pa_cons pe_int pa_nil)))) (pa_cons pe_int pa_nil)))))))), ?_⟩
    refine ⟨_, rfl, d, c, 3, rfl, D, by decide, by decide, fun x H1 _ D1 kp1 => ⟨rfl, _, rfl, ite2 (fun _ => ?_) (fun _ => ?_)⟩⟩
    · exact ⟨_, rfl, d, c, rfl, D1, tr D1 kp1⟩
    · refine ⟨_, rfl, _, rfl, rfl, fun p hp => ?_⟩
      have s1 := same_new (o := .lst (kindsL.map V.str)) hp
      obtain ⟨npd, npc⟩ := D1.ne hp
      refine ⟨d, c, p, _, rfl, D1.keep s1, upd_same, npd, npc, by decide, by decide, fun i v H2 hv D2 kp2 => ?_⟩
      obtain ⟨z, _, rfl⟩ := map_get hv
      refine ⟨_, rfl, d, c, 3, rfl, D2, by decide, by decide, fun m H3 hm D3 kp3 => ⟨1, m, rfl, rfl, d, c, z, 1 + m, 3, rfl, D3, by omega, by omega, by decide, by decide, tr D3 (((kp1.trans (Kp.of s1)).trans kp2).trans kp3)⟩⟩
end
end L2.KK
namespace L2.KK
open PySem PySem.Spec PyProof.Rows C8
theorem sc_law_try : FnScope ["ledger", "deed", "error"] ["ledger", "deed"] (defScope s_law_try) := ⟨rfl, rfl, rfl, by decide +kernel, rfl, by decide +kernel, by decide +kernel⟩
theorem sc_law_real : FnScope ["deed"] ["deed"] (defScope s_law_real) := ⟨rfl, rfl, rfl, by decide +kernel, rfl, by decide +kernel, by decide +kernel⟩
theorem sc_law_book_new : FnScope ["tables"] ["tables"] (defScope s_law_book_new) := ⟨rfl, rfl, rfl, by decide +kernel, rfl, by decide +kernel, by decide +kernel⟩
theorem sc_law_book_copy : FnScope ["state"] ["state"] (defScope s_law_book_copy) := ⟨rfl, rfl, rfl, by decide +kernel, rfl, by decide +kernel, by decide +kernel⟩
theorem sc_law_book_uses : FnScope ["state", "row"] ["state"] (defScope s_law_book_uses) := ⟨rfl, rfl, rfl, by decide +kernel, rfl, by decide +kernel, by decide +kernel⟩
/-- a deed as the law draws it: a table is a pair -/
def LdAt (K : PySem.W.Frag) (CT : Addr) (H : Hp) (y : V) : Gd → Prop
  | .bad _ => False
  | .table i t => ∃ p yt, y = .ref p ∧ SqT K H p [.str "table", .int i, yt] ∧ LTR K H yt t
  | g => GdAt K CT H y g
theorem LdAt.imm {K : PySem.W.Frag} {CT : Addr} {H H' : Hp} {y : V} {g : Gd} (h : LdAt K CT H y g) (e : Imm H H') : LdAt K CT H' y g := by
  cases g with
  | bad w => exact h.elim
  | name => obtain ⟨p, h1, h2⟩ := h; exact ⟨p, h1, imm_seqT e h2⟩
  | add u => obtain ⟨p, nr, h1, h2, h3, h4⟩ := h; exact ⟨p, nr, h1, imm_seqT e h2, imm_seqT e h3, h4⟩
  | drop n => obtain ⟨p, h1, h2⟩ := h; exact ⟨p, h1, imm_seqT e h2⟩
  | times n t => obtain ⟨p, h1, h2⟩ := h; exact ⟨p, h1, imm_seqT e h2⟩
  | table i t => obtain ⟨p, yt, h1, h2, h3⟩ := h; exact ⟨p, yt, h1, imm_seqT e h2, h3.imm e⟩
/-- the law's book: a list of tables, names, a list of rows, the next number -/
def BkAt (K : PySem.W.Frag) (H : Hp) (p tl rl : Addr) (b : Bk) : Prop := H p = some (.lst [.ref tl, nV b.many, .ref rl, nV b.ahead]) ∧ LTs K H tl b.tbs ∧ (∃ rs, H rl = some (.lst rs) ∧ Paired (RowR K H) rs b.rows) ∧ p ≠ tl ∧ p ≠ rl ∧ tl ≠ rl
theorem BkAt.chg {K : PySem.W.Frag} {H H' : Hp} {p tl rl : Addr} {b : Bk} (h : BkAt K H p tl rl b) (e : Imm H H') (k : ∀ x o, x = p ∨ x = tl ∨ x = rl → H x = some o → H' x = some o) : BkAt K H' p tl rl b := by
  obtain ⟨h1, h2, ⟨rs, h3, h4⟩, h5⟩ := h
  exact ⟨k _ _ (.inl rfl) h1, h2.imm e fun o q => k _ _ (.inr (.inl rfl)) q, ⟨rs, k _ _ (.inr (.inr rfl)) h3, Paired.mapP h4 fun _ _ q => q.imm e⟩, h5⟩
theorem BkAt.grow {K : PySem.W.Frag} {H H' : Hp} {p tl rl : Addr} {b : Bk} (h : BkAt K H p tl rl b) (e : Same H H') : BkAt K H' p tl rl b := h.chg (Same.imm e) fun _ _ _ q => e _ _ q
theorem BkAt.kpd {K : PySem.W.Frag} {H H' : Hp} {d c p tl rl : Addr} {b : Bk} (h : BkAt K H p tl rl b) (D : Dr H d c) (e : Kp d H H') (n1 : p ≠ d) (n2 : tl ≠ d) (n3 : rl ≠ d) : BkAt K H' p tl rl b := h.chg (Kp.imm e D) fun x o hx q => e _ _ q (by rcases hx with z | z | z <;> rw [z] <;> assumption)
section
variable {P : Program} {w : World} {K : PySem.W.Frag} {mg : Str → Option Value} {base : Heap}
def spTry (K : PySem.W.Frag) (CT CL CS CG : Addr) : Sp := fun vs H Q _ => ∃ (a pl ll : Addr) (y : V) (past : List Bk) (b : Bk) (later : List Bk) (g : Gd), vs = [.ref a, y] ∧ LgAt K CT CL CS CG H a pl ll past b later ∧ GdAt K CT H y g ∧ BkOk b ∧ GdOk g ∧ past.length ≤ 100000 ∧
  (∀ b', doneG b g = .ok b' → ∀ t l2 H', H l2 = none → LgAt K CT CL CS CG H' a pl l2 (past ++ [b]) b' [] → Imm H H' → (∀ c o, H c = some o → c ≠ a → c ≠ pl → H' c = some o) → H' t = some (.tup [.str "done", toldV g b']) → Q (.ref t) H') ∧
  ∀ w, doneG b g = .error w → ∀ t H', Same H H' → H' t = some (.tup [.str "no", .str w]) → Q (.ref t) H'
theorem c_law_try (D : FnAt K mg "_law_try" s_law_try) (Z : Ev K mg) (T : Bl mg) (c_Ledger_do : MetX P w K mg base 10 Z.Ledger "do" (spDo K Z.Table Z.Lot Z.State Z.Ledger Z.BadDeed)) : Cal P w K mg base 11 "_law_try" (spTry K Z.Table Z.Lot Z.State Z.Ledger) [] := by
  refine calOf D sc_law_try (fun _ _ _ _ _ _ us hl => match us, hl with | [_, _], _ => rfl) (fun vs H Q E h => ?_) (fun f cdv A outer s H vs Q E hr h => ?_)
  · obtain ⟨a, pl, ll, y, past, b, later, g, rfl, _⟩ := h
    rfl
  · obtain ⟨a, pl, ll, y, past, b, later, g, rfl, hL, hg, ok, gok, hp, k1, k2⟩ := h
    have nd := sc_law_try.nd
    obtain ⟨dx, sa, pys, lys, ha, _⟩ := id hL
    refine ⟨_, (pss_one (ps_try_as (i := 2) (Wout := fun _ _ _ _ => False) rfl rfl nd rfl rfl ⟨by rfl, by decide, Or.inl Z.k_BadDeed⟩ takes0 (fun W pn xe tk _ =>
        (pss_one (ps_ret (pe_tup (pa_cons pe_str (pa_cons (pe_mtx c_Ledger_do hr (by decide) tk (pv 0) (pa_cons (pv 1) pa_nil)) pa_nil))))))
        (fun a oe cls d pn hz hf => (pss_one (ps_ret (pe_tup (pa_cons pe_str (pa_cons (pe_xf Z.o_BadDeed.xf Z.n_BadDeed_deed hz hf (pv 2)) pa_nil)))))))), ?_⟩
    refine ⟨_, rfl, a, dx, _, rfl, ha, rfl, _, rfl, a, pl, ll, y, past, b, later, g, rfl, hL, hg, ok, gok, hp, fun b' eb l2 H1 hl2 hL1 im1 kp1 => ⟨by show 2 ≤ sizeLine; decide, fun t ht => ?_⟩, fun w0 ew d H1 sm1 hd e => ?_⟩
    · have sm2 := same_new (o := .tup [.str "done", toldV g b']) ht
      exact k1 b' eb t l2 _ hl2 (hL1.grow sm2) (im1.trans (Same.imm sm2)) (fun c o ec n1 n2 => sm2 _ _ (kp1 c o ec n1 n2)) upd_same
    · refine ⟨true, Z.e_BadDeed_BadDeed, fun _ a0 _ => ?_, fun q => Bool.noConfusion q⟩
      refine ⟨_, rfl, rfl, rfl, d, _, _, rfl, e, rfl, ?_⟩
      refine ⟨by show 2 ≤ sizeLine; decide, fun t ht => ?_⟩
      exact k2 w0 ew t _ (sm1.trans (same_new ht)) upd_same
def spReal (K : PySem.W.Frag) (CT : Addr) : Sp := fun vs H Q _ => ∃ (y : V) (g : Gd), vs = [y] ∧ LdAt K CT H y g ∧ (∀ i t, g = .table i t → TbOk t) ∧ ∀ y' H', Same H H' → GdAt K CT H' y' g → Q y' H'
theorem c_law_real (D : FnAt K mg "_law_real" s_law_real) (Z : Ev K mg) (T : Bl mg) (c_Table : Mak P w K mg base 3 "Table" Z.Table (spTab K Z.Table) []) : Cal P w K mg base 5 "_law_real" (spReal K Z.Table) [] := by
  refine calOf D sc_law_real (fun _ _ _ _ _ _ us hl => match us, hl with | [_], _ => rfl) (fun vs H Q E h => ?_) (fun f cdv A outer s H vs Q E hr h => ?_)
  · obtain ⟨y, g, rfl, _⟩ := h
    rfl
  · obtain ⟨y, g, rfl, hg, ht, k⟩ := h
    refine ⟨_, (pss_cons (ps_if (pt_cmpR op_eq (pe_ix (ixT K) (pv 0) pe_int (fun _ _ => rfl)) pe_str (nomark _))
        (pss_one (ps_ret (pe_tup (pa_cons pe_str (pa_cons (pe_ix (ixT K) (pv 0) pe_int (fun _ _ => rfl)) (pa_cons (pe_mk c_Table hr (by decide) (by rfl) (pa_cons (pe_ix (ixT K) (pe_ix (ixT K) (pv 0) pe_int (fun _ _ => rfl)) pe_int (fun _ _ => rfl)) (pa_cons (pe_ix (ixT K) (pe_ix (ixT K) (pv 0) pe_int (fun _ _ => rfl)) pe_int (fun _ _ => rfl)) pa_nil))) pa_nil))))))
        pss_nil)
      (pss_one (ps_ret (pv 0)))), ?_⟩
    cases g with
    | bad w => exact hg.elim
    | name =>
      obtain ⟨p, rfl, hS⟩ := id hg
      exact ⟨_, rfl, p, _, (0 : Int), .str "name", rfl, rfl, hS, rfl, rfl, _, rfl, ite2 (fun h => absurd h (str_ne (by decide))) (fun _ => ⟨_, rfl, k _ H (Same.refl H) hg⟩)⟩
    | add u =>
      obtain ⟨p, nr, rfl, hS, _⟩ := id hg
      exact ⟨_, rfl, p, _, (0 : Int), .str "add", rfl, rfl, hS, rfl, rfl, _, rfl, ite2 (fun h => absurd h (str_ne (by decide))) (fun _ => ⟨_, rfl, k _ H (Same.refl H) hg⟩)⟩
    | drop n =>
      obtain ⟨p, rfl, hS⟩ := id hg
      exact ⟨_, rfl, p, _, (0 : Int), .str "drop", rfl, rfl, hS, rfl, rfl, _, rfl, ite2 (fun h => absurd h (str_ne (by decide))) (fun _ => ⟨_, rfl, k _ H (Same.refl H) hg⟩)⟩
    | times n t =>
      obtain ⟨p, rfl, hS⟩ := id hg
      exact ⟨_, rfl, p, _, (0 : Int), .str "times", rfl, rfl, hS, rfl, rfl, _, rfl, ite2 (fun h => absurd h (str_ne (by decide))) (fun _ => ⟨_, rfl, k _ H (Same.refl H) hg⟩)⟩
    | table i t =>
      obtain ⟨p, yt, rfl, hS, p2, q2, rfl, h2, h3⟩ := hg
      have ok := ht i t rfl
      refine ⟨_, rfl, p, _, (0 : Int), .str "table", rfl, rfl, hS, rfl, rfl, _, rfl, ite2 (fun _ => ?_) (fun h => absurd (decide_eq_true rfl) h)⟩
      refine ⟨_, rfl, p, _, (1 : Int), .int i, rfl, rfl, hS, rfl, _, rfl, p, _, (2 : Int), .ref p2, rfl, rfl, hS, rfl, p2, _, (0 : Int), nV t.1, rfl, rfl, h2, rfl, _, rfl, p, _, (2 : Int), .ref p2, rfl, rfl, hS, rfl, p2, _, (1 : Int), .ref q2, rfl, rfl, h2, rfl, ?_⟩
      intro x dx hx hdx ne
      have s1 := same_new (o := .own x) hdx
      have hx2 : (upd H dx (.own x)) x = none := by rw [upd_ne ne.symm]; exact hx
      have s2 : Same (upd H dx (.own x)) (upd (upd H dx (.own x)) x (.ins Z.Table dx [])) := same_new hx2
      refine ⟨x, dx, q2, t.1, t.2, rfl, upd_same, same_seqT (s1.trans s2) h3, ok.2.1, ok.2.2.1, fun o ho m hm => Nat.le_trans (ok.2.2.2.2 o ho m hm) (by decide), rfl, ?_⟩
      rw [upd_upd]
      have s3 : Same (upd H dx (.own x)) (upd (upd H dx (.own x)) x (.ins Z.Table dx (tabF t.1 q2 t.2))) := same_new hx2
      refine ⟨by show 3 ≤ sizeLine; decide, fun r hr0 => ?_⟩
      have s4 := same_new (o := .tup [.str "table", .int i, .ref x]) hr0
      exact k _ _ ((s1.trans s3).trans s4) ⟨r, x, rfl, .inl (.inl upd_same), dx, q2, s4 _ _ upd_same, same_seqT ((s1.trans s3).trans s4) h3⟩
def spBNew (K : PySem.W.Frag) : Sp := fun vs H Q _ => ∃ (t0 : Addr) (tbs : List Tb), vs = [.ref t0] ∧ LTs K H t0 tbs ∧ ∀ p tl rl H', H p = none → H tl = none → H rl = none → Same H H' → BkAt K H' p tl rl (b0 tbs) → Q (.ref p) H'
theorem c_law_book_new (D : FnAt K mg "_law_book_new" s_law_book_new) (T : Bl mg) : Cal P w K mg base 1 "_law_book_new" (spBNew K) [] := by
  refine calOf D sc_law_book_new (fun _ _ _ _ _ _ us hl => match us, hl with | [_], _ => rfl) (fun vs H Q E h => ?_) (fun f cdv A outer s H vs Q E hr h => ?_)
  · obtain ⟨t0, tbs, rfl, _⟩ := h
    rfl
  · obtain ⟨t0, tbs, rfl, ⟨ys, hT, pr⟩, k⟩ := h
    refine ⟨_, (pss_one (ps_ret (pe_lst (pa_cons (pe_callTy (crList K) (by rfl) T.b_list (by decide +kernel) (pa_cons (pv 0) pa_nil)) (pa_cons pe_int (pa_cons (pe_lst pa_nil) (pa_cons pe_int pa_nil))))))), ?_⟩
    refine ⟨_, rfl, t0, ys, rfl, .inl (SqL.of hT), fun tl htl => ⟨Nat.zero_le _, fun rl hrl => ⟨by show 4 ≤ sizeLine; decide, fun p hp => ?_⟩⟩⟩
    have s1 : Same H (upd H tl (.lst ys)) := same_new htl
    have s2 : Same (upd H tl (.lst ys)) (upd (upd H tl (.lst ys)) rl (.lst [])) := same_new hrl
    have s3 : Same (upd (upd H tl (.lst ys)) rl (.lst [])) (upd (upd (upd H tl (.lst ys)) rl (.lst [])) p (.lst [.ref tl, .int 0, .ref rl, .int 0])) := same_new hp
    have n1 : rl ≠ tl := fun z => by rw [z, upd_same] at hrl; cases hrl
    have n2 : p ≠ rl := fun z => by rw [z, upd_same] at hp; cases hp
    have n3 : p ≠ tl := fun z => by rw [z, upd_ne n1.symm, upd_same] at hp; cases hp
    exact k p tl rl _ ((s1.trans s2).free hp) htl (s1.free hrl) ((s1.trans s2).trans s3) ⟨upd_same, ⟨ys, s3 _ _ (s2 _ _ upd_same), paired2 pr ((s1.trans s2).trans s3)⟩, ⟨[], s3 _ _ upd_same, .nil⟩, n3, n2, n1.symm⟩
def spBCopy (K : PySem.W.Frag) : Sp := fun vs H Q _ => ∃ (p0 tl0 rl0 : Addr) (b : Bk), vs = [.ref p0] ∧ BkAt K H p0 tl0 rl0 b ∧ ∀ p tl rl H', H p = none → H tl = none → H rl = none → Same H H' → BkAt K H' p tl rl b → Q (.ref p) H'
theorem c_law_book_copy (D : FnAt K mg "_law_book_copy" s_law_book_copy) (T : Bl mg) : Cal P w K mg base 1 "_law_book_copy" (spBCopy K) [] := by
  refine calOf D sc_law_book_copy (fun _ _ _ _ _ _ us hl => match us, hl with | [_], _ => rfl) (fun vs H Q E h => ?_) (fun f cdv A outer s H vs Q E hr h => ?_)
  · obtain ⟨p0, tl0, rl0, b, rfl, _⟩ := h
    rfl
  · obtain ⟨p0, tl0, rl0, b, rfl, ⟨h1, ⟨ys, hT, pr⟩, ⟨rs, hR, pR⟩, _⟩, k⟩ := h
    refine ⟨_, (pss_one (ps_ret (pe_lst (pa_cons (pe_callTy (crList K) (by rfl) T.b_list (by decide +kernel) (pa_cons (pe_ix (ixL K) (pv 0) pe_int (fun _ _ => rfl)) pa_nil)) (pa_cons (pe_ix (ixL K) (pv 0) pe_int (fun _ _ => rfl)) (pa_cons (pe_callTy (crList K) (by rfl) T.b_list (by decide +kernel) (pa_cons (pe_ix (ixL K) (pv 0) pe_int (fun _ _ => rfl)) pa_nil)) (pa_cons (pe_ix (ixL K) (pv 0) pe_int (fun _ _ => rfl)) pa_nil))))))), ?_⟩
    refine ⟨_, rfl, p0, _, (0 : Int), .ref tl0, rfl, rfl, SqL.of h1, rfl, tl0, ys, rfl, .inl (SqL.of hT), fun tl htl => ?_⟩
    have s1 : Same H (upd H tl (.lst ys)) := same_new htl
    refine ⟨_, rfl, p0, _, (1 : Int), nV b.many, rfl, rfl, SqL.of (s1 _ _ h1), rfl, _, rfl, p0, _, (2 : Int), .ref rl0, rfl, rfl, SqL.of (s1 _ _ h1), rfl, rl0, rs, rfl, .inl (SqL.of (s1 _ _ hR)), fun rl hrl => ?_⟩
    have s2 : Same (upd H tl (.lst ys)) (upd (upd H tl (.lst ys)) rl (.lst rs)) := same_new hrl
    refine ⟨_, rfl, p0, _, (3 : Int), nV b.ahead, rfl, rfl, SqL.of (s2 _ _ (s1 _ _ h1)), rfl, by show 4 ≤ sizeLine; decide, fun p hp => ?_⟩
    have s3 : Same (upd (upd H tl (.lst ys)) rl (.lst rs)) (upd (upd (upd H tl (.lst ys)) rl (.lst rs)) p (.lst [.ref tl, nV b.many, .ref rl, nV b.ahead])) := same_new hp
    have n1 : rl ≠ tl := fun z => by rw [z, upd_same] at hrl; cases hrl
    have n2 : p ≠ rl := fun z => by rw [z, upd_same] at hp; cases hp
    have n3 : p ≠ tl := fun z => by rw [z, upd_ne n1.symm, upd_same] at hp; cases hp
    have sA := (s1.trans s2).trans s3
    exact k p tl rl _ ((s1.trans s2).free hp) htl (s1.free hrl) sA ⟨upd_same, ⟨ys, s3 _ _ (s2 _ _ upd_same), paired2 pr sA⟩, ⟨rs, s3 _ _ upd_same, Paired.mapP pR fun _ _ q => q.imm (Same.imm sA)⟩, n3, n2, n1.symm⟩
def spBUses (K : PySem.W.Frag) : Sp := fun vs H Q _ => ∃ (p0 tl0 rl0 : Addr) (b : Bk), vs = [.ref p0] ∧ BkAt K H p0 tl0 rl0 b ∧ b.rows.length ≤ 1000 ∧ ∀ t ys H', Same H H' → H t = none → H' t = some (.tup ys) → Paired (UiR K H') ys (b.rows.map (·.2)) → Q (.ref t) H'
theorem c_law_book_uses (D : FnAt K mg "_law_book_uses" s_law_book_uses) (T : Bl mg) : Cal P w K mg base 1 "_law_book_uses" (spBUses K) [] := by
  refine calOf D sc_law_book_uses (fun _ _ _ _ _ _ us hl => match us, hl with | [_], _ => rfl) (fun vs H Q E h => ?_) (fun f cdv A outer s H vs Q E hr h => ?_)
  · obtain ⟨p0, tl0, rl0, b, rfl, _⟩ := h
    rfl
  · obtain ⟨p0, tl0, rl0, b, rfl, ⟨h1, _, ⟨rs, hR, pR⟩, _⟩, hl, k⟩ := h
    have nd := sc_law_book_uses.nd
    obtain ⟨yl, ya⟩ := paired_at pR
    refine ⟨_, (pss_one (ps_ret (pe_callTy (crTup K) (by rfl) T.b_tuple (by decide +kernel) (pa_cons (pe_lc (own := [("row", 1)]) (g := gName 1) (tt := tYes) rfl nd (piList K (pe_ix (ixL K) (pv 0) pe_int (fun _ _ => rfl))) (blkOk_by (N := ["state", "row"]) (sc := defScope s_law_book_uses) (own := [("row", 1)]) (by decide +kernel)) (fun _ _ _ _ _ => (pg_name (i := 1) nd rfl (by first | exact Or.inl rfl | exact Or.inr rfl))) (fun _ _ _ _ _ => pts_nil) (fun _ _ _ _ _ => (pe_ix (ixT K) (pv 1) pe_int (fun _ _ => rfl)))) pa_nil)))), ?_⟩
    refine ⟨_, rfl, p0, _, (2 : Int), .ref rl0, rfl, rfl, SqL.of h1, rfl, rl0, rfl, ⟨_, SqL.of hR⟩, fun W hW => lc_listT (SqL.of hR) (sel := fun _ => true) (P := fun i y H => UiR K H y (b.rows.getD i (0, ⟨0, [], 0⟩)).2) ⟨fun _ _ _ _ sm h => h.imm (SameT.imm sm), fun i H2 _ _ R r => r H2 (Same.refl H2), fun i H2 hi _ sm R r => ?_⟩ hW (lt_line (by omega)) (fun H2 bs sm hd _ pb => ?_)⟩
    · have hy : rs[i]? = some rs[i] := List.getElem?_eq_getElem hi
      obtain ⟨r0, hr0, q, yu, eq, h3, h4⟩ := ya i _ hy
      have er : b.rows.getD i (0, ⟨0, [], 0⟩) = r0 := by rw [List.getD_eq_getElem?_getD, hr0]; rfl
      have ey : rs.getD i .non = .ref q := by rw [List.getD_eq_getElem?_getD, hy]; exact eq
      exact ⟨_, rfl, q, _, (1 : Int), yu, ey, rfl, same_seqT sm h3, rfl, r _ H2 (Same.refl H2) (by rw [er]; exact h4.imm (Same.imm sm))⟩
    · rw [filter_yes, yl] at pb
      have pb2 := paired_mapR (fun i => (b.rows.getD i (0, ⟨0, [], 0⟩)).2) pb
      have e : (List.range b.rows.length).map (fun i => (b.rows.getD i (0, ⟨0, [], 0⟩)).2) = b.rows.map (·.2) := by
        have z := congrArg (List.map fun r : Nat × Ui => r.2) (map_range_get b.rows (0, ⟨0, [], 0⟩))
        rw [List.map_map] at z
        exact z
      rw [e] at pb2
      refine ⟨W, _, rfl, .inl ⟨SqL.of hd, fun t ht => ?_⟩⟩
      have s2 := same_new (o := .tup bs) ht
      exact k t bs _ (sm.trans s2) (sm.free ht) upd_same (Paired.mapP pb2 fun _ _ q => q.imm (Same.imm s2))
end
end L2.KK
namespace L2.KK
open PySem PySem.Spec PyProof.Rows C8
theorem sc_law_book_fits : FnScope ["state", "use", "name"] ["state", "use"] (defScope s_law_book_fits) := ⟨rfl, rfl, rfl, by decide +kernel, rfl, by decide +kernel, by decide +kernel⟩
theorem sc_law_stands : FnScope ["ledger", "state", "puzzle", "lot", "table", "row"] ["ledger", "state"] (defScope s_law_stands) := ⟨rfl, rfl, rfl, by decide +kernel, rfl, by decide +kernel, by decide +kernel⟩
/-- a use as data -/
def uD (u : Ui) : PyData := .tuple [.int u.at_, .tuple (u.names.map PyData.int), .int u.times]
theorem uD_pln (u : Ui) : pln (uD u) = true := pln_tup fun y hy => by
  rcases List.mem_cons.mp hy with z | hy
  · rw [z]; rfl
  rcases List.mem_cons.mp hy with z | hy
  · rw [z]
    exact pln_tup fun y hy => by
      obtain ⟨_, _, rfl⟩ := List.mem_map.mp hy
      rfl
  rcases List.mem_cons.mp hy with z | hy
  · rw [z]; rfl
  · cases hy
theorem depth_int0 (i : Int) : (PyData.int i).depth ≤ 1 := by
  show (0 : Nat) ≤ 1
  decide
theorem uD_depth (u : Ui) : (uD u).depth ≤ 2 := depth_tup (n := 1) fun y hy => by
  rcases List.mem_cons.mp hy with z | hy
  · rw [z]; exact depth_int0 _
  rcases List.mem_cons.mp hy with z | hy
  · rw [z]
    exact depth_tup (n := 0) fun y hy => by
      obtain ⟨_, _, rfl⟩ := List.mem_map.mp hy
      exact Nat.le_refl 0
  rcases List.mem_cons.mp hy with z | hy
  · rw [z]; exact depth_int0 _
  · cases hy
section
variable {K : PySem.W.Frag} {H : Hp}
theorem dp_use {y : V} {u : Ui} (h : UiR K H y u) : Dp K H y (uD u) := by
  obtain ⟨r, nr, rfl, h1, h2⟩ := h
  exact .tup h1 (.cons (.int _) (.cons (.tup h2 (dpAll_ints _)) (.cons (.int _) .nil)))
theorem dp_uses : ∀ {ys : List V} {us : List Ui}, Paired (UiR K H) ys us → DpAll K H ys (us.map uD)
  | _, _, .nil => .nil
  | _, _, .cons r t => .cons (dp_use r) (dp_uses t)
/-- the same uses are not unequal -/
theorem ned_uses {a b : Addr} {ys zs : List V} {us : List Ui} {Q : VK} (ha : SqT K H a ys) (pa : Paired (UiR K H) ys us) (hb : SqT K H b zs) (pb : Paired (UiR K H) zs us) (q : Q (.bl false) H) : rNeD K (.ref a) (.ref b) H Q := by
  have dep : (PyData.tuple (us.map uD)).depth ≤ 64 := Nat.le_trans (depth_tup (n := 2) fun y hy => by
    obtain ⟨u, _, rfl⟩ := List.mem_map.mp hy
    exact uD_depth u) (by decide)
  have pl : pln (.tuple (us.map uD)) = true := pln_tup fun y hy => by
    obtain ⟨u, _, rfl⟩ := List.mem_map.mp hy
    exact uD_pln u
  refine ned_pln (.tup ha (dp_uses pa)) (.tup hb (dp_uses pb)) pl pl dep dep fun k hk => ?_
  rw [hk.mpr rfl]
  exact q
theorem eqd_nats {a b : Addr} {xs : List Nat} {Q : VK} (ha : SqT K H a (nL xs)) (hb : SqT K H b (nL xs)) (q : Q (.bl true) H) : rEqD K (.ref a) (.ref b) H Q := eqd_pln (dp_nats ha) (dp_nats hb) (pln_nats _) (pln_nats _) (depth_nats _) (depth_nats _) fun r hr => by
  rw [hr.mpr rfl]
  exact q
end
section
variable {P : Program} {w : World} {K : PySem.W.Frag} {mg : Str → Option Value} {base : Heap}
def spFits (K : PySem.W.Frag) : Sp := fun vs H Q _ => ∃ (p tl rl r : Addr) (b : Bk) (u : Ui), vs = [.ref p, .ref r] ∧ BkAt K H p tl rl b ∧ UiR K H (.ref r) u ∧ 1 ≤ u.times ∧ u.times ≤ 10 ^ 40 ∧ u.names.length ≤ 1000 ∧ ∀ H', Same H H' → Q (.bl (useB b.tbs b.many u)) H'
theorem c_law_book_fits (D : FnAt K mg "_law_book_fits" s_law_book_fits) (T : Bl mg) : Cal P w K mg base 1 "_law_book_fits" (spFits K) [] := by
  refine calOf D sc_law_book_fits (fun _ _ _ _ _ _ us hl => match us, hl with | [_, _], _ => rfl) (fun vs H Q E h => ?_) (fun f cdv A outer s H vs Q E hr h => ?_)
  · obtain ⟨p, tl, rl, r, b, u, rfl, _⟩ := h
    rfl
  · obtain ⟨p, tl, rl, r, b, u, rfl, ⟨h1, ⟨ys, hT, pr⟩, _, _⟩, ⟨r', nr, er, hr1, hn⟩, t1, t2, n4, q⟩ := h
    have nd := sc_law_book_fits.nd
    cases er
    obtain ⟨yl, ya⟩ := paired_at pr
    have q0 := q H (Same.refl H)
    have e : useB b.tbs b.many u = (decide (0 ≤ u.at_ ∧ u.at_ ≤ (b.tbs.length : Int) - 1) && (decide (1 ≤ u.times ∧ u.times ≤ 10 ^ 40) && (decide ((u.names.length : Int) = ((b.tbs.getD u.at_.toNat (0, [])).1 : Int)) && u.names.all fun n => decide (0 ≤ n ∧ n ≤ (b.many : Int) - 1)))) := rfl
    rw [e, decide_eq_true (show 1 ≤ u.times ∧ u.times ≤ 10 ^ 40 from ⟨t1, t2⟩)] at q0
    refine ⟨_, (pss_cons (ps_if (PW.pt (pw_or (pt_not (pt_chain op_le op_lt pe_int (pe_ix (ixT K) (pv 1) pe_int (fun _ _ => rfl)) (pe_callB (crLen K) (by rfl) T.b_len (by decide +kernel) (pa_cons (pe_ix (ixL K) (pv 0) pe_int (fun _ _ => rfl)) pa_nil)))) (pw_or1 (pt_cmpR op_ne (pe_callB (crLen K) (by rfl) T.b_len (by decide +kernel) (pa_cons (pe_ix (ixT K) (pv 1) pe_int (fun _ _ => rfl)) pa_nil)) (pe_ix (ixT K) (pe_ix (ixL K) (pe_ix (ixL K) (pv 0) pe_int (fun _ _ => rfl)) (pe_ix (ixT K) (pv 1) pe_int (fun _ _ => rfl)) (fun _ _ => rfl)) pe_int (fun _ _ => rfl)) (nomark _)))))
        (pss_one (ps_ret pe_bl))
        pss_nil)
      (pss_one (ps_ret (pe_callB (crAll K) (by rfl) T.b_all (by decide +kernel) (pa_cons (pe_lc (own := [("name", 2)]) (g := gName 2) (tt := tYes) rfl nd (piTup K (pe_ix (ixT K) (pv 1) pe_int (fun _ _ => rfl))) (blkOk_by (N := ["state", "use", "name"]) (sc := defScope s_law_book_fits) (own := [("name", 2)]) (by decide +kernel)) (fun _ _ _ _ _ => (pg_name (i := 2) nd rfl (by first | exact Or.inl rfl | exact Or.inr rfl))) (fun _ _ _ _ _ => pts_nil) (fun _ _ _ _ _ => (pe_chain op_le op_lt pe_int (pv 2) (pe_ix (ixL K) (pv 0) pe_int (fun _ _ => rfl))))) pa_nil))))), ?_⟩
    refine ⟨_, rfl, r, _, (0 : Int), .int u.at_, rfl, rfl, hr1, rfl, 0, u.at_, rfl, rfl, _, rfl, ite2 (fun ha => ?_) (fun ha => ?_)⟩
    rotate_left
    · have : ¬ (0 ≤ u.at_ ∧ u.at_ ≤ (b.tbs.length : Int) - 1) := fun z => ha (decide_eq_true z.1)
      rw [decide_eq_false this] at q0
      exact ⟨false, rfl, iteT q0⟩
    have ha0 := of_decide_eq_true ha
    refine ⟨_, rfl, p, _, (0 : Int), .ref tl, rfl, rfl, SqL.of h1, rfl, tl, ys, rfl, .inl (SqL.of hT), u.at_, _, rfl, rfl, _, rfl, ite2 (fun hb => ?_) (fun hb => ?_)⟩
    · have : ¬ (0 ≤ u.at_ ∧ u.at_ ≤ (b.tbs.length : Int) - 1) := fun z => by
        rw [Bool.not_eq_true', decide_eq_false_iff_not] at hb
        omega
      rw [decide_eq_false this] at q0
      exact q0
    rw [Bool.not_eq_true', Bool.not_eq_false, decide_eq_true_eq] at hb
    have hat : 0 ≤ u.at_ ∧ u.at_ ≤ (b.tbs.length : Int) - 1 := ⟨ha0, by omega⟩
    rw [decide_eq_true hat] at q0
    obtain ⟨at_, hat_⟩ : ∃ n : Nat, u.at_ = (n : Int) := ⟨u.at_.toNat, by omega⟩
    have hlt : at_ < ys.length := by omega
    have hy : ys[at_]? = some ys[at_] := List.getElem?_eq_getElem hlt
    obtain ⟨t, ht, p2, q2, ep, h2, h3⟩ := ya _ _ hy
    have eg : (b.tbs.getD u.at_.toNat (0, [])).1 = t.1 := by
      rw [hat_, Int.toNat_natCast, List.getD_eq_getElem?_getD, ht]
      rfl
    refine ⟨_, rfl, r, _, (1 : Int), .ref nr, rfl, rfl, hr1, rfl, nr, _, rfl, .inr hn, _, rfl, p, _, (0 : Int), .ref tl, rfl, rfl, SqL.of h1, rfl, _, rfl, r, _, (0 : Int), .int u.at_, rfl, rfl, hr1, rfl, tl, ys, u.at_, _, rfl, rfl, SqL.of hT, by rw [hat_]; exact atI_nat hy, p2, _, (0 : Int), nV t.1, ep, rfl, h2, rfl, rfl, _, rfl, ite2 (fun hc => ?_) (fun hc => ?_)⟩
    · have ne : ¬ ((u.names.length : Int) = (t.1 : Int)) := fun z => by
        rw [Bool.not_eq_true', decide_eq_false_iff_not, List.length_map] at hc
        exact hc (congrArg V.int z)
      rw [eg, decide_eq_false ne] at q0
      exact q0
    have eqn : (u.names.length : Int) = (t.1 : Int) := by
      rw [Bool.not_eq_true', Bool.not_eq_false, decide_eq_true_eq, List.length_map] at hc
      injection hc
    refine ⟨_, rfl, r, _, (1 : Int), .ref nr, rfl, rfl, hr1, rfl, nr, rfl, ⟨_, hn⟩, fun W hW => lc_tupT hn (sel := fun _ => true) (P := fun i y _ => y = .bl (decide (0 ≤ u.names.getD i 0 ∧ u.names.getD i 0 ≤ (b.many : Int) - 1))) ⟨fun _ _ _ _ _ h => h, fun i H2 _ _ R r => r H2 (Same.refl H2), fun i H2 hi _ sm R r0 => ?_⟩ hW (lt_line (by rw [List.length_map]; omega)) (fun H2 bs sm hd _ pb => ?_)⟩
    · rw [List.length_map] at hi
      refine ⟨_, rfl, 0, u.names.getD i 0, rfl, int_getD hi, _, rfl, ite2 (fun hx => ?_) (fun hx => ?_)⟩
      · have hx0 := of_decide_eq_true hx
        refine ⟨_, rfl, p, _, (1 : Int), nV b.many, rfl, rfl, SqL.of (sm _ _ h1), rfl, u.names.getD i 0, (b.many : Int), int_getD hi, rfl, r0 _ H2 (Same.refl H2) (congrArg V.bl ?_)⟩
        rw [Bool.eq_iff_iff, decide_eq_true_iff, decide_eq_true_iff]
        omega
      · refine r0 _ H2 (Same.refl H2) (congrArg V.bl ?_)
        have hx0 : ¬ 0 ≤ u.names.getD i 0 := fun z => hx (decide_eq_true z)
        exact (decide_eq_false fun z => hx0 z.1).symm
    · rw [filter_yes, List.length_map] at pb
      have ey : bs = (u.names.map fun n => decide (0 ≤ n ∧ n ≤ (b.many : Int) - 1)).map V.bl := by
        rw [paired_map_eq pb]
        have z := congrArg (List.map fun n => V.bl (decide (0 ≤ n ∧ n ≤ (b.many : Int) - 1))) (map_range_get u.names 0)
        rw [List.map_map] at z
        rw [List.map_map]
        exact z
      rw [ey] at hd
      refine ⟨W, _, rfl, SqL.of hd, ?_⟩
      have qq := q H2 sm
      rw [e, decide_eq_true hat, decide_eq_true (show 1 ≤ u.times ∧ u.times ≤ 10 ^ 40 from ⟨t1, t2⟩), eg, decide_eq_true eqn] at qq
      rw [List.all_map]
      exact qq
def spStands (K : PySem.W.Frag) (CT CL CS CG : Addr) : Sp := fun vs H Q _ => ∃ (a pl ll p tl rl : Addr) (past : List Bk) (b : Bk) (later : List Bk), vs = [.ref a, .ref p] ∧ LgAt K CT CL CS CG H a pl ll past b later ∧ BkAt K H p tl rl b ∧ BkOk b ∧ ∀ H', Same H H' → Q (.bl true) H'
theorem c_law_stands (D : FnAt K mg "_law_stands" s_law_stands) (Z : Ev K mg) (T : Bl mg) (c_Ledger_puzzle : Met P w K mg base 6 Z.Ledger "puzzle" (spLPuz K Z.Table Z.Lot Z.State Z.Ledger Z.Puzzle) []) (c_Lot : Mak P w K mg base 6 "Lot" Z.Lot (spLot K Z.Table Z.Lot) []) (c_Table : Mak P w K mg base 3 "Table" Z.Table (spTab K Z.Table) [])
    (c_Lot_eq : Met P w K mg base 3 Z.Lot "__eq__" (spLotEq K Z.Table Z.Lot) []) (c_law_book_uses : Cal P w K mg base 1 "_law_book_uses" (spBUses K) []) (c_Ledger_numbers : Met P w K mg base 2 Z.Ledger "numbers" (spLNums K Z.Table Z.Lot Z.State Z.Ledger) []) : Cal P w K mg base 8 "_law_stands" (spStands K Z.Table Z.Lot Z.State Z.Ledger) [] := by
  obtain ⟨f_Lot_eq, fd_eq, ps_eq, me_Lot_eq, F_Lot_eq, b_Lot_eq⟩ := met_parts c_Lot_eq
  refine calOf D sc_law_stands (fun _ _ _ _ _ _ us hl => match us, hl with | [_, _], _ => rfl) (fun vs H Q E h => ?_) (fun f cdv A outer s H vs Q E hr h => ?_)
  · obtain ⟨a, pl, ll, p, tl, rl, past, b, later, rfl, _⟩ := h
    rfl
  · obtain ⟨a, pl, ll, p, tl, rl, past, b, later, rfl, hG, hB, ok, k⟩ := h
    have nd := sc_law_stands.nd
    have hu := hr.units
    obtain ⟨dx, sa, pys, lys, ha, _⟩ := id hG
    refine ⟨_, (pss_cons (ps_set (i := 2) nd rfl (by first | exact Or.inl rfl | exact Or.inr rfl) (pe_mt0 c_Ledger_puzzle hr (by decide) (pv 0) ))
      (pss_cons (ps_set (i := 3) nd rfl (by first | exact Or.inl rfl | exact Or.inr rfl) (pe_mk c_Lot hr (by decide) (by rfl) (pa_cons (pe_callTy (crTup K) (by rfl) T.b_tuple (by decide +kernel) (pa_cons (pe_lc (own := [("table", 4)]) (g := gName 4) (tt := tYes) rfl nd (piList K (pe_ix (ixL K) (pv 1) pe_int (fun _ _ => rfl))) (blkOk_by (N := ["ledger", "state", "puzzle", "lot", "table", "row"]) (sc := defScope s_law_stands) (own := [("table", 4)]) (by decide +kernel)) (fun _ _ _ _ _ => (pg_name (i := 4) nd rfl (by first | exact Or.inl rfl | exact Or.inr rfl))) (fun _ _ _ _ _ => pts_nil) (fun _ _ _ _ _ => (pe_mk c_Table hr (by decide) (by rfl) (pa_cons (pe_ix (ixT K) (pv 4) pe_int (fun _ _ => rfl)) (pa_cons (pe_ix (ixT K) (pv 4) pe_int (fun _ _ => rfl)) pa_nil))))) pa_nil)) pa_nil)))
      (pss_cons (ps_if (PW.pt (pw_or (pt_not (pt_cmpR (op_eqOwn F_Lot_eq me_Lot_eq b_Lot_eq (hr.mono (by decide)) (units0 hu)) (peFld K (pv 2)) (pv 3) (nomark _))) (pw_or (pt_cmpR op_ne (peFld K (pv 2)) (pe_ix (ixL K) (pv 1) pe_int (fun _ _ => rfl)) (nomark _)) (pw_or1 (pt_cmpR (neD K hu) (peFld K (pv 2)) (pe_c c_law_book_uses hr (by decide) (by rfl) (pa_cons (pv 1) pa_nil)) (nomark _))))))
        (pss_one (ps_ret pe_bl))
        pss_nil)
      (pss_one (ps_ret (pe_cmpR (eqD K hu) (pe_mt0 c_Ledger_numbers hr (by decide) (pv 0) ) (pe_callTy (crTup K) (by rfl) T.b_tuple (by decide +kernel) (pa_cons (pe_lc (own := [("row", 5)]) (g := gName 5) (tt := tYes) rfl nd (piList K (pe_ix (ixL K) (pv 1) pe_int (fun _ _ => rfl))) (blkOk_by (N := ["ledger", "state", "puzzle", "lot", "table", "row"]) (sc := defScope s_law_stands) (own := [("row", 5)]) (by decide +kernel)) (fun _ _ _ _ _ => (pg_name (i := 5) nd rfl (by first | exact Or.inl rfl | exact Or.inr rfl))) (fun _ _ _ _ _ => pts_nil) (fun _ _ _ _ _ => (pe_ix (ixT K) (pv 5) pe_int (fun _ _ => rfl)))) pa_nil)) (nomark _))))))), ?_⟩
    refine ⟨_, rfl, a, dx, _, rfl, ha, rfl, a, pl, ll, past, b, later, rfl, hG, ok, fun x H1 sm1 hP => ?_⟩
    have hB1 := hB.grow sm1
    have hG1 := hG.grow sm1
    obtain ⟨h1, ⟨ys, hT, pr⟩, ⟨rs, hR, pR⟩, _⟩ := id hB1
    obtain ⟨yl, ya⟩ := paired_at pr
    have t1 := ok.t1
    have t16 := ok.t16
    -- the lot, made anew
    refine ⟨_, rfl, p, _, (0 : Int), .ref tl, rfl, rfl, SqL.of h1, rfl, tl, rfl, ⟨_, SqL.of hT⟩, fun W hW => lc_listT (SqL.of hT) (sel := fun _ => true) (P := fun i y H => TabR K Z.Table H y (b.tbs.getD i (0, []))) ⟨fun _ _ _ _ sm h => h.imm (SameT.imm sm), fun i H2 _ _ R r => r H2 (Same.refl H2), fun i H2 hi _ sm R r => ?_⟩ hW (lt_line (by omega)) (fun H2 bs sm2 hd _ pb => ?_)⟩
    · have hy : ys[i]? = some ys[i] := List.getElem?_eq_getElem hi
      obtain ⟨t, ht, p2, q2, ep, h2, h3⟩ := ya i _ hy
      have o := ok.tb t (List.mem_of_getElem? ht)
      have et : b.tbs.getD i (0, []) = t := by rw [List.getD_eq_getElem?_getD, ht]; rfl
      have eg : ys.getD i .non = .ref p2 := by rw [List.getD_eq_getElem?_getD, hy]; exact ep
      refine ⟨_, rfl, p2, _, (0 : Int), nV t.1, eg, rfl, same_seqT sm h2, rfl, _, rfl, p2, _, (1 : Int), .ref q2, eg, rfl, same_seqT sm h2, rfl, ?_⟩
      intro x2 dx2 hx2 hdx2 ne2
      have s1 := same_new (o := .own x2) hdx2
      have hx3 : (upd H2 dx2 (.own x2)) x2 = none := by rw [upd_ne ne2.symm]; exact hx2
      have s2 : Same (upd H2 dx2 (.own x2)) (upd (upd H2 dx2 (.own x2)) x2 (.ins Z.Table dx2 [])) := same_new hx3
      refine ⟨x2, dx2, q2, t.1, t.2, rfl, upd_same, same_seqT ((sm.trans s1).trans s2) h3, o.2.1, o.2.2.1, fun o2 ho m hm => Nat.le_trans (o.2.2.2.2 o2 ho m hm) (by decide), rfl, ?_⟩
      rw [upd_upd]
      have s3 : Same (upd H2 dx2 (.own x2)) (upd (upd H2 dx2 (.own x2)) x2 (.ins Z.Table dx2 (tabF t.1 q2 t.2))) := same_new hx3
      rw [et] at r
      exact r _ _ (s1.trans s3) ⟨x2, rfl, dx2, q2, upd_same, same_seqT ((sm.trans s1).trans s3) h3⟩
    rw [filter_yes, yl] at pb
    have pb2 : Paired (TabR K Z.Table H2) bs b.tbs := paired_rangeD (0, []) pb
    refine ⟨W, _, rfl, .inl ⟨SqL.of hd, fun q hq => ?_⟩⟩
    have sq : Same H2 (upd H2 q (.tup bs)) := same_new hq
    intro x4 dx4 hx4 hdx4 ne4
    have s5 : Same (upd H2 q (.tup bs)) (upd (upd H2 q (.tup bs)) dx4 (.own x4)) := same_new hdx4
    have hx5 : (upd (upd H2 q (.tup bs)) dx4 (.own x4)) x4 = none := by rw [upd_ne ne4.symm]; exact hx4
    have s6 : Same (upd (upd H2 q (.tup bs)) dx4 (.own x4)) (upd (upd (upd H2 q (.tup bs)) dx4 (.own x4)) x4 (.ins Z.Lot dx4 [])) := same_new hx5
    have hq5 : SqT K (upd (upd H2 q (.tup bs)) dx4 (.own x4)) q bs := .inl (.inl (s5 _ _ upd_same))
    have pb5 : Paired (TabR K Z.Table (upd (upd H2 q (.tup bs)) dx4 (.own x4))) bs b.tbs := Paired.mapP pb2 fun _ _ z => z.grow (sq.trans s5)
    refine ⟨x4, dx4, q, bs, b.tbs, rfl, upd_same, same_seqT s6 hq5, Paired.mapP pb5 fun _ _ z => z.grow s6, t1, t16, ok.tb, fun sw H6 kp6 e6 => ⟨rfl, ?_⟩⟩
    have s7 : Same (upd (upd H2 q (.tup bs)) dx4 (.own x4)) H6 := fun c o hc => kp6 _ _ (s6 _ _ hc) (ne_of_none hc hx5)
    have sm6 : Same H1 H6 := ((sm2.trans sq).trans s5).trans s7
    have hL6 : LtAt K Z.Table Z.Lot H6 x4 b.tbs := ⟨dx4, q, sw, bs, e6, same_seqT s7 hq5, Paired.mapP pb5 fun _ _ z => z.grow s7⟩
    obtain ⟨dp, pL, tu, us, hx1, hL1, hU1, pU1⟩ := hP
    have hx6 := sm6 _ _ hx1
    have hL16 := hL1.grow sm6
    obtain ⟨d7, _, _, _, h7, _, _⟩ := id hL16
    refine ⟨_, rfl, x, Z.Puzzle, dp, _, _, rfl, hx6, Z.c_Puzzle.c, Z.n_Puzzle_lot, rfl, _, rfl, pL, x4, d7, dx4, _, _, rfl, rfl, h7, e6, pL, x4, b.tbs, b.tbs, rfl, hL16, hL6, rfl, fun r hr0 => ⟨r, rfl, r, rfl, ?_⟩⟩
    rw [hr0 rfl]
    refine iteF ?_
    have h16 := sm6 _ _ h1
    refine ⟨_, rfl, x, Z.Puzzle, dp, _, _, rfl, hx6, Z.c_Puzzle.c, Z.n_Puzzle_many, rfl, _, rfl, p, _, (1 : Int), nV b.many, rfl, rfl, SqL.of h16, rfl, rfl, false, nbl_t rfl, iteF ?_⟩
    have hB6 := hB1.grow sm6
    have hlen := ok.len
    refine ⟨_, rfl, x, Z.Puzzle, dp, _, _, rfl, hx6, Z.c_Puzzle.c, Z.n_Puzzle_uses, rfl, _, rfl, p, tl, rl, b, rfl, hB6, by omega, fun t zs H8 sm8 _ ht8 pz8 => ?_⟩
    have sm18 := sm6.trans sm8
    refine ned_uses (same_seqT sm18 hU1) (Paired.mapP pU1 fun _ _ z => z.imm (Same.imm sm18)) (.inl (.inl ht8)) pz8 ?_
    refine ⟨false, rfl, iteF ?_⟩
    have hG8 := hG1.grow sm18
    obtain ⟨dg, sg, _, _, hg8, _⟩ := id hG8
    refine ⟨_, rfl, a, dg, _, rfl, hg8, rfl, a, pl, ll, past, b, later, rfl, hG8, by omega, fun t2 H9 sm9 ht20 ht2 => ?_⟩
    have sm19 := sm18.trans sm9
    have h19 := sm19 _ _ h1
    have hR9 := sm19 _ _ hR
    obtain ⟨rlen, ra⟩ := paired_at pR
    refine ⟨_, rfl, p, _, (2 : Int), .ref rl, rfl, rfl, SqL.of h19, rfl, rl, rfl, ⟨_, SqL.of hR9⟩, fun W2 hW2 => lc_listT (SqL.of hR9) (sel := fun _ => true) (P := fun i y _ => y = nV (b.rows.getD i (0, ⟨0, [], 0⟩)).1) ⟨fun _ _ _ _ _ h => h, fun i H2 _ _ R r => r H2 (Same.refl H2), fun i HA hi _ sm R r => ?_⟩ hW2 (lt_line (by omega)) (fun HA ns smA hns _ pn => ?_)⟩
    · have hy : rs[i]? = some rs[i] := List.getElem?_eq_getElem hi
      obtain ⟨r0, hr0, q0, yu, eq0, h30, h40⟩ := ra i _ hy
      have er : b.rows.getD i (0, ⟨0, [], 0⟩) = r0 := by rw [List.getD_eq_getElem?_getD, hr0]; rfl
      have ey : rs.getD i .non = .ref q0 := by rw [List.getD_eq_getElem?_getD, hy]; exact eq0
      exact ⟨_, rfl, q0, _, (0 : Int), nV r0.1, ey, rfl, same_seqT (sm19.trans sm) h30, rfl, r _ HA (Same.refl HA) (by rw [er])⟩
    · rw [filter_yes, rlen] at pn
      have ey : ns = nL (b.rows.map (·.1)) := by
        rw [paired_map_eq pn]
        have z := congrArg (List.map fun r : Nat × Ui => nV r.1) (map_range_get b.rows (0, ⟨0, [], 0⟩))
        rw [List.map_map] at z
        show _ = (b.rows.map (·.1)).map nV
        rw [List.map_map]
        exact z
      rw [ey] at hns
      refine ⟨W2, _, rfl, .inl ⟨SqL.of hns, fun t3 ht3 => ?_⟩⟩
      have s3 := same_new (o := .tup (nL (b.rows.map (·.1)))) ht3
      exact eqd_nats (.inl (.inl (s3 _ _ (smA _ _ ht2)))) (.inl (.inl upd_same)) (k _ (((sm1.trans sm19).trans smA).trans s3))
end
end L2.KK
namespace L2.KK
open PySem PySem.Spec PyProof.Rows C8
theorem sc_law_book_deed : FnScope ["d", "state", "kind", "names", "way", "at", "places", "spots", "k", "number"] ["d", "state", "kind", "names"] (defScope s_law_book_deed) := ⟨rfl, rfl, rfl, by decide +kernel, rfl, by decide +kernel, by decide +kernel⟩
/-- what is known of a drawn deed -/
def DeedD (b : Bk) (nm : Nat) : Gd → Prop
  | .bad _ => False
  | .name => b.many < nm ∨ b.many = 0
  | .add u => 1 ≤ u.times ∧ u.times ≤ 4 ∧ u.names.length ≤ 4
  | .drop _ => True
  | .times _ t => t ≤ 5
  | .table i t => (0 ≤ i ∧ i ≤ (b.tbs.length : Int) - 1) ∧ TbOk t ∧ t.1 = (b.tbs.getD i.toNat (0, [])).1
theorem b01 (r : Bool) : ∃ x : Nat, V.int (if r = true then 1 else 0) = nV x ∧ x ≤ 1 := by
  cases r
  · exact ⟨0, rfl, by decide⟩
  · exact ⟨1, rfl, by decide⟩
section
variable {P : Program} {w : World} {K : PySem.W.Frag} {mg : Str → Option Value} {base : Heap}
def spBDeed (K : PySem.W.Frag) (CT : Addr) : Sp := fun vs H Q _ => ∃ (d c p tl rl : Addr) (b : Bk) (nm : Nat), vs = [.ref d, .ref p, .non, nV nm] ∧ Dr H d c ∧ BkAt K H p tl rl b ∧ p ≠ d ∧ tl ≠ d ∧ rl ≠ d ∧ rl ≠ c ∧ BkOk b ∧
  ∀ y g H', LdAt K CT H' y g → DeedD b nm g → Dr H' d c → Kp d H H' → Q y H'
theorem c_law_book_deed (D : FnAt K mg "_law_book_deed" s_law_book_deed) (Z : Ev K mg) (T : Bl mg) (c_law_draw : Cal P w K mg base 1 "_law_draw" spDraw []) (c_law_rare : Cal P w K mg base 2 "_law_rare" spRare []) (c_law_pick : Cal P w K mg base 2 "_law_pick" spPick []) (c_law_loose : Cal P w K mg base 5 "_law_loose" (spMkB K) []) (c_law_kind_table : Cal P w K mg base 7 "_law_kind_table" (spKT K) []) : Cal P w K mg base 8 "_law_book_deed" (spBDeed K Z.Table) [] := by
  refine calOf D sc_law_book_deed (fun _ _ _ _ _ _ us hl => match us, hl with | [_, _, _, _], _ => rfl) (fun vs H Q E h => ?_) (fun f cdv A outer s H vs Q E hr h => ?_)
  · obtain ⟨d, c, p, tl, rl, b, nm, rfl, _⟩ := h
    rfl
  · obtain ⟨d, c, p, tl, rl, b, nm, rfl, D, hB, npd, ntd, nrd, nrc, ok, k⟩ := h
    have nd := sc_law_book_deed.nd
    have t1 := ok.t1
    have t16 := ok.t16
    have hmany := ok.many
    have hlen := ok.len
    refine ⟨_, (pss_cons (ps_set (i := 4) nd rfl (by first | exact Or.inl rfl | exact Or.inr rfl) (pe_c c_law_draw hr (by decide) (by rfl) (pa_cons (pv 0) (pa_cons pe_int pa_nil))))
      (pss_cut (ps_if (PW.pt (pw_or (PW.pt (pw_and (pt_cmpR (inSeq K) (pv 4) (pe_tup (pa_cons pe_int (pa_cons pe_int pa_nil))) (by rfl)) (pw_and1 (pt_cmpR op_lt (pe_ix (ixL K) (pv 1) pe_int (fun _ _ => rfl)) (pv 3) (nomark _))))) (pw_or1 (pt_cmpR op_eq (pe_ix (ixL K) (pv 1) pe_int (fun _ _ => rfl)) pe_int (nomark _)))))
        (pss_one (ps_ret (pe_tup (pa_cons pe_str pa_nil))))
        pss_nil)
      (pss_cons (ps_if (PW.pt (pw_or (pt_cmpR (inSeq K) (pv 4) (pe_tup (pa_cons pe_int (pa_cons pe_int (pa_cons pe_int pa_nil)))) (by rfl)) (pw_or1 (pt_cmpR op_eq (pe_callB (crLen K) (by rfl) T.b_len (by decide +kernel) (pa_cons (pe_ix (ixL K) (pv 1) pe_int (fun _ _ => rfl)) pa_nil)) pe_int (nomark _)))))
        (pss_cons (ps_set (i := 5) nd rfl (by first | exact Or.inl rfl | exact Or.inr rfl) (pe_c c_law_draw hr (by decide) (by rfl) (pa_cons (pv 0) (pa_cons (pe_op op_add (pe_callB (crLen K) (by rfl) T.b_len (by decide +kernel) (pa_cons (pe_ix (ixL K) (pv 1) pe_int (fun _ _ => rfl)) pa_nil)) (pe_callTy call_int1 (by rfl) T.b_int (by decide +kernel) (pa_cons (pe_c c_law_rare hr (by decide) (by rfl) (pa_cons (pv 0) (pa_cons pe_int pa_nil))) pa_nil))) pa_nil))))
        (pss_cut (ps_set (i := 6) nd rfl (by first | exact Or.inl rfl | exact Or.inr rfl) (pe_ifExp (pt_cmpR op_lt (pv 5) (pe_callB (crLen K) (by rfl) T.b_len (by decide +kernel) (pa_cons (pe_ix (ixL K) (pv 1) pe_int (fun _ _ => rfl)) pa_nil)) (nomark _)) (pe_ix (ixT K) (pe_ix (ixL K) (pe_ix (ixL K) (pv 1) pe_int (fun _ _ => rfl)) (pv 5) (fun _ _ => rfl)) pe_int (fun _ _ => rfl)) pe_int))
        (pss_cons (ps_set (i := 7) nd rfl (by first | exact Or.inl rfl | exact Or.inr rfl) (pe_callTy (crTup K) (by rfl) T.b_tuple (by decide +kernel) (pa_cons (pe_lc (own := [("k", 8)]) (g := gName 8) (tt := tYes) rfl nd (pi_range1 (by rfl) T.b_range (pa_cons (pv 6) pa_nil)) (blkOk_by (N := ["d", "state", "kind", "names", "way", "at", "places", "spots", "k", "number"]) (sc := defScope s_law_book_deed) (own := [("k", 8)]) (by decide +kernel)) (fun _ _ _ _ _ => (pg_name (i := 8) nd rfl (by first | exact Or.inl rfl | exact Or.inr rfl))) (fun _ _ _ _ _ => pts_nil) (fun _ _ _ _ _ => (pe_c c_law_draw hr (by decide) (by rfl) (pa_cons (pv 0) (pa_cons (pe_op op_add (pe_ix (ixL K) (pv 1) pe_int (fun _ _ => rfl)) (pe_callTy call_int1 (by rfl) T.b_int (by decide +kernel) (pa_cons (pe_c c_law_rare hr (by decide) (by rfl) (pa_cons (pv 0) (pa_cons pe_int pa_nil))) pa_nil))) pa_nil))))) pa_nil)))
        (pss_one (ps_ret (pe_tup (pa_cons pe_str (pa_cons (pv 5) (pa_cons (pv 7) (pa_cons (pe_op op_addNN pe_int (pe_c c_law_draw hr (by decide) (by rfl) (pa_cons (pv 0) (pa_cons pe_int pa_nil)))) pa_nil))))))))))
        pss_nil)
      (pss_cons (ps_set (i := 9) nd rfl (by first | exact Or.inl rfl | exact Or.inr rfl) (pe_op op_add (pe_ix (ixT K) (pe_c c_law_pick hr (by decide) (by rfl) (pa_cons (pv 0) (pa_cons (pe_ix (ixL K) (pv 1) pe_int (fun _ _ => rfl)) pa_nil))) pe_int (fun _ _ => rfl)) (pe_callTy call_int1 (by rfl) T.b_int (by decide +kernel) (pa_cons (pe_c c_law_rare hr (by decide) (by rfl) (pa_cons (pv 0) (pa_cons pe_int pa_nil))) pa_nil))))
      (pss_cons (ps_if (pt_cmpR op_eq (pv 4) pe_int (nomark _))
        (pss_one (ps_ret (pe_tup (pa_cons pe_str (pa_cons (pv 9) pa_nil)))))
        pss_nil)
      (pss_cons (ps_if (pt_cmpR (inSeq K) (pv 4) (pe_tup (pa_cons pe_int (pa_cons pe_int pa_nil))) (by rfl))
        (pss_one (ps_ret (pe_tup (pa_cons pe_str (pa_cons (pv 9) (pa_cons (pe_c c_law_draw hr (by decide) (by rfl) (pa_cons (pv 0) (pa_cons pe_int pa_nil))) pa_nil))))))
        pss_nil)
      (pss_cons (ps_set (i := 5) nd rfl (by first | exact Or.inl rfl | exact Or.inr rfl) (pe_c c_law_draw hr (by decide) (by rfl) (pa_cons (pv 0) (pa_cons (pe_callB (crLen K) (by rfl) T.b_len (by decide +kernel) (pa_cons (pe_ix (ixL K) (pv 1) pe_int (fun _ _ => rfl)) pa_nil)) pa_nil))))
      (pss_cons (ps_set (i := 6) nd rfl (by first | exact Or.inl rfl | exact Or.inr rfl) (pe_ix (ixT K) (pe_ix (ixL K) (pe_ix (ixL K) (pv 1) pe_int (fun _ _ => rfl)) (pv 5) (fun _ _ => rfl)) pe_int (fun _ _ => rfl)))
      (pss_cons (ps_if (PW.pt (pw_or (pt_cmpR op_isN (pv 2) pe_non (nomark _)) (pw_or1 (pt_cmpR op_eq (pe_c c_law_draw hr (by decide) (by rfl) (pa_cons (pv 0) (pa_cons pe_int pa_nil))) pe_int (nomark _)))))
        (pss_one (ps_ret (pe_tup (pa_cons pe_str (pa_cons (pv 5) (pa_cons (pe_c c_law_loose hr (by decide) (by rfl) (pa_cons (pv 0) (pa_cons (pv 6) (pa_cons (pe_c c_law_draw hr (by decide) (by rfl) (pa_cons (pv 0) (pa_cons pe_int pa_nil))) pa_nil)))) pa_nil))))))
        pss_nil)
      (pss_one (ps_ret (pe_tup (pa_cons pe_str (pa_cons (pv 5) (pa_cons (pe_c c_law_kind_table hr (by decide) (by rfl) (pa_cons (pv 0) (pa_cons (pv 2) (pa_cons (pv 6) pa_nil)))) pa_nil))))))))))))))), ?_⟩
    refine ⟨_, rfl, d, c, 9, rfl, D, by decide, by decide, fun wy H1 _ D1 kp1 => ?_⟩
    have hB1 := hB.kpd D kp1 npd ntd nrd
    obtain ⟨h1, _⟩ := id hB1
    have nameK : ∀ H2, Same H1 H2 → (b.many < nm ∨ b.many = 0) → 1 ≤ sizeLine ∧ ∀ r, H2 r = none → Q (.ref r) (upd H2 r (.tup [.str "name"])) := fun H2 sm hc => ⟨by decide, fun r hr0 => by
      have s2 := sm.trans (same_new (o := .tup [.str "name"]) hr0)
      exact k (.ref r) .name _ ⟨r, rfl, .inl (.inl upd_same)⟩ hc (D1.keep s2) (kp1.trans (Kp.of s2))⟩
    refine ⟨fun σ' H' => σ' = [some (.ref d), some (.ref p), some .non, some (nV nm), some (nV wy), none, none, none, none, none] ∧ Same H1 H' ∧ b.many ≠ 0, ?_, ?_⟩
    · refine ⟨_, rfl, by show 2 ≤ sizeLine; decide, fun q hq => ?_⟩
      have s1 := same_new (H := H1) (o := .tup [.int 0, .int 1]) hq
      have h12 := s1 _ _ h1
      have zero : (decide (nV b.many = V.int 0) = true → b.many = 0) ∧ (¬ decide (nV b.many = V.int 0) = true → b.many ≠ 0) := by
        refine ⟨fun h => ?_, fun h z => h (decide_eq_true (by rw [z]; rfl))⟩
        have := V.int.inj (of_decide_eq_true h)
        omega
      refine ⟨q, _, rfl, .inr (.inl (.inl upd_same)), rfl, rfl, _, rfl, ite2 (fun _ => ?_) (fun _ => ?_)⟩
      · refine ⟨_, rfl, p, _, (1 : Int), nV b.many, rfl, rfl, SqL.of h12, rfl, _, rfl, b.many, nm, rfl, rfl, _, rfl, ite2 (fun hlt => ?_) (fun _ => ?_)⟩
        · have := of_decide_eq_true hlt
          exact nameK _ s1 (.inl (by omega))
        · refine ⟨_, rfl, p, _, (1 : Int), nV b.many, rfl, rfl, SqL.of h12, rfl, rfl, _, rfl, ite2 (fun hz => nameK _ s1 (.inr (zero.1 hz))) (fun hz => ⟨rfl, s1, zero.2 hz⟩)⟩
      · refine ⟨_, rfl, p, _, (1 : Int), nV b.many, rfl, rfl, SqL.of h12, rfl, rfl, _, rfl, ite2 (fun hz => nameK _ s1 (.inr (zero.1 hz))) (fun hz => ⟨rfl, s1, zero.2 hz⟩)⟩
    rintro σ' H2 ⟨rfl, sm2, m0⟩
    have D2 := D1.keep sm2
    have hB2 := hB1.grow sm2
    have kp2 := kp1.trans (Kp.of sm2)
    -- add, or what follows
    refine ⟨_, rfl, by show 3 ≤ sizeLine; decide, fun q hq => ?_⟩
    have s3 := same_new (H := H2) (o := .tup [.int 2, .int 3, .int 4]) hq
    have D3 := D2.keep s3
    have hB3 := hB2.grow s3
    have kp3 := kp2.trans (Kp.of s3)
    have q3 : SqT K (upd H2 q (.tup [.int 2, .int 3, .int 4])) q [.int 2, .int 3, .int 4] := .inl (.inl upd_same)
    revert D3 hB3 kp3 q3
    clear s3 hB1 h1 nameK sm2 D2 hB2
    generalize upd H2 q (.tup [.int 2, .int 3, .int 4]) = H3
    intro D3 hB3 kp3 q3
    obtain ⟨h3, ⟨ys, hT, pT⟩, ⟨rs, hR, pR⟩, _⟩ := id hB3
    obtain ⟨yl, ya⟩ := paired_at pT
    obtain ⟨rl1, ra⟩ := paired_at pR
    refine ⟨q, _, rfl, .inr q3, rfl, rfl, _, rfl, ite2 (fun _ => ?_) (fun _ => ?_)⟩
    · refine ⟨_, rfl, _, rfl, p, _, (0 : Int), .ref tl, rfl, rfl, SqL.of h3, rfl, tl, ys, rfl, .inl (SqL.of hT), _, rfl, d, c, 7, rfl, D3, by decide, by decide, fun x4 H4 D4 kp4 => .inr ⟨x4, rfl, ?_⟩⟩
      obtain ⟨x, ex, hx⟩ := b01 x4
      refine ⟨(ys.length : Int), (x : Int), rfl, ex, d, c, (ys.length : Int) + (x : Int), rfl, D4, by omega, by omega, fun at_ H5 hat D5 kp5 => ?_⟩
      have hB5 := (hB3.kpd D3 kp4 npd ntd nrd).kpd D4 kp5 npd ntd nrd
      obtain ⟨h5, ⟨ys5, hT5, pT5⟩, _⟩ := id hB5
      obtain ⟨yl5, ya5⟩ := paired_at pT5
      refine ⟨fun σ' H' => ∃ pl : Nat, σ' = [some (.ref d), some (.ref p), some .non, some (nV nm), some (nV wy), some (nV at_), some (nV pl), none, none, none] ∧ H' = H5 ∧ pl ≤ 4, ?_, ?_⟩
      · refine ⟨_, rfl, _, rfl, p, _, (0 : Int), .ref tl, rfl, rfl, SqL.of h5, rfl, tl, ys5, rfl, .inl (SqL.of hT5), (at_ : Int), _, rfl, rfl, _, rfl, ite2 (fun hlt => ?_) (fun _ => ⟨1, rfl, rfl, by decide⟩)⟩
        have hlt' : at_ < ys5.length := by
          have := of_decide_eq_true hlt
          omega
        obtain ⟨t, ht, p2, q2, ep, hp2, _⟩ := ya5 at_ _ (List.getElem?_eq_getElem hlt')
        exact ⟨_, rfl, p, _, (0 : Int), .ref tl, rfl, rfl, SqL.of h5, rfl, _, rfl, tl, ys5, (at_ : Int), _, rfl, rfl, SqL.of hT5, atI_nat (List.getElem?_eq_getElem hlt'), p2, _, (0 : Int), nV t.1, ep, rfl, hp2, rfl, t.1, rfl, rfl, (ok.tb t (List.mem_of_getElem? ht)).2.1⟩
      rintro σ' H6 ⟨pl, rfl, rfl, hpl⟩
      refine ⟨_, rfl, _, rfl, by omega, by omega, ?_⟩
      rw [Int.toNat_natCast]
      intro W hW
      obtain ⟨nWd, nWc⟩ := D5.ne hW
      have npW : p ≠ W := fun z => by rw [← z, h5] at hW; cases hW
      refine lc_range (lo := 0) (n := pl) (fun j H' => ∃ ns : List Nat, H' W = some (.lst (nL ns)) ∧ ns.length = j ∧ H' p = some (.lst [.ref tl, nV b.many, .ref rl, nV b.ahead]) ∧ Dr H' d c ∧ Kp d H6 H') ⟨[], upd_same, rfl, by rw [upd_ne npW]; exact h5, D5.put nWd nWc, (Kp.refl d H6).new hW⟩ ?_ ?_
      · rintro j H7 hj ⟨ns, g7, l7, h7, D7, kp7⟩
        refine ⟨rfl, ?_⟩
        refine ⟨_, rfl, _, rfl, p, _, (1 : Int), nV b.many, rfl, rfl, SqL.of h7, rfl, _, rfl, d, c, 9, rfl, D7, by decide, by decide, fun x8 H8 D8 kp8 => .inr ⟨x8, rfl, ?_⟩⟩
        obtain ⟨z, ez, hz⟩ := b01 x8
        refine ⟨(b.many : Int), (z : Int), rfl, ez, d, c, (b.many : Int) + (z : Int), rfl, D8, by omega, by omega, fun sp H9 _ D9 kp9 => ?_⟩
        refine ⟨_, kp9 _ _ (kp8 _ _ g7 nWd) nWd, Nat.lt_of_le_of_lt (show (nL ns).length ≤ 4 by rw [List.length_map]; omega) (by decide), ns ++ [sp], by rw [upd_same, nL_snoc], by rw [List.length_append, l7]; rfl, by rw [upd_ne npW]; exact kp9 _ _ (kp8 _ _ h7 npd) npd, D9.put nWd nWc, ((kp7.trans kp8).trans kp9).new hW⟩
      rintro H7 ⟨ns, g7, l7, _, D7, kp7⟩
      refine ⟨W, _, rfl, .inl ⟨SqL.of g7, fun sp hsp => ?_⟩⟩
      have s8 := same_new (H := H7) (o := .tup (nL ns)) hsp
      refine ⟨_, rfl, _, rfl, _, rfl, d, c, 4, rfl, D7.keep s8, by decide, by decide, fun m H9 hm D9 kp9 => ⟨1, m, rfl, rfl, by show 4 ≤ sizeLine; decide, fun r hr0 => ?_⟩⟩
      have sA := same_new (H := H9) (o := .tup [.str "add", nV at_, .ref sp, nV (1 + m)]) hr0
      have gsp : SqT K H9 sp (nL ns) := .inl (.inl (kp9 _ _ upd_same ((D7.ne hsp).1)))
      refine k (.ref r) (.add ⟨(at_ : Int), iL ns, ((1 + m : Nat) : Int)⟩) _ ⟨r, sp, rfl, .inl (.inl upd_same), same_seqT sA (by rw [← nL_eq]; exact gsp), by show (ns.map _).length ≤ 1000; rw [List.length_map]; omega⟩ ⟨by show (1 : Int) ≤ ((1 + m : Nat) : Int); omega, by show ((1 + m : Nat) : Int) ≤ 4; omega, by show (ns.map _).length ≤ 4; rw [List.length_map]; omega⟩ (D9.keep sA) ?_
      exact ((((((kp3.trans kp4).trans kp5).trans kp7).trans (Kp.of s8)).trans kp9).trans (Kp.of sA))
    refine ⟨_, rfl, p, _, (2 : Int), .ref rl, rfl, rfl, SqL.of h3, rfl, rl, rs, rfl, .inl (SqL.of hR), rfl, _, rfl, ite2 (fun _ => ?_) (fun hno => ?_)⟩
    · refine ⟨_, rfl, _, rfl, p, _, (0 : Int), .ref tl, rfl, rfl, SqL.of h3, rfl, tl, ys, rfl, .inl (SqL.of hT), _, rfl, d, c, 7, rfl, D3, by decide, by decide, fun x4 H4 D4 kp4 => .inr ⟨x4, rfl, ?_⟩⟩
      obtain ⟨x, ex, hx⟩ := b01 x4
      refine ⟨(ys.length : Int), (x : Int), rfl, ex, d, c, (ys.length : Int) + (x : Int), rfl, D4, by omega, by omega, fun at_ H5 hat D5 kp5 => ?_⟩
      have hB5 := (hB3.kpd D3 kp4 npd ntd nrd).kpd D4 kp5 npd ntd nrd
      obtain ⟨h5, ⟨ys5, hT5, pT5⟩, _⟩ := id hB5
      obtain ⟨yl5, ya5⟩ := paired_at pT5
      refine ⟨fun σ' H' => ∃ pl : Nat, σ' = [some (.ref d), some (.ref p), some .non, some (nV nm), some (nV wy), some (nV at_), some (nV pl), none, none, none] ∧ H' = H5 ∧ pl ≤ 4, ?_, ?_⟩
      · refine ⟨_, rfl, _, rfl, p, _, (0 : Int), .ref tl, rfl, rfl, SqL.of h5, rfl, tl, ys5, rfl, .inl (SqL.of hT5), (at_ : Int), _, rfl, rfl, _, rfl, ite2 (fun hlt => ?_) (fun _ => ⟨1, rfl, rfl, by decide⟩)⟩
        have hlt' : at_ < ys5.length := by
          have := of_decide_eq_true hlt
          omega
        obtain ⟨t, ht, p2, q2, ep, hp2, _⟩ := ya5 at_ _ (List.getElem?_eq_getElem hlt')
        exact ⟨_, rfl, p, _, (0 : Int), .ref tl, rfl, rfl, SqL.of h5, rfl, _, rfl, tl, ys5, (at_ : Int), _, rfl, rfl, SqL.of hT5, atI_nat (List.getElem?_eq_getElem hlt'), p2, _, (0 : Int), nV t.1, ep, rfl, hp2, rfl, t.1, rfl, rfl, (ok.tb t (List.mem_of_getElem? ht)).2.1⟩
      rintro σ' H6 ⟨pl, rfl, rfl, hpl⟩
      refine ⟨_, rfl, _, rfl, by omega, by omega, ?_⟩
      rw [Int.toNat_natCast]
      intro W hW
      obtain ⟨nWd, nWc⟩ := D5.ne hW
      have npW : p ≠ W := fun z => by rw [← z, h5] at hW; cases hW
      refine lc_range (lo := 0) (n := pl) (fun j H' => ∃ ns : List Nat, H' W = some (.lst (nL ns)) ∧ ns.length = j ∧ H' p = some (.lst [.ref tl, nV b.many, .ref rl, nV b.ahead]) ∧ Dr H' d c ∧ Kp d H6 H') ⟨[], upd_same, rfl, by rw [upd_ne npW]; exact h5, D5.put nWd nWc, (Kp.refl d H6).new hW⟩ ?_ ?_
      · rintro j H7 hj ⟨ns, g7, l7, h7, D7, kp7⟩
        refine ⟨rfl, ?_⟩
        refine ⟨_, rfl, _, rfl, p, _, (1 : Int), nV b.many, rfl, rfl, SqL.of h7, rfl, _, rfl, d, c, 9, rfl, D7, by decide, by decide, fun x8 H8 D8 kp8 => .inr ⟨x8, rfl, ?_⟩⟩
        obtain ⟨z, ez, hz⟩ := b01 x8
        refine ⟨(b.many : Int), (z : Int), rfl, ez, d, c, (b.many : Int) + (z : Int), rfl, D8, by omega, by omega, fun sp H9 _ D9 kp9 => ?_⟩
        refine ⟨_, kp9 _ _ (kp8 _ _ g7 nWd) nWd, Nat.lt_of_le_of_lt (show (nL ns).length ≤ 4 by rw [List.length_map]; omega) (by decide), ns ++ [sp], by rw [upd_same, nL_snoc], by rw [List.length_append, l7]; rfl, by rw [upd_ne npW]; exact kp9 _ _ (kp8 _ _ h7 npd) npd, D9.put nWd nWc, ((kp7.trans kp8).trans kp9).new hW⟩
      rintro H7 ⟨ns, g7, l7, _, D7, kp7⟩
      refine ⟨W, _, rfl, .inl ⟨SqL.of g7, fun sp hsp => ?_⟩⟩
      have s8 := same_new (H := H7) (o := .tup (nL ns)) hsp
      refine ⟨_, rfl, _, rfl, _, rfl, d, c, 4, rfl, D7.keep s8, by decide, by decide, fun m H9 hm D9 kp9 => ⟨1, m, rfl, rfl, by show 4 ≤ sizeLine; decide, fun r hr0 => ?_⟩⟩
      have sA := same_new (H := H9) (o := .tup [.str "add", nV at_, .ref sp, nV (1 + m)]) hr0
      have gsp : SqT K H9 sp (nL ns) := .inl (.inl (kp9 _ _ upd_same ((D7.ne hsp).1)))
      refine k (.ref r) (.add ⟨(at_ : Int), iL ns, ((1 + m : Nat) : Int)⟩) _ ⟨r, sp, rfl, .inl (.inl upd_same), same_seqT sA (by rw [← nL_eq]; exact gsp), by show (ns.map _).length ≤ 1000; rw [List.length_map]; omega⟩ ⟨by show (1 : Int) ≤ ((1 + m : Nat) : Int); omega, by show ((1 + m : Nat) : Int) ≤ 4; omega, by show (ns.map _).length ≤ 4; rw [List.length_map]; omega⟩ (D9.keep sA) ?_
      exact ((((((kp3.trans kp4).trans kp5).trans kp7).trans (Kp.of s8)).trans kp9).trans (Kp.of sA))
    have r0 : 0 < rs.length := by
      apply Classical.byContradiction
      intro z
      exact hno (decide_eq_true (by rw [show rs.length = 0 by omega]; rfl))
    refine ⟨_, rfl, _, rfl, p, _, (2 : Int), .ref rl, rfl, rfl, SqL.of h3, rfl, d, c, rl, rs, rfl, D3, hR, nrd, nrc, r0, by omega, fun i v H4 hv D4 kp4 => ?_⟩
    obtain ⟨r1, hr1, pr, yu, rfl, hpr, _⟩ := ra i v hv
    have im4 := Kp.imm kp4 D3
    refine ⟨pr, _, (0 : Int), nV r1.1, rfl, rfl, imm_seqT im4 hpr, rfl, _, rfl, d, c, 9, rfl, D4, by decide, by decide, fun x5 H5 D5 kp5 => .inr ⟨x5, rfl, ?_⟩⟩
    obtain ⟨x, ex, _⟩ := b01 x5
    refine ⟨(r1.1 : Int), (x : Int), rfl, ex, ?_⟩
    have kpH5 := (kp3.trans kp4).trans kp5
    refine ⟨_, rfl, rfl, _, rfl, ite2 (fun _ => ?_) (fun _ => ?_)⟩
    · refine ⟨_, rfl, by show 2 ≤ sizeLine; decide, fun r hr0 => ?_⟩
      have s6 := same_new (H := H5) (o := .tup [.str "drop", .int ((r1.1 : Int) + (x : Int))]) hr0
      exact k (.ref r) (.drop ((r1.1 : Int) + (x : Int))) _ ⟨r, rfl, .inl (.inl upd_same)⟩ trivial (D5.keep s6) (kpH5.trans (Kp.of s6))
    refine ⟨_, rfl, by show 2 ≤ sizeLine; decide, fun q6 hq6 => ?_⟩
    have s6 := same_new (H := H5) (o := .tup [.int 6, .int 7]) hq6
    refine ⟨q6, _, rfl, .inr (.inl (.inl upd_same)), rfl, rfl, _, rfl, ite2 (fun _ => ?_) (fun _ => ?_)⟩
    · refine ⟨_, rfl, _, rfl, d, c, 6, rfl, D5.keep s6, by decide, by decide, fun t H7 ht D7 kp7 => ⟨by show 3 ≤ sizeLine; decide, fun r hr0 => ?_⟩⟩
      have s8 := same_new (H := H7) (o := .tup [.str "times", .int ((r1.1 : Int) + (x : Int)), nV t]) hr0
      exact k (.ref r) (.times ((r1.1 : Int) + (x : Int)) (t : Int)) _ ⟨r, rfl, .inl (.inl upd_same)⟩ (show (t : Int) ≤ 5 by omega) (D7.keep s8) (((kpH5.trans (Kp.of s6)).trans kp7).trans (Kp.of s8))
    have D6 := D5.keep s6
    have hB6 : BkAt K (upd H5 q6 (.tup [.int 6, .int 7])) p tl rl b := (((hB3.kpd D3 kp4 npd ntd nrd).kpd D4 kp5 npd ntd nrd).grow s6)
    obtain ⟨h6, ⟨ys6, hT6, pT6⟩, _⟩ := id hB6
    obtain ⟨yl6, _⟩ := paired_at pT6
    refine ⟨_, rfl, _, rfl, p, _, (0 : Int), .ref tl, rfl, rfl, SqL.of h6, rfl, tl, ys6, rfl, .inl (SqL.of hT6), d, c, (ys6.length : Int), rfl, D6, by omega, by omega, fun at_ H7 hat D7 kp7 => ?_⟩
    have hB7 := hB6.kpd D6 kp7 npd ntd nrd
    obtain ⟨h7, ⟨ys7, hT7, pT7⟩, _⟩ := id hB7
    obtain ⟨yl7, ya7⟩ := paired_at pT7
    have hlt : at_ < ys7.length := by omega
    obtain ⟨t, ht, p2, q2, ep, hp2, hq2⟩ := ya7 at_ _ (List.getElem?_eq_getElem hlt)
    have okt := ok.tb t (List.mem_of_getElem? ht)
    refine ⟨_, rfl, p, _, (0 : Int), .ref tl, rfl, rfl, SqL.of h7, rfl, _, rfl, tl, ys7, (at_ : Int), _, rfl, rfl, SqL.of hT7, atI_nat (List.getElem?_eq_getElem hlt), p2, _, (0 : Int), nV t.1, ep, rfl, hp2, rfl, ?_⟩
    refine ⟨_, rfl, rfl, _, rfl, ite2 (fun _ => ?_) (fun h => absurd (decide_eq_true rfl) h)⟩
    refine ⟨_, rfl, _, rfl, _, rfl, _, rfl, d, c, 5, rfl, D7, by decide, by decide, fun bar H8 _ D8 kp8 => ⟨d, c, t.1, bar, rfl, D8, okt.1, okt.2.1, fun y ps H9 ok9 lt9 D9 kp9 => ⟨by show 3 ≤ sizeLine; decide, fun r hr0 => ?_⟩⟩⟩
    have sA := same_new (H := H9) (o := .tup [.str "table", .int (at_ : Int), y]) hr0
    have eg : (b.tbs.getD ((at_ : Int)).toNat (0, [])).1 = t.1 := by
      rw [Int.toNat_natCast, List.getD_eq_getElem?_getD, ht]
      rfl
    exact k (.ref r) (.table (at_ : Int) (t.1, ps)) _ ⟨r, y, rfl, .inl (.inl upd_same), lt9.imm (Same.imm sA)⟩ ⟨⟨by omega, by omega⟩, ok9, eg.symm⟩ (D9.keep sA) (((((kpH5.trans (Kp.of s6)).trans kp7).trans kp8).trans kp9).trans (Kp.of sA))
end
end L2.KK
namespace L2.KK
open PySem PySem.Spec PyProof.Rows C8
theorem sc_law_book_done : FnScope ["state", "deed", "new", "numbers", "row", "at", "use"] ["state", "deed"] (defScope s_law_book_done) := ⟨rfl, rfl, rfl, by decide +kernel, rfl, by decide +kernel, by decide +kernel⟩
theorem cut_to (xs : List V) {i : Nat} (h : i ≤ xs.length) : cutV xs none (some (i : Int)) = xs.take i := by
  unfold cutV
  rw [HT.sIx_none, HT.sIx_nat, List.drop_zero, Nat.sub_zero, Nat.min_eq_left h]
theorem cut_from (xs : List V) {i : Nat} (h : i ≤ xs.length) : cutV xs (some (i : Int)) none = xs.drop i := by
  unfold cutV
  rw [HT.sIx_none, HT.sIx_nat, Nat.min_eq_left h]
  exact List.take_of_length_le (by rw [List.length_drop]; omega)
theorem paired_take {α β : Type} {F : α → β → Prop} : ∀ {xs : List α} {ys : List β} (n : Nat), Paired F xs ys → Paired F (xs.take n) (ys.take n)
  | _, _, 0, _ => .nil
  | _, _, _ + 1, .nil => .nil
  | _, _, n + 1, .cons r t => .cons r (paired_take n t)
theorem paired_drop {α β : Type} {F : α → β → Prop} : ∀ {xs : List α} {ys : List β} (n : Nat), Paired F xs ys → Paired F (xs.drop n) (ys.drop n)
  | _, _, 0, h => h
  | _, _, _ + 1, .nil => .nil
  | _, _, n + 1, .cons _ t => paired_drop n t
theorem eqV_nI (a : Nat) (n : Int) : eqV (nV a) (.int n) = decide ((a : Int) = n) := by
  have e : eqV (nV a) (.int n) = ((a : Int) == n) := rfl
  rw [e, Bool.eq_iff_iff, beq_iff_eq, decide_eq_true_iff]
section
variable {P : Program} {w : World} {K : PySem.W.Frag} {mg : Str → Option Value} {base : Heap}
def spBDone (K : PySem.W.Frag) (CT : Addr) : Sp := fun vs H Q _ => ∃ (p tl rl : Addr) (y : V) (b : Bk) (g : Gd) (nm : Nat), vs = [.ref p, y] ∧ BkAt K H p tl rl b ∧ LdAt K CT H y g ∧ DeedD b nm g ∧ BkOk b ∧ nm ≤ 400 ∧ b.rows.length < 200 ∧
  (∀ b', doneG b g = .ok b' → ∀ t p' tl' rl' H', Same H H' → H p' = none → H tl' = none → H rl' = none → H' t = some (.tup [.ref p', toldV g b']) → BkAt K H' p' tl' rl' b' → Q (.ref t) H') ∧
  ∀ w, doneG b g = .error w → ∀ t H', Same H H' → H' t = some (.tup [.non, .str w]) → Q (.ref t) H'
theorem c_law_book_done (D : FnAt K mg "_law_book_done" s_law_book_done) (Z : Ev K mg) (T : Bl mg) (c_law_book_copy : Cal P w K mg base 1 "_law_book_copy" (spBCopy K) []) (c_law_book_fits : Cal P w K mg base 1 "_law_book_fits" (spFits K) []) : Cal P w K mg base 2 "_law_book_done" (spBDone K Z.Table) [] := by
  refine calOf D sc_law_book_done (fun _ _ _ _ _ _ us hl => match us, hl with | [_, _], _ => rfl) (fun vs H Q E h => ?_) (fun f cdv A outer s H vs Q E hr h => ?_)
  · obtain ⟨p, tl, rl, y, b, g, nm, rfl, _⟩ := h
    rfl
  · obtain ⟨p, tl, rl, y, b, g, nm, rfl, hB, hg, hd, ok, hnm, hlen, k1, k2⟩ := h
    have nd := sc_law_book_done.nd
    have t1 := ok.t1
    refine ⟨_, (pss_cons (ps_set (i := 2) nd rfl (by first | exact Or.inl rfl | exact Or.inr rfl) (pe_c c_law_book_copy hr (by decide) (by rfl) (pa_cons (pv 0) pa_nil)))
      (pss_cons (ps_if (pt_cmpR op_eq (pe_ix (ixT K) (pv 1) pe_int (fun _ _ => rfl)) pe_str (nomark _))
        (pss_cons (ps_augS (pv 2) pe_int (getL K) pe_int ip_add set_list)
        (pss_one (ps_ret (pe_tup (pa_cons (pv 2) (pa_cons pe_non pa_nil))))))
        pss_nil)
      (pss_cons (ps_if (pt_cmpR op_eq (pe_ix (ixT K) (pv 1) pe_int (fun _ _ => rfl)) pe_str (nomark _))
        (pss_cons (ps_if (pt_not (pt_val (pe_c c_law_book_fits hr (by decide) (by rfl) (pa_cons (pv 0) (pa_cons (pe_slice (slT K) (pv 1) (po_some pe_int) po_none) pa_nil)))))
          (pss_one (ps_ret (pe_tup (pa_cons pe_non (pa_cons pe_str pa_nil)))))
          pss_nil)
        (pss_cons (ps_expr (pe_bm PySem.F.plainAttrs_list PySem.F.slot_list_append PySem.F.type_list_append mt_append (pe_ix (ixL K) (pv 2) pe_int (fun _ _ => rfl)) (pa_cons (pe_tup (pa_cons (pe_ix (ixL K) (pv 2) pe_int (fun _ _ => rfl)) (pa_cons (pe_tup (pa_cons (pe_ix (ixT K) (pv 1) pe_int (fun _ _ => rfl)) (pa_cons (pe_ix (ixT K) (pv 1) pe_int (fun _ _ => rfl)) (pa_cons (pe_ix (ixT K) (pv 1) pe_int (fun _ _ => rfl)) pa_nil)))) pa_nil))) pa_nil)))
        (pss_cons (ps_augS (pv 2) pe_int (getL K) pe_int ip_add set_list)
        (pss_one (ps_ret (pe_tup (pa_cons (pv 2) (pa_cons (pe_op op_subNN (pe_ix (ixL K) (pv 2) pe_int (fun _ _ => rfl)) pe_int) pa_nil))))))))
        pss_nil)
      (pss_cons (ps_if (pt_cmpR op_eq (pe_ix (ixT K) (pv 1) pe_int (fun _ _ => rfl)) pe_str (nomark _))
        (pss_cons (ps_asg (pe_ix (ixT K) (pv 1) pe_int (fun _ _ => rfl)) (pg_sub (pe_ix (ixL K) (pv 2) pe_int (fun _ _ => rfl)) (pe_ix (ixT K) (pv 1) pe_int (fun _ _ => rfl)) set_list))
        (pss_one (ps_ret (pe_tup (pa_cons (pv 2) (pa_cons pe_non pa_nil))))))
        pss_nil)
      (pss_cons (ps_setLc (i := 3) (own := [("row", 4)]) (g := gName 4) (tt := tYes) rfl nd rfl rfl (sw_true rfl rfl rfl (by decide +kernel)) (piList K (pe_ix (ixL K) (pv 0) pe_int (fun _ _ => rfl))) (blkOk_by (N := ["state", "deed", "new", "numbers", "row", "at", "use"]) (sc := defScope s_law_book_done) (own := [("row", 4)]) (by decide +kernel)) (fun _ _ _ _ _ => (pg_name (i := 4) nd rfl (by first | exact Or.inl rfl | exact Or.inr rfl))) (fun _ _ _ _ _ => pts_nil) (fun _ _ _ _ _ => (pe_ix (ixT K) (pv 4) pe_int (fun _ _ => rfl))))
      (pss_cons (ps_if (PW.pt (pw_or (pt_cmpR (notInSeq K) (pe_ix (ixT K) (pv 1) pe_int (fun _ _ => rfl)) (pv 3) (by rfl)) (pw_or1 (PW.pt (pw_and (pt_cmpR op_eq (pe_ix (ixT K) (pv 1) pe_int (fun _ _ => rfl)) pe_str (nomark _)) (pw_and1 (pt_cmpR op_lt (pe_ix (ixT K) (pv 1) pe_int (fun _ _ => rfl)) pe_int (nomark _))))))))
        (pss_one (ps_ret (pe_tup (pa_cons pe_non (pa_cons (pe_ix (ixT K) (pv 1) pe_int (fun _ _ => rfl)) pa_nil)))))
        pss_nil)
      (pss_cons (ps_set (i := 5) nd rfl (by first | exact Or.inl rfl | exact Or.inr rfl) (pe_bm PySem.F.plainAttrs_list PySem.F.slot_list_index PySem.F.type_list_index mt_index (pv 3) (pa_cons (pe_ix (ixT K) (pv 1) pe_int (fun _ _ => rfl)) pa_nil)))
      (pss_cut (ps_if (pt_cmpR op_eq (pe_ix (ixT K) (pv 1) pe_int (fun _ _ => rfl)) pe_str (nomark _))
        (pss_one (ps_asg (pe_op op_cat (pe_slice (slL K) (pe_ix (ixL K) (pv 2) pe_int (fun _ _ => rfl)) po_none (po_some (pv 5))) (pe_slice (slL K) (pe_ix (ixL K) (pv 2) pe_int (fun _ _ => rfl)) (po_some (pe_op op_add (pv 5) pe_int)) po_none)) (pg_sub (pv 2) pe_int set_list)))
        (pss_cons (ps_set (i := 6) nd rfl (by first | exact Or.inl rfl | exact Or.inr rfl) (pe_ix (ixT K) (pe_ix (ixL K) (pe_ix (ixL K) (pv 2) pe_int (fun _ _ => rfl)) (pv 5) (fun _ _ => rfl)) pe_int (fun _ _ => rfl)))
        (pss_one (ps_asg (pe_tup (pa_cons (pe_ix (ixT K) (pv 1) pe_int (fun _ _ => rfl)) (pa_cons (pe_tup (pa_cons (pe_ix (ixT K) (pv 6) pe_int (fun _ _ => rfl)) (pa_cons (pe_ix (ixT K) (pv 6) pe_int (fun _ _ => rfl)) (pa_cons (pe_ix (ixT K) (pv 1) pe_int (fun _ _ => rfl)) pa_nil)))) pa_nil))) (pg_sub (pe_ix (ixL K) (pv 2) pe_int (fun _ _ => rfl)) (pv 5) set_list)))))
      (pss_one (ps_ret (pe_tup (pa_cons (pv 2) (pa_cons pe_non pa_nil))))))))))))), ?_⟩
    refine ⟨_, rfl, p, tl, rl, b, rfl, hB, fun p1 tl1 rl1 H1 hp1 htl1 hrl1 sm1 hB1 => ?_⟩
    have hB0 := hB.grow sm1
    have hg1 := hg.imm (Same.imm sm1)
    have sput : ∀ {x : Addr} {o : HO} {H' : Hp}, H x = none → Same H H' → Same H (upd H' x o) := fun hx sm c o e => by
      rw [upd_ne (ne_of_none e hx)]
      exact sm c o e
    obtain ⟨h1, ⟨ys, hT, pT⟩, ⟨rs, hR, pR⟩, n1, n2, n3⟩ := id hB1
    obtain ⟨yl, _⟩ := paired_at pT
    obtain ⟨rl0, ra⟩ := paired_at pR
    cases g with
    | bad w => exact hg.elim
    | name =>
      obtain ⟨q, rfl, hS⟩ := hg1
      have hm : ¬ b.many = 400 := by
        rcases (show b.many < nm ∨ b.many = 0 from hd) with z | z <;> omega
      have e := done_name b
      rw [if_neg hm] at e
      refine ⟨_, rfl, q, _, (0 : Int), .str "name", rfl, rfl, hS, rfl, rfl, _, rfl, ite2 (fun _ => ?_) (fun h => absurd (decide_eq_true rfl) h)⟩
      refine ⟨_, rfl, p1, _, 1, nV b.many, rfl, rfl, SqL.of h1, rfl, by decide, (b.many : Int), 1, rfl, rfl, p1, _, 1, 1, rfl, rfl, h1, rfl, ?_⟩
      refine ⟨_, rfl, by show 2 ≤ sizeLine; decide, fun t ht => ?_⟩
      have im : Imm H1 (upd H1 p1 (.lst [.ref tl1, nV (b.many + 1), .ref rl1, nV b.ahead])) := imm_upd h1 trivial
      have s3 : Same (upd H1 p1 (.lst [.ref tl1, nV (b.many + 1), .ref rl1, nV b.ahead])) (upd (upd H1 p1 (.lst [.ref tl1, nV (b.many + 1), .ref rl1, nV b.ahead])) t (.tup [.ref p1, .non])) := same_new ht
      refine k1 _ e t p1 tl1 rl1 _ ((sput hp1 sm1).trans s3) hp1 htl1 hrl1 upd_same (BkAt.grow ?_ s3)
      exact ⟨upd_same, ⟨ys, by rw [upd_ne n1.symm]; exact hT, Paired.mapP pT fun _ _ z => z.imm im⟩, ⟨rs, by rw [upd_ne n2.symm]; exact hR, Paired.mapP pR fun _ _ z => z.imm im⟩, n1, n2, n3⟩
    | add u =>
      obtain ⟨q, nr, rfl, hS, hn, hl⟩ := hg1
      obtain ⟨u1, u2, u3⟩ := hd
      refine ⟨_, rfl, q, _, (0 : Int), .str "add", rfl, rfl, hS, rfl, rfl, _, rfl, ite2 (fun h => absurd h (str_ne (by decide))) (fun _ => ?_)⟩
      refine ⟨_, rfl, q, _, (0 : Int), .str "add", rfl, rfl, hS, rfl, rfl, _, rfl, ite2 (fun _ => ?_) (fun h => absurd (decide_eq_true rfl) h)⟩
      refine ⟨_, rfl, _, rfl, 1, rfl, q, _, rfl, hS, fun z => absurd z.1 (by show ¬ HT.sIx 4 0 (some 1) = 0; decide), fun _ uu huu => ?_⟩
      have s2 : Same H1 (upd H1 uu (.tup [.int u.at_, .ref nr, .int u.times])) := same_new huu
      refine ⟨p, tl, rl, uu, b, u, rfl, hB0.grow s2, ⟨uu, nr, rfl, .inl (.inl upd_same), same_seqT s2 hn⟩, u1, Int.le_trans u2 (by decide), by omega, fun H3 sm3 => ⟨_, rfl, ite2 (fun hu => ?_) (fun hu => ?_)⟩⟩
      · rw [Bool.not_eq_true'] at hu
        have e := done_add b u
        rw [if_neg (fun z => by rw [z.1] at hu; cases hu)] at e
        refine ⟨by show 2 ≤ sizeLine; decide, fun t ht => ?_⟩
        have s4 := same_new (H := H3) (o := .tup [.non, .str "add"]) ht
        exact k2 _ e t _ (((sm1.trans s2).trans sm3).trans s4) upd_same
      rw [Bool.not_eq_true', Bool.not_eq_false] at hu
      have e := done_add b u
      rw [if_pos ⟨hu, by omega⟩] at e
      have s13 := s2.trans sm3
      have hS3 := same_seqT s13 hS
      have hn3 := same_seqT s13 hn
      have h13 := s13 _ _ h1
      have hR3 := s13 _ _ hR
      refine ⟨_, rfl, p1, _, (2 : Int), .ref rl1, rfl, rfl, SqL.of h13, rfl, .inl ⟨rfl, _, SqL.of hR3⟩, _, rfl, p1, _, (3 : Int), nV b.ahead, rfl, rfl, SqL.of h13, rfl, _, rfl, q, _, (1 : Int), .int u.at_, rfl, rfl, hS3, rfl, _, rfl, q, _, (2 : Int), .ref nr, rfl, rfl, hS3, rfl, _, rfl, q, _, (3 : Int), .int u.times, rfl, rfl, hS3, rfl, by show 3 ≤ sizeLine; decide, fun u9 hu9 => ⟨by show 2 ≤ sizeLine; decide, fun r9 hr9 => ?_⟩⟩
      have s4 : Same H3 (upd H3 u9 (.tup [.int u.at_, .ref nr, .int u.times])) := same_new hu9
      have s5 : Same (upd H3 u9 (.tup [.int u.at_, .ref nr, .int u.times])) (upd (upd H3 u9 (.tup [.int u.at_, .ref nr, .int u.times])) r9 (.tup [nV b.ahead, .ref u9])) := same_new hr9
      have hrow : RowR K (upd (upd H3 u9 (.tup [.int u.at_, .ref nr, .int u.times])) r9 (.tup [nV b.ahead, .ref u9])) (.ref r9) (b.ahead, u) := ⟨r9, .ref u9, rfl, .inl (.inl upd_same), u9, nr, rfl, .inl (.inl (s5 _ _ upd_same)), same_seqT (s4.trans s5) hn3⟩
      have s15 := (s13.trans s4).trans s5
      revert hrow s15
      clear s4 s5
      generalize upd (upd H3 u9 (.tup [.int u.at_, .ref nr, .int u.times])) r9 (.tup [nV b.ahead, .ref u9]) = H5
      intro hrow s15
      have h15 := s15 _ _ h1
      have hR5 := s15 _ _ hR
      have hT5 := s15 _ _ hT
      refine ⟨rl1, rs, .ref r9, rfl, rfl, hR5, Nat.lt_of_le_of_lt (show rs.length ≤ 200 by omega) (by decide), ?_⟩
      have im6 : Imm H5 (upd H5 rl1 (.lst (rs ++ [.ref r9]))) := imm_upd hR5 trivial
      have h16 : (upd H5 rl1 (.lst (rs ++ [.ref r9]))) p1 = some (.lst [.ref tl1, nV b.many, .ref rl1, nV b.ahead]) := by rw [upd_ne n2]; exact h15
      have hT6 : (upd H5 rl1 (.lst (rs ++ [.ref r9]))) tl1 = some (.lst ys) := by rw [upd_ne n3]; exact hT5
      have hR6 : (upd H5 rl1 (.lst (rs ++ [.ref r9]))) rl1 = some (.lst (rs ++ [.ref r9])) := upd_same
      have sH6 : Same H (upd H5 rl1 (.lst (rs ++ [.ref r9]))) := sput hrl1 (sm1.trans s15)
      revert im6 h16 hT6 hR6 sH6
      generalize upd H5 rl1 (.lst (rs ++ [.ref r9])) = H6
      intro im6 h16 hT6 hR6 sH6
      refine ⟨_, rfl, p1, _, 3, nV b.ahead, rfl, rfl, SqL.of h16, rfl, by decide, (b.ahead : Int), 1, rfl, rfl, p1, _, 3, 3, rfl, rfl, h16, rfl, ?_⟩
      have im7 : Imm H6 (upd H6 p1 (.lst [.ref tl1, nV b.many, .ref rl1, nV (b.ahead + 1)])) := imm_upd h16 trivial
      have sH7 : Same H (upd H6 p1 (.lst [.ref tl1, nV b.many, .ref rl1, nV (b.ahead + 1)])) := sput hp1 sH6
      refine ⟨_, rfl, _, rfl, p1, _, (3 : Int), nV (b.ahead + 1), rfl, rfl, SqL.of upd_same, rfl, b.ahead + 1, 1, rfl, rfl, by omega, by show 2 ≤ sizeLine; decide, fun t ht => ?_⟩
      have s8 : Same (upd H6 p1 (.lst [.ref tl1, nV b.many, .ref rl1, nV (b.ahead + 1)])) (upd (upd H6 p1 (.lst [.ref tl1, nV b.many, .ref rl1, nV (b.ahead + 1)])) t (.tup [.ref p1, nV (b.ahead + 1 - 1)])) := same_new ht
      refine k1 _ e t p1 tl1 rl1 _ (sH7.trans s8) hp1 htl1 hrl1 upd_same (BkAt.grow ?_ s8)
      have imA := ((Same.imm s15).trans im6).trans im7
      exact ⟨upd_same, ⟨ys, by rw [upd_ne n1.symm]; exact hT6, Paired.mapP pT fun _ _ z => z.imm imA⟩, ⟨_, by rw [upd_ne n2.symm]; exact hR6, paired_snoc (Paired.mapP pR fun _ _ z => z.imm imA) (hrow.imm (im6.trans im7))⟩, n1, n2, n3⟩
    | table i tb =>
      obtain ⟨q, yt, rfl, hS, ht⟩ := hg1
      obtain ⟨d1, d2, d3⟩ := hd
      have e := done_table b i tb
      rw [if_pos ⟨d1, ok_told d2, d3⟩] at e
      obtain ⟨j, rfl⟩ : ∃ j : Nat, i = (j : Int) := ⟨i.toNat, by omega⟩
      refine ⟨_, rfl, q, _, (0 : Int), .str "table", rfl, rfl, hS, rfl, rfl, _, rfl, ite2 (fun h => absurd h (str_ne (by decide))) (fun _ => ?_)⟩
      refine ⟨_, rfl, q, _, (0 : Int), .str "table", rfl, rfl, hS, rfl, rfl, _, rfl, ite2 (fun h => absurd h (str_ne (by decide))) (fun _ => ?_)⟩
      refine ⟨_, rfl, q, _, (0 : Int), .str "table", rfl, rfl, hS, rfl, rfl, _, rfl, ite2 (fun _ => ?_) (fun h => absurd (decide_eq_true rfl) h)⟩
      refine ⟨_, rfl, q, _, (2 : Int), yt, rfl, rfl, hS, rfl, _, rfl, p1, _, (0 : Int), .ref tl1, rfl, rfl, SqL.of h1, rfl, _, rfl, q, _, (1 : Int), .int (j : Int), rfl, rfl, hS, rfl, tl1, ys, (j : Int), j, rfl, rfl, hT, ixN_lt (by omega), ?_⟩
      refine ⟨_, rfl, by show 2 ≤ sizeLine; decide, fun t ht0 => ?_⟩
      have im : Imm H1 (upd H1 tl1 (.lst (ys.set j yt))) := imm_upd hT trivial
      have s3 : Same (upd H1 tl1 (.lst (ys.set j yt))) (upd (upd H1 tl1 (.lst (ys.set j yt))) t (.tup [.ref p1, .non])) := same_new ht0
      refine k1 _ e t p1 tl1 rl1 _ ((sput htl1 sm1).trans s3) hp1 htl1 hrl1 upd_same (BkAt.grow ?_ s3)
      exact ⟨by rw [upd_ne n1]; exact h1, ⟨_, upd_same, by rw [Int.toNat_natCast]; exact paired_set (Paired.mapP pT fun _ _ z => z.imm im) (ht.imm im)⟩, ⟨rs, by rw [upd_ne n3.symm]; exact hR, Paired.mapP pR fun _ _ z => z.imm im⟩, n1, n2, n3⟩
    | drop n =>
      obtain ⟨q, rfl, hS⟩ := hg1
      have e := done_drop b n
      refine ⟨_, rfl, q, _, (0 : Int), .str "drop", rfl, rfl, hS, rfl, rfl, _, rfl, ite2 (fun h => absurd h (str_ne (by decide))) (fun _ => ?_)⟩
      refine ⟨_, rfl, q, _, (0 : Int), .str "drop", rfl, rfl, hS, rfl, rfl, _, rfl, ite2 (fun h => absurd h (str_ne (by decide))) (fun _ => ?_)⟩
      refine ⟨_, rfl, q, _, (0 : Int), .str "drop", rfl, rfl, hS, rfl, rfl, _, rfl, ite2 (fun h => absurd h (str_ne (by decide))) (fun _ => ?_)⟩
      obtain ⟨h0, _, ⟨rs0, hR0, pR0⟩, _⟩ := id hB0
      obtain ⟨rl00, ra0⟩ := paired_at pR0
      refine ⟨_, rfl, p, _, (2 : Int), .ref rl, rfl, rfl, SqL.of h0, rfl, rl, rfl, ⟨_, SqL.of hR0⟩, fun W hW => lc_listT (SqL.of hR0) (sel := fun _ => true) (P := fun i y _ => y = nV (b.rows.getD i (0, ⟨0, [], 0⟩)).1) ⟨fun _ _ _ _ _ h => h, fun i H2 _ _ R r => r H2 (Same.refl H2), fun i HA hi _ sm R r => ?_⟩ hW (lt_line (by omega)) (fun H2 ns s2 hns _ pn => ?_)⟩
      · have hy : rs0[i]? = some rs0[i] := List.getElem?_eq_getElem hi
        obtain ⟨r0, hr0, q0, yu, eq0, h30, h40⟩ := ra0 i _ hy
        have er : b.rows.getD i (0, ⟨0, [], 0⟩) = r0 := by rw [List.getD_eq_getElem?_getD, hr0]; rfl
        have ey : rs0.getD i .non = .ref q0 := by rw [List.getD_eq_getElem?_getD, hy]; exact eq0
        exact ⟨_, rfl, q0, _, (0 : Int), nV r0.1, ey, rfl, same_seqT sm h30, rfl, r _ HA (Same.refl HA) (by rw [er])⟩
      rw [filter_yes, rl00] at pn
      have ey : ns = nL (b.rows.map (·.1)) := by
        rw [paired_map_eq pn]
        have z := congrArg (List.map fun r : Nat × Ui => nV r.1) (map_range_get b.rows (0, ⟨0, [], 0⟩))
        rw [List.map_map] at z
        show _ = (b.rows.map (·.1)).map nV
        rw [List.map_map]
        exact z
      rw [ey] at hns
      have hS2 := same_seqT s2 hS
      refine ⟨_, rfl, q, _, (1 : Int), .int n, rfl, rfl, hS2, rfl, _, rfl, W, _, rfl, .inl (SqL.of hns), rfl, flat_nats _, _, rfl, ?_⟩
      show if (!inV (.int n) (nL (b.rows.map (·.1)))) = true then _ else _
      rw [inV_nums, nums_eq]
      have nope : ∀ H3, Same H2 H3 → doneG b (.drop n) = .error "drop" → 2 ≤ sizeLine ∧ ∀ t, H3 t = none → Q (.ref t) (upd H3 t (.tup [.non, .str "drop"])) := fun H3 s3 e3 => ⟨by decide, fun t ht => k2 _ e3 t _ (((sm1.trans s2).trans s3).trans (same_new ht)) upd_same⟩
      refine ite2 (fun h => ?_) (fun h => ?_)
      · rw [Bool.not_eq_true', decide_eq_false_iff_not] at h
        rw [if_neg h] at e
        exact ⟨_, rfl, q, _, (0 : Int), .str "drop", rfl, rfl, hS2, rfl, nope _ (Same.refl _) e⟩
      rw [Bool.not_eq_true', Bool.not_eq_false, decide_eq_true_eq] at h
      rw [if_pos h] at e
      refine ⟨_, rfl, q, _, (0 : Int), .str "drop", rfl, rfl, hS2, rfl, rfl, _, rfl, ite2 (fun h => absurd h (str_ne (by decide))) (fun _ => ?_)⟩
      obtain ⟨i, hi, ⟨r0, hr0, er0⟩, hbe⟩ := idx_mem h
      have gi : (nL (b.rows.map (·.1)))[i]? = some (nV r0.1) := by
        rw [List.getElem?_map, List.getElem?_map, hr0]
        rfl
      refine ⟨_, rfl, .inl ⟨rfl, _, SqL.of hns⟩, _, rfl, q, _, (1 : Int), .int n, rfl, rfl, hS2, rfl, W, _, .int n, i, nV r0.1, rfl, rfl, SqL.of hns, rfl, flat_nats _, gi, by rw [eqV_nI]; exact decide_eq_true er0, fun m z' hm hz => ?_, ?_⟩
      · rw [List.getElem?_map, List.getElem?_map] at hz
        cases hrm : b.rows[m]? with
        | none => rw [hrm] at hz; cases hz
        | some rm =>
          rw [hrm] at hz
          cases hz
          rw [eqV_nI]
          exact decide_eq_false (hbe m hm rm hrm)
      have h12 := s2 _ _ h1
      have hR2 := s2 _ _ hR
      have hT2 := s2 _ _ hT
      have sH2 := sm1.trans s2
      rw [filter_at ok.nd hr0 er0] at e
      refine ⟨fun σ' H' => σ' = [some (.ref p), some (.ref q), some (.ref p1), some (.ref W), none, some (nV i), none] ∧ Same H H' ∧ ∃ rl2, H rl2 = none ∧ BkAt K H' p1 tl1 rl2 { b with rows := b.rows.take i ++ b.rows.drop (i + 1) }, ?_, ?_⟩
      · refine ⟨_, rfl, q, _, (0 : Int), .str "drop", rfl, rfl, hS2, rfl, rfl, _, rfl, ite2 (fun _ => ?_) (fun h => absurd (decide_eq_true rfl) h)⟩
        refine ⟨_, rfl, p1, _, (2 : Int), .ref rl1, rfl, rfl, SqL.of h12, rfl, _, rfl, (i : Int), rfl, rl1, rs, rfl, SqL.of hR2, fun c1 hc1 => ?_⟩
        have s3 : Same H2 (upd H2 c1 (.lst (cutV rs none (some (i : Int))))) := same_new hc1
        have g3 : (upd H2 c1 (.lst (cutV rs none (some (i : Int))))) c1 = some (.lst (rs.take i)) := by rw [upd_same, cut_to rs (by omega)]
        revert s3 g3
        generalize upd H2 c1 (.lst (cutV rs none (some (i : Int)))) = H3
        intro s3 g3
        refine ⟨_, rfl, p1, _, (2 : Int), .ref rl1, rfl, rfl, SqL.of (s3 _ _ h12), rfl, _, rfl, (i : Int), 1, rfl, rfl, (i : Int) + 1, rfl, rl1, rs, rfl, SqL.of (s3 _ _ hR2), fun c2 hc2 => ?_⟩
        have s4 : Same H3 (upd H3 c2 (.lst (cutV rs (some ((i : Int) + 1)) none))) := same_new hc2
        have g4 : (upd H3 c2 (.lst (cutV rs (some ((i : Int) + 1)) none))) c2 = some (.lst (rs.drop (i + 1))) := by
          rw [upd_same]
          exact congrArg (fun z => some (HO.lst z)) (cut_from rs (i := i + 1) (by omega))
        revert s4 g4
        generalize upd H3 c2 (.lst (cutV rs (some ((i : Int) + 1)) none)) = H4
        intro s4 g4
        refine ⟨c1, c2, _, _, rfl, rfl, s4 _ _ g3, g4, lt_line (by rw [List.length_take, List.length_drop]; omega), fun c3 hc3 => ?_⟩
        have s5 : Same H4 (upd H4 c3 (.lst (rs.take i ++ rs.drop (i + 1)))) := same_new hc3
        have g5 : (upd H4 c3 (.lst (rs.take i ++ rs.drop (i + 1)))) c3 = some (.lst (rs.take i ++ rs.drop (i + 1))) := upd_same
        have sH4 := (sH2.trans s3).trans s4
        have hc30 : H c3 = none := sH4.free hc3
        have h14 : H4 p1 = _ := s4 _ _ (s3 _ _ h12)
        have n4 : p1 ≠ c3 := fun z => by rw [z, hc3] at h14; cases h14
        have hT4 := s4 _ _ (s3 _ _ hT2)
        have n5 : tl1 ≠ c3 := fun z => by rw [z, hc3] at hT4; cases hT4
        have s25 := ((s2.trans s3).trans s4).trans s5
        have sH5 := sH4.trans s5
        revert s5 g5 s25 sH5
        generalize upd H4 c3 (.lst (rs.take i ++ rs.drop (i + 1))) = H5
        intro s5 g5 s25 sH5
        have h15 := s5 _ _ h14
        refine ⟨_, rfl, p1, _, (2 : Int), 2, rfl, rfl, h15, rfl, rfl, sput hp1 sH5, c3, hc30, ?_⟩
        have im : Imm H1 (upd H5 p1 (.lst [.ref tl1, nV b.many, .ref c3, nV b.ahead])) := (Same.imm s25).trans (imm_upd h15 trivial)
        exact ⟨upd_same, ⟨ys, by rw [upd_ne n1.symm]; exact s5 _ _ hT4, Paired.mapP pT fun _ _ z => z.imm im⟩, ⟨_, by rw [upd_ne n4.symm]; exact g5, Paired.mapP (paired_append (paired_take i pR) (paired_drop (i + 1) pR)) fun _ _ z => z.imm im⟩, n1, n4, n5⟩
      rintro σ' H9 ⟨rfl, sm9, rl2, hrl2, hB9⟩
      refine ⟨_, rfl, by show 2 ≤ sizeLine; decide, fun t ht => ?_⟩
      have sA := same_new (H := H9) (o := .tup [.ref p1, .non]) ht
      exact k1 _ e t p1 tl1 rl2 _ (sm9.trans sA) hp1 htl1 hrl2 upd_same (hB9.grow sA)
    | times n t =>
      obtain ⟨q, rfl, hS⟩ := hg1
      have e := done_times b n t
      refine ⟨_, rfl, q, _, (0 : Int), .str "times", rfl, rfl, hS, rfl, rfl, _, rfl, ite2 (fun h => absurd h (str_ne (by decide))) (fun _ => ?_)⟩
      refine ⟨_, rfl, q, _, (0 : Int), .str "times", rfl, rfl, hS, rfl, rfl, _, rfl, ite2 (fun h => absurd h (str_ne (by decide))) (fun _ => ?_)⟩
      refine ⟨_, rfl, q, _, (0 : Int), .str "times", rfl, rfl, hS, rfl, rfl, _, rfl, ite2 (fun h => absurd h (str_ne (by decide))) (fun _ => ?_)⟩
      obtain ⟨h0, _, ⟨rs0, hR0, pR0⟩, _⟩ := id hB0
      obtain ⟨rl00, ra0⟩ := paired_at pR0
      refine ⟨_, rfl, p, _, (2 : Int), .ref rl, rfl, rfl, SqL.of h0, rfl, rl, rfl, ⟨_, SqL.of hR0⟩, fun W hW => lc_listT (SqL.of hR0) (sel := fun _ => true) (P := fun i y _ => y = nV (b.rows.getD i (0, ⟨0, [], 0⟩)).1) ⟨fun _ _ _ _ _ h => h, fun i H2 _ _ R r => r H2 (Same.refl H2), fun i HA hi _ sm R r => ?_⟩ hW (lt_line (by omega)) (fun H2 ns s2 hns _ pn => ?_)⟩
      · have hy : rs0[i]? = some rs0[i] := List.getElem?_eq_getElem hi
        obtain ⟨r0, hr0, q0, yu, eq0, h30, h40⟩ := ra0 i _ hy
        have er : b.rows.getD i (0, ⟨0, [], 0⟩) = r0 := by rw [List.getD_eq_getElem?_getD, hr0]; rfl
        have ey : rs0.getD i .non = .ref q0 := by rw [List.getD_eq_getElem?_getD, hy]; exact eq0
        exact ⟨_, rfl, q0, _, (0 : Int), nV r0.1, ey, rfl, same_seqT sm h30, rfl, r _ HA (Same.refl HA) (by rw [er])⟩
      rw [filter_yes, rl00] at pn
      have ey : ns = nL (b.rows.map (·.1)) := by
        rw [paired_map_eq pn]
        have z := congrArg (List.map fun r : Nat × Ui => nV r.1) (map_range_get b.rows (0, ⟨0, [], 0⟩))
        rw [List.map_map] at z
        show _ = (b.rows.map (·.1)).map nV
        rw [List.map_map]
        exact z
      rw [ey] at hns
      have hS2 := same_seqT s2 hS
      refine ⟨_, rfl, q, _, (1 : Int), .int n, rfl, rfl, hS2, rfl, _, rfl, W, _, rfl, .inl (SqL.of hns), rfl, flat_nats _, _, rfl, ?_⟩
      show if (!inV (.int n) (nL (b.rows.map (·.1)))) = true then _ else _
      rw [inV_nums, nums_eq]
      have nope : ∀ H3, Same H2 H3 → doneG b (.times n t) = .error "times" → 2 ≤ sizeLine ∧ ∀ t, H3 t = none → Q (.ref t) (upd H3 t (.tup [.non, .str "times"])) := fun H3 s3 e3 => ⟨by decide, fun t ht => k2 _ e3 t _ (((sm1.trans s2).trans s3).trans (same_new ht)) upd_same⟩
      refine ite2 (fun h => ?_) (fun h => ?_)
      · rw [Bool.not_eq_true', decide_eq_false_iff_not] at h
        rw [if_neg (fun z => h z.1)] at e
        exact ⟨_, rfl, q, _, (0 : Int), .str "times", rfl, rfl, hS2, rfl, nope _ (Same.refl _) e⟩
      rw [Bool.not_eq_true', Bool.not_eq_false, decide_eq_true_eq] at h
      refine ⟨_, rfl, q, _, (0 : Int), .str "times", rfl, rfl, hS2, rfl, rfl, _, rfl, ite2 (fun _ => ?_) (fun h => absurd (decide_eq_true rfl) h)⟩
      refine ⟨_, rfl, q, _, (2 : Int), .int t, rfl, rfl, hS2, rfl, t, 1, rfl, rfl, _, rfl, ite2 (fun ht => ?_) (fun ht => ?_)⟩
      · have := of_decide_eq_true ht
        rw [if_neg (fun z => by omega)] at e
        exact ⟨_, rfl, q, _, (0 : Int), .str "times", rfl, rfl, hS2, rfl, nope _ (Same.refl _) e⟩
      have ht1 : 1 ≤ t := by
        have : ¬ t < 1 := fun z => ht (decide_eq_true z)
        omega
      rw [if_pos ⟨h, ht1, Int.le_trans (show t ≤ 5 from hd) (by decide)⟩] at e
      obtain ⟨i, hi, ⟨r0, hr0, er0⟩, hbe⟩ := idx_mem h
      have gi : (nL (b.rows.map (·.1)))[i]? = some (nV r0.1) := by
        rw [List.getElem?_map, List.getElem?_map, hr0]
        rfl
      refine ⟨_, rfl, .inl ⟨rfl, _, SqL.of hns⟩, _, rfl, q, _, (1 : Int), .int n, rfl, rfl, hS2, rfl, W, _, .int n, i, nV r0.1, rfl, rfl, SqL.of hns, rfl, flat_nats _, gi, by rw [eqV_nI]; exact decide_eq_true er0, fun m z' hm hz => ?_, ?_⟩
      · rw [List.getElem?_map, List.getElem?_map] at hz
        cases hrm : b.rows[m]? with
        | none => rw [hrm] at hz; cases hz
        | some rm =>
          rw [hrm] at hz
          cases hz
          rw [eqV_nI]
          exact decide_eq_false (hbe m hm rm hrm)
      have h12 := s2 _ _ h1
      have hR2 := s2 _ _ hR
      have hT2 := s2 _ _ hT
      have sH2 := sm1.trans s2
      rw [map_at ok.nd hr0 er0] at e
      refine ⟨fun σ' H' => (∃ c6 : Option V, σ' = [some (.ref p), some (.ref q), some (.ref p1), some (.ref W), none, some (nV i), c6]) ∧ Same H H' ∧ BkAt K H' p1 tl1 rl1 { b with rows := b.rows.set i (r0.1, setT t r0.2) }, ?_, ?_⟩
      · refine ⟨_, rfl, q, _, (0 : Int), .str "times", rfl, rfl, hS2, rfl, rfl, _, rfl, ite2 (fun h => absurd h (str_ne (by decide))) (fun _ => ?_)⟩
        have hir : i < rs.length := by omega
        obtain ⟨r1, hr1, q1, yu, eq1, h31, q2, nr, eu, h41, h42⟩ := ra i _ (List.getElem?_eq_getElem hir)
        rw [hr0] at hr1
        cases hr1
        subst eu
        have h31' := same_seqT s2 h31
        have h41' := same_seqT s2 h41
        refine ⟨_, rfl, p1, _, (2 : Int), .ref rl1, rfl, rfl, SqL.of h12, rfl, _, rfl, rl1, rs, (i : Int), _, rfl, rfl, SqL.of hR2, atI_nat (List.getElem?_eq_getElem hir), q1, _, (1 : Int), .ref q2, eq1, rfl, h31', rfl, ?_⟩
        refine ⟨_, rfl, q, _, (1 : Int), .int n, rfl, rfl, hS2, rfl, _, rfl, q2, _, (0 : Int), .int r0.2.at_, rfl, rfl, h41', rfl, _, rfl, q2, _, (1 : Int), .ref nr, rfl, rfl, h41', rfl, _, rfl, q, _, (2 : Int), .int t, rfl, rfl, hS2, rfl, by show 3 ≤ sizeLine; decide, fun u9 hu9 => ⟨by show 2 ≤ sizeLine; decide, fun r9 hr9 => ?_⟩⟩
        have s4 : Same H2 (upd H2 u9 (.tup [.int r0.2.at_, .ref nr, .int t])) := same_new hu9
        have s5 : Same (upd H2 u9 (.tup [.int r0.2.at_, .ref nr, .int t])) (upd (upd H2 u9 (.tup [.int r0.2.at_, .ref nr, .int t])) r9 (.tup [.int n, .ref u9])) := same_new hr9
        have hrow : RowR K (upd (upd H2 u9 (.tup [.int r0.2.at_, .ref nr, .int t])) r9 (.tup [.int n, .ref u9])) (.ref r9) (r0.1, setT t r0.2) := ⟨r9, .ref u9, rfl, .inl (.inl (by rw [upd_same, ← er0])), u9, nr, rfl, .inl (.inl (s5 _ _ upd_same)), same_seqT ((s2.trans s4).trans s5) h42⟩
        have s25 := (s2.trans s4).trans s5
        have sH5 := (sH2.trans s4).trans s5
        have h15 := s25 _ _ h1
        have hR5 := s25 _ _ hR
        have hT5 := s25 _ _ hT
        revert hrow s25 sH5 h15 hR5 hT5
        clear s4 s5
        generalize upd (upd H2 u9 (.tup [.int r0.2.at_, .ref nr, .int t])) r9 (.tup [.int n, .ref u9]) = H5
        intro hrow s25 sH5 h15 hR5 hT5
        refine ⟨_, rfl, p1, _, (2 : Int), .ref rl1, rfl, rfl, SqL.of h15, rfl, _, rfl, rl1, rs, (i : Int), i, rfl, rfl, hR5, ixN_lt hir, ⟨_, rfl⟩, sput hrl1 sH5, ?_⟩
        have im6 : Imm H5 (upd H5 rl1 (.lst (rs.set i (.ref r9)))) := imm_upd hR5 trivial
        have im : Imm H1 (upd H5 rl1 (.lst (rs.set i (.ref r9)))) := (Same.imm s25).trans im6
        exact ⟨by rw [upd_ne n2]; exact h15, ⟨ys, by rw [upd_ne n3]; exact hT5, Paired.mapP pT fun _ _ z => z.imm im⟩, ⟨_, upd_same, paired_set (Paired.mapP pR fun _ _ z => z.imm im) (hrow.imm im6)⟩, n1, n2, n3⟩
      rintro σ' H9 ⟨⟨c6, rfl⟩, sm9, hB9⟩
      refine ⟨_, rfl, by show 2 ≤ sizeLine; decide, fun t0 ht0 => ?_⟩
      have sA := same_new (H := H9) (o := .tup [.ref p1, .non]) ht0
      exact k1 _ e t0 p1 tl1 rl1 _ (sm9.trans sA) hp1 htl1 hrl1 upd_same (hB9.grow sA)
end
end L2.KK
namespace L2.KK
open PySem PySem.Spec PyProof.Rows C8

theorem al {H : Hp} {a : Addr} {o : HO} (h : H a = none) : ∃ H1, upd H a o = H1 ∧ Same H H1 ∧ H1 a = some o := ⟨_, rfl, same_new h, upd_same⟩
section
variable {K : PySem.W.Frag} {H : Hp}
theorem pair_depth {w : Str} {xd : PyData} (h : xd.depth ≤ 1) : (PyData.tuple [.str w, xd]).depth ≤ 64 := Nat.le_trans (depth_tup (n := 1) fun y hy => by
  rcases List.mem_cons.mp hy with z | hy
  · rw [z]; show (0 : Nat) ≤ 1; decide
  rcases List.mem_cons.mp hy with z | hy
  · rw [z]; exact h
  · cases hy) (by decide)
theorem pair_pln {w : Str} {xd : PyData} (hw : PyData.strOk w = true) (h : pln xd = true) : pln (.tuple [.str w, xd]) = true := pln_tup fun y hy => by
  rcases List.mem_cons.mp hy with z | hy
  · rw [z]; exact hw
  rcases List.mem_cons.mp hy with z | hy
  · rw [z]; exact h
  · cases hy
/-- the same pair of a word and a scalar is not unequal -/
theorem ned_pair {a b : Addr} {w : Str} {x : V} {xd : PyData} {Q : VK} (ha : SqT K H a [.str w, x]) (hb : SqT K H b [.str w, x]) (hw : PyData.strOk w = true) (d : Dp K H x xd) (p : pln xd = true) (l : xd.depth ≤ 1) (q : Q (.bl false) H) : rNeD K (.ref a) (.ref b) H Q :=
  ned_pln (.tup ha (.cons (.str _) (.cons d .nil))) (.tup hb (.cons (.str _) (.cons d .nil))) (pair_pln hw p) (pair_pln hw p) (pair_depth l) (pair_depth l) fun k hk => by
    rw [hk.mpr rfl]
    exact q
/-- the words that refuse -/
theorem err_word {CT : Addr} {y : V} {b : Bk} {g : Gd} {w : Str} (h : GdAt K CT H y g) (e : doneG b g = .error w) : w = "deed" ∨ w ∈ deedsL := by
  cases g with
  | bad z =>
    have ez : z = w := by
      have e2 : (Except.error z : Except Str Bk) = .error w := e
      cases e2
      rfl
    subst ez
    rcases h with ⟨h1, _⟩ | ⟨h1, _⟩ | ⟨_, _, _, _, _, _, h4⟩ | ⟨_, z, _, _, _, _, h3, _, _, h6⟩
    · exact .inl h1
    · exact .inl h1
    · exact .inl h4
    · rw [h6]; exact .inr h3
  | name => rw [done_name] at e; split at e <;> cases e; exact .inr (by decide)
  | add u => rw [done_add] at e; split at e <;> cases e; exact .inr (by decide)
  | drop n => rw [done_drop] at e; split at e <;> cases e; exact .inr (by decide)
  | times n t => rw [done_times] at e; split at e <;> cases e; exact .inr (by decide)
  | table i t => rw [done_table] at e; split at e <;> cases e; exact .inr (by decide)
theorem word_ok {w : Str} (h : w = "deed" ∨ w ∈ deedsL) : PyData.strOk w = true := by
  rcases h with h | h
  · rw [h]; decide +kernel
  · exact (List.all_eq_true.mp (show (deedsL.all PyData.strOk) = true by decide +kernel)) w h
/-- what is told of a done deed, as data -/
theorem told_dp (g : Gd) (b : Bk) : ∃ xd, Dp K H (toldV g b) xd ∧ pln xd = true ∧ xd.depth ≤ 1 := by
  cases g with
  | add u => exact ⟨_, .int _, rfl, depth_int0 _⟩
  | _ => exact ⟨_, .non, rfl, by show (0 : Nat) ≤ 1; decide⟩
theorem ned_done {a b : Addr} {g : Gd} {bk : Bk} {Q : VK} (ha : SqT K H a [.str "done", toldV g bk]) (hb : SqT K H b [.str "done", toldV g bk]) (q : Q (.bl false) H) : rNeD K (.ref a) (.ref b) H Q := by
  obtain ⟨xd, d, p, l⟩ := told_dp (K := K) (H := H) g bk
  exact ned_pair ha hb (by decide +kernel) d p l q
theorem ned_no {a b : Addr} {w : Str} {Q : VK} (ha : SqT K H a [.str "no", .str w]) (hb : SqT K H b [.str "no", .str w]) (h : w = "deed" ∨ w ∈ deedsL) (q : Q (.bl false) H) : rNeD K (.ref a) (.ref b) H Q :=
  ned_pair ha hb (by decide +kernel) (.str w) (word_ok h) (by show (0 : Nat) ≤ 1; decide) q
end
theorem Dr.chg {H H' : Hp} {d c : Addr} (D : Dr H d c) (k : ∀ x o, x = d ∨ x = c → H x = some o → H' x = some o) : Dr H' d c := by
  obtain ⟨ns, i, r, z, h1, h2, h3, h4⟩ := D.ex
  exact ⟨ns, i, r, z, k _ _ (.inl rfl) h1, k _ _ (.inr rfl) h2, h3, h4⟩
theorem lgbk_ne {K : PySem.W.Frag} {CT CL CS CG : Addr} {H : Hp} {a pl ll p tl rl : Addr} {past later : List Bk} {b b' : Bk} (h : LgAt K CT CL CS CG H a pl ll past b later) (g : BkAt K H p tl rl b') : a ≠ p ∧ a ≠ tl ∧ a ≠ rl := by
  obtain ⟨dx, sa, pys, lys, h1, _⟩ := h
  obtain ⟨g1, ⟨ys, g2, _⟩, ⟨rs, g3, _⟩, _⟩ := g
  refine ⟨fun z => ?_, fun z => ?_, fun z => ?_⟩
  · rw [z, g1] at h1; cases h1
  · rw [z, g2] at h1; cases h1
  · rw [z, g3] at h1; cases h1
theorem lgdr_ne {K : PySem.W.Frag} {CT CL CS CG : Addr} {H : Hp} {a pl ll d c : Addr} {past later : List Bk} {b : Bk} (h : LgAt K CT CL CS CG H a pl ll past b later) (D : Dr H d c) : a ≠ d ∧ a ≠ c := by
  obtain ⟨dx, sa, pys, lys, h1, _⟩ := h
  obtain ⟨ns, i, r, z, e1, e2, _⟩ := D.ex
  refine ⟨fun z => ?_, fun z => ?_⟩
  · rw [z, e1] at h1; cases h1
  · rw [z, e2] at h1; cases h1
theorem lg_pl {K : PySem.W.Frag} {CT CL CS CG : Addr} {H : Hp} {a pl ll x : Addr} {past later : List Bk} {b : Bk} (h : LgAt K CT CL CS CG H a pl ll past b later) (hx : H x = none) : pl ≠ x ∧ ll ≠ x := by
  obtain ⟨dx, sa, pys, lys, h1, h2, _, _, h3, _⟩ := h
  exact ⟨ne_of_none h2 hx, ne_of_none h3 hx⟩
theorem done_rows {b b' : Bk} {g : Gd} (h : doneG b g = .ok b') : b'.rows.length ≤ b.rows.length + 1 := by
  cases g with
  | bad w => cases h
  | name => rw [done_name] at h; split at h <;> cases h; exact Nat.le_succ _
  | add u => rw [done_add] at h; split at h <;> cases h; show (b.rows ++ _).length ≤ _; rw [List.length_append]; exact Nat.le_refl _
  | drop n => rw [done_drop] at h; split at h <;> cases h; exact Nat.le_succ_of_le (List.length_filter_le _ _)
  | times n t => rw [done_times] at h; split at h <;> cases h; show (b.rows.map _).length ≤ _; rw [List.length_map]; exact Nat.le_succ _
  | table i t => rw [done_table] at h; split at h <;> cases h; exact Nat.le_succ _
theorem b0_ok {tbs : List Tb} (h1 : 1 ≤ tbs.length) (h4 : tbs.length ≤ 16) (ok : ∀ t ∈ tbs, TbOk t) : BkOk (b0 tbs) := ⟨ok, h1, h4, Nat.zero_le _, Nat.zero_le _, fun r hr => (nomatch hr), fun r hr => (nomatch hr), List.nodup_nil⟩
end L2.KK
namespace L2.KK
open PySem PySem.Spec PyProof.Rows C8
theorem sc_Ledger_redo : FnScope ["self"] ["self"] (defScope s_Ledger_redo) := ⟨rfl, rfl, rfl, by decide +kernel, rfl, by decide +kernel, by decide +kernel⟩
theorem sc_Ledger_twin : FnScope ["self", "other"] ["self"] (defScope s_Ledger_twin) := ⟨rfl, rfl, rfl, by decide +kernel, rfl, by decide +kernel, by decide +kernel⟩
section
variable {P : Program} {w : World} {K : PySem.W.Frag} {mg : Str → Option Value} {base : Heap}
def spRedo (K : PySem.W.Frag) (CT CL CS CG : Addr) : Sp := fun vs H Q _ => ∃ (a pl ll : Addr) (past : List Bk) (b : Bk) (later : List Bk), vs = [.ref a] ∧ LgAt K CT CL CS CG H a pl ll past b later ∧ past.length ≤ 100000 ∧ (∀ p ∈ later, p.tbs.length = b.tbs.length) ∧
  (later = [] → Q (.bl false) H) ∧ ∀ ls p, later = ls ++ [p] → ∀ H', LgAt K CT CL CS CG H' a pl ll (past ++ [b]) p ls → Imm H H' → (∀ c o, H c = some o → c ≠ a → c ≠ pl → c ≠ ll → H' c = some o) → Q (.bl true) H'
theorem c_Ledger_redo (Z : Ev K mg) (T : Bl mg) (c_Ledger_go : Met P w K mg base 5 Z.Ledger "go" (spGo K Z.Table Z.Lot Z.State Z.Ledger) []) : Met P w K mg base 6 Z.Ledger "redo" (spRedo K Z.Table Z.Lot Z.State Z.Ledger) [] := by
  refine metOf Z.c_Ledger.c Z.m_Ledger_redo sc_Ledger_redo (fun _ _ _ _ _ _ us hl => match us, hl with | [_], _ => rfl) (fun vs H Q E h => ?_) (fun f cdv A outer s H vs Q E hr h => ?_)
  · obtain ⟨a, pl, ll, past, b, later, rfl, _⟩ := h
    rfl
  · obtain ⟨a, pl, ll, past, b, later, rfl, ⟨dx, sa, pys, lys, ha, hpl, pP, hS, hll, pL, npl⟩, hlen, same, k0, k⟩ := h
    obtain ⟨pyl, _⟩ := paired_at pP
    have npa : pl ≠ a := fun z => by rw [z, ha] at hpl; cases hpl
    have nla : ll ≠ a := fun z => by rw [z, ha] at hll; cases hll
    refine ⟨_, (pss_cons (ps_if (pt_not (ptTru K (peFld K (pv 0))))
        (pss_one (ps_ret pe_bl))
        pss_nil)
      (pss_cons (ps_expr (pe_bm PySem.F.plainAttrs_list PySem.F.slot_list_append PySem.F.type_list_append mt_append (peFld K (pv 0)) (pa_cons (peFld K (pv 0)) pa_nil)))
      (pss_cons (ps_expr (pe_mt c_Ledger_go hr (by decide) (pv 0) (pa_cons (pe_bm0 PySem.F.plainAttrs_list PySem.F.slot_list_pop PySem.F.type_list_pop mt_pop (peFld K (pv 0))) pa_nil)))
      (pss_one (ps_ret pe_bl))))), ?_⟩
    rcases List.eq_nil_or_concat later with rfl | ⟨ps, p, rfl⟩
    · cases pL
      exact ⟨_, rfl, a, Z.Ledger, dx, _, _, rfl, ha, Z.c_Ledger.c, Z.n_Ledger_later, rfl, false, .inl ⟨[], SqL.of hll, rfl⟩, iteT (k0 rfl)⟩
    · rw [List.concat_eq_append] at pL same k
      obtain ⟨zs, zl, rfl, pz, sp, rfl, hp⟩ := pr_last pL
      refine ⟨_, rfl, a, Z.Ledger, dx, _, _, rfl, ha, Z.c_Ledger.c, Z.n_Ledger_later, rfl, true, .inl ⟨_, SqL.of hll, by cases zs <;> rfl⟩, iteF ?_⟩
      refine ⟨_, rfl, a, Z.Ledger, dx, _, _, rfl, ha, Z.c_Ledger.c, Z.n_Ledger_past, rfl, .inl ⟨rfl, _, SqL.of hpl⟩, _, rfl, a, Z.Ledger, dx, _, _, rfl, ha, Z.c_Ledger.c, Z.n_Ledger_state, rfl, pl, pys, .ref sa, rfl, rfl, hpl, Nat.lt_of_le_of_lt (show pys.length ≤ 100000 by omega) (by decide), ?_⟩
      have k1 : Kp pl H (upd H pl (.lst (pys ++ [.ref sa]))) := kp_upd
      have l1 : (upd H pl (.lst (pys ++ [.ref sa]))) pl = some (.lst (pys ++ [.ref sa])) := upd_same
      revert k1 l1
      generalize upd H pl (.lst (pys ++ [.ref sa])) = H1
      intro k1 l1
      have ha1 := k1 _ _ ha npa.symm
      have hp1 := k1 _ _ hll npl.symm
      have im1 : Imm H H1 := kp_imm k1 hpl trivial
      refine ⟨_, rfl, a, dx, _, rfl, ha1, rfl, _, rfl, a, Z.Ledger, dx, _, _, rfl, ha1, Z.c_Ledger.c, Z.n_Ledger_later, rfl, .inl ⟨rfl, _, SqL.of hp1⟩, ll, _, .ref sp, rfl, rfl, hp1, by rw [List.length_append]; show (zs ++ [V.ref sp])[zs.length + 1 - 1]? = _; rw [Nat.add_sub_cancel, List.getElem?_append_right (Nat.le_refl _), Nat.sub_self]; rfl, ?_⟩
      rw [List.dropLast_concat]
      have k2 : Kp ll H1 (upd H1 ll (.lst zs)) := kp_upd
      have p2 : (upd H1 ll (.lst zs)) ll = some (.lst zs) := upd_same
      revert k2 p2
      generalize upd H1 ll (.lst zs) = H2
      intro k2 p2
      have ha2 := k2 _ _ ha1 nla.symm
      have im2 : Imm H H2 := im1.trans (kp_imm k2 hp1 trivial)
      refine ⟨a, sp, dx, pl, sa, ll, b, p, rfl, ha2, hS.imm im2, hp.imm im2, same p (List.mem_append_right _ List.mem_cons_self), ?_⟩
      have k3 : Kp a H2 (upd H2 a (.ins Z.Ledger dx (lgF pl sp ll))) := kp_upd
      have ha3 : (upd H2 a (.ins Z.Ledger dx (lgF pl sp ll))) a = some (.ins Z.Ledger dx (lgF pl sp ll)) := upd_same
      revert k3 ha3
      generalize upd H2 a (.ins Z.Ledger dx (lgF pl sp ll)) = H3
      intro k3 ha3
      have im3 : Imm H H3 := im2.trans (kp_imm k3 ha2 rfl)
      exact k ps p rfl H3 ⟨dx, sp, pys ++ [.ref sa], zs, ha3, k3 _ _ (k2 _ _ l1 npl) npa, paired_snoc (Paired.mapP pP fun _ _ q => q.imm im3) ⟨sa, rfl, hS.imm im3⟩, hp.imm im3, k3 _ _ p2 nla, Paired.mapP pz fun _ _ q => q.imm im3, npl⟩ im3 fun c o e n1 n2 n3 => k3 _ _ (k2 _ _ (k1 _ _ e n2) n3) n1
def spTwin (K : PySem.W.Frag) (CT CL CS CG : Addr) : Sp := fun vs H Q _ => ∃ (a pl ll : Addr) (past : List Bk) (b : Bk) (later : List Bk), vs = [.ref a] ∧ LgAt K CT CL CS CG H a pl ll past b later ∧ ∀ a' pl' ll' H', H a' = none → H pl' = none → H ll' = none → Same H H' → LgAt K CT CL CS CG H' a' pl' ll' past b later → Q (.ref a') H'
theorem c_Ledger_twin (Z : Ev K mg) (T : Bl mg) (c_Ledger : MakY P w K mg base 3 "Ledger" Z.Ledger (spLgI K Z.Table Z.Lot Z.State Z.Ledger Z.BadDeed)) : Met P w K mg base 5 Z.Ledger "twin" (spTwin K Z.Table Z.Lot Z.State Z.Ledger) [] := by
  replace c_Ledger := c_Ledger.calm
  refine metOf Z.c_Ledger.c Z.m_Ledger_twin sc_Ledger_twin (fun _ _ _ _ _ _ us hl => match us, hl with | [_], _ => rfl) (fun vs H Q E h => ?_) (fun f cdv A outer s H vs Q E hr h => ?_)
  · obtain ⟨a, pl, ll, past, b, later, rfl, _⟩ := h
    rfl
  · obtain ⟨a, pl, ll, past, b, later, rfl, ⟨dx, sa, pys, lys, ha, hpl, pP, hS, hll, pL, npl⟩, k⟩ := h
    obtain ⟨d1, l1, rp1, ys1, h1, hL1, _⟩ := id hS
    have nd := sc_Ledger_twin.nd
    refine ⟨_, (pss_cons (ps_set (i := 1) nd rfl (by first | exact Or.inl rfl | exact Or.inr rfl) (pe_mk c_Ledger hr (by decide) (by rfl) (pa_cons (peFld K (peFld K (pv 0))) pa_nil)))
      (pss_cons (ps_fld (pv 1) (pe_callTy (crList K) (by rfl) T.b_list (by decide +kernel) (pa_cons (peFld K (pv 0)) pa_nil)) (by rfl))
      (pss_cons (ps_fld (pv 1) (peFld K (pv 0)) (by rfl))
      (pss_cons (ps_fld (pv 1) (pe_callTy (crList K) (by rfl) T.b_list (by decide +kernel) (pa_cons (peFld K (pv 0)) pa_nil)) (by rfl))
      (pss_one (ps_ret (pv 1))))))), ?_⟩
    refine ⟨_, rfl, a, Z.Ledger, dx, _, _, rfl, ha, Z.c_Ledger.c, Z.n_Ledger_state, rfl, sa, Z.State, d1, _, _, rfl, h1, Z.c_State.c, Z.n_State_lot, rfl, ?_⟩
    intro x dy hx hdy ne
    have sA : Same H (upd H dy (.own x)) := same_new hdy
    have hx5 : (upd H dy (.own x)) x = none := by rw [upd_ne ne.symm]; exact hx
    have sB : Same (upd H dy (.own x)) (upd (upd H dy (.own x)) x (.ins Z.Ledger dy [])) := same_new hx5
    refine ⟨x, dy, .ref l1, rfl, upd_same, .inl ⟨l1, b.tbs, rfl, hL1.grow (sA.trans sB), fun pl2 ll2 H2 hpl2 hll2 kp2 hG => ⟨rfl, ?_⟩⟩⟩
    have S2 : Same H H2 := fun z o hz => kp2 _ _ (sB _ _ (sA _ _ hz)) (ne_of_none (sA _ _ hz) hx5)
    obtain ⟨dz, sz, _, _, hz, _⟩ := hG
    clear kp2 sB hx5 sA
    -- other.past
    have ha2 := S2 _ _ ha
    have hpl2' := S2 _ _ hpl
    have hll2' := S2 _ _ hll
    refine ⟨_, rfl, a, Z.Ledger, dx, _, _, rfl, ha2, Z.c_Ledger.c, Z.n_Ledger_past, rfl, pl, pys, rfl, .inl (SqL.of hpl2'), fun p3 hp3 => ?_⟩
    obtain ⟨H3, e3, s3, g3⟩ := al (o := .lst pys) hp3
    rw [e3]
    clear e3
    have hz3 := s3 _ _ hz
    refine ⟨_, rfl, x, Z.Ledger, dz, _, rfl, hz3, Z.c_Ledger.c, Z.n_Ledger_past, by show 7 < 1000; decide, ?_⟩
    have n3 : p3 ≠ x := fun z => by rw [z, hz] at hp3; cases hp3
    have p30 : H p3 = none := S2.free hp3
    obtain ⟨H4, e4, k4, g4⟩ : ∃ H4, upd H3 x (.ins Z.Ledger dz (putF "past" (.ref p3) (lgF pl2 sz ll2))) = H4 ∧ Kp x H3 H4 ∧ H4 x = some (.ins Z.Ledger dz (lgF p3 sz ll2)) := ⟨_, rfl, kp_upd, upd_same⟩
    rw [e4]
    clear e4
    have S4 : Same H H4 := fun z o hz => k4 _ _ (s3 _ _ (S2 _ _ hz)) (ne_of_none hz hx)
    have ha4 := S4 _ _ ha
    have hp4 := k4 _ _ g3 n3
    -- other.state
    refine ⟨_, rfl, a, Z.Ledger, dx, _, _, rfl, ha4, Z.c_Ledger.c, Z.n_Ledger_state, rfl, _, rfl, x, Z.Ledger, dz, _, rfl, g4, Z.c_Ledger.c, Z.n_Ledger_state, by show 7 < 1000; decide, ?_⟩
    obtain ⟨H5, e5, k5, g5⟩ : ∃ H5, upd H4 x (.ins Z.Ledger dz (putF "state" (.ref sa) (lgF p3 sz ll2))) = H5 ∧ Kp x H4 H5 ∧ H5 x = some (.ins Z.Ledger dz (lgF p3 sa ll2)) := ⟨_, rfl, kp_upd, upd_same⟩
    rw [e5]
    clear e5
    have S5 : Same H H5 := fun z o hz => k5 _ _ (S4 _ _ hz) (ne_of_none hz hx)
    have ha5 := S5 _ _ ha
    have hll5 := S5 _ _ hll
    have hp5 := k5 _ _ hp4 n3
    -- other.later
    refine ⟨_, rfl, a, Z.Ledger, dx, _, _, rfl, ha5, Z.c_Ledger.c, Z.n_Ledger_later, rfl, ll, lys, rfl, .inl (SqL.of hll5), fun l6 hl6 => ?_⟩
    obtain ⟨H6, e6, s6, g6⟩ := al (o := .lst lys) hl6
    rw [e6]
    clear e6
    have g56 := s6 _ _ g5
    refine ⟨_, rfl, x, Z.Ledger, dz, _, rfl, g56, Z.c_Ledger.c, Z.n_Ledger_later, by show 7 < 1000; decide, ?_⟩
    have n6 : l6 ≠ x := fun z => by rw [z, g5] at hl6; cases hl6
    have n36 : p3 ≠ l6 := fun z => by rw [← z, hp5] at hl6; cases hl6
    have l60 : H l6 = none := S5.free hl6
    obtain ⟨H7, e7, k7, g7⟩ : ∃ H7, upd H6 x (.ins Z.Ledger dz (putF "later" (.ref l6) (lgF p3 sa ll2))) = H7 ∧ Kp x H6 H7 ∧ H7 x = some (.ins Z.Ledger dz (lgF p3 sa l6)) := ⟨_, rfl, kp_upd, upd_same⟩
    rw [e7]
    clear e7
    have S7 : Same H H7 := fun z o hz => k7 _ _ (s6 _ _ (S5 _ _ hz)) (ne_of_none hz hx)
    have im := Same.imm S7
    exact ⟨_, rfl, k x p3 l6 H7 hx p30 l60 S7 ⟨dz, sa, pys, lys, g7, k7 _ _ (s6 _ _ hp5) n3, Paired.mapP pP fun _ _ q => q.imm im, hS.imm im, k7 _ _ g6 n6, Paired.mapP pL fun _ _ q => q.imm im, n36⟩⟩
end
end L2.KK
namespace L2.KK
open PySem PySem.Spec PyProof.Rows C8
theorem sc_law_step : FnScope ["d", "one", "ledger", "past", "later", "way", "deed", "new", "told"] ["d", "one"] (defScope s_law_step) := ⟨rfl, rfl, rfl, by decide +kernel, rfl, by decide +kernel, by decide +kernel⟩
/-! ### a ledger beside the law's own history of it -/
/-- a book whose objects F holds -/
def BkF (K : PySem.W.Frag) (F : Addr → Prop) (H : Hp) (y : V) (b : Bk) : Prop := ∃ p tl rl, y = .ref p ∧ BkAt K H p tl rl b ∧ F p ∧ F tl ∧ F rl
theorem BkF.chg {K : PySem.W.Frag} {F F' : Addr → Prop} {H H' : Hp} {y : V} {b : Bk} (h : BkF K F H y b) (im : Imm H H') (k : ∀ x u, F x → H x = some u → H' x = some u) (ff : ∀ x, F x → F' x) : BkF K F' H' y b := by
  obtain ⟨p, tl, rl, e, hB, f1, f2, f3⟩ := h
  exact ⟨p, tl, rl, e, hB.chg im fun x o hx q => k x o (by rcases hx with z | z | z <;> rw [z] <;> assumption) q, ff _ f1, ff _ f2, ff _ f3⟩
structure Good (N i : Nat) (q : Bk) : Prop where
  ok : BkOk q
  tb : q.tbs.length = N
  rn : q.rows.length ≤ i
theorem Good.up {N i : Nat} {q : Bk} (g : Good N i q) : Good N (i + 1) q := ⟨g.ok, g.tb, Nat.le_succ_of_le g.rn⟩
/-- the law's list [ledger, past, state, later] -/
structure Hs (K : PySem.W.Frag) (F : Addr → Prop) (o pa la a : Addr) (past : List Bk) (cur : Bk) (later : List Bk) (H : Hp) : Prop where
  ex : ∃ y ys zs, H o = some (.lst [.ref a, .ref pa, y, .ref la]) ∧ H pa = some (.lst ys) ∧ H la = some (.lst zs) ∧ BkF K F H y cur ∧ Paired (BkF K F H) ys past ∧ Paired (BkF K F H) zs later
structure Sd (K : PySem.W.Frag) (CT CL CS CG : Addr) (d c : Addr) (F : Addr → Prop) (o pa la a pl ll : Addr) (past : List Bk) (cur : Bk) (later : List Bk) (N i : Nat) (H : Hp) : Prop where
  dr : Dr H d c
  lg : LgAt K CT CL CS CG H a pl ll past cur later
  hs : Hs K F o pa la a past cur later H
  nf : ∀ x, x = d ∨ x = c ∨ x = o ∨ x = pa ∨ x = la ∨ x = a ∨ x = pl ∨ x = ll → ¬ F x
  fx : ∀ x, F x → H x ≠ none
  nd : [d, c, o, pa, la, pl, ll].Nodup
  g : Good N i cur
  gp : ∀ q ∈ past, Good N i q
  gl : ∀ q ∈ later, Good N i q
  pn : past.length + later.length ≤ i
theorem upd3 {H : Hp} {x y z : Addr} {X X0 Y Y0 W W0 : List V} (hx : H x = some (.lst X0)) (hy : H y = some (.lst Y0)) (hz : H z = some (.lst W0)) (xy : x ≠ y) (xz : x ≠ z) (yz : y ≠ z) :
    ∃ H', upd (upd (upd H x (.lst X)) y (.lst Y)) z (.lst W) = H' ∧ H' x = some (.lst X) ∧ H' y = some (.lst Y) ∧ H' z = some (.lst W) ∧ Imm H H' ∧ ∀ c u, c ≠ x → c ≠ y → c ≠ z → H c = some u → H' c = some u := by
  refine ⟨_, rfl, by rw [upd_ne xz, upd_ne xy, upd_same], by rw [upd_ne yz, upd_same], upd_same, fun c u h n => ?_, fun c u n1 n2 n3 h => by rw [upd_ne n3, upd_ne n2, upd_ne n1]; exact h⟩
  have n1 : c ≠ x := fun e => by rw [e, hx] at h; cases h; exact n trivial
  have n2 : c ≠ y := fun e => by rw [e, hy] at h; cases h; exact n trivial
  have n3 : c ≠ z := fun e => by rw [e, hz] at h; cases h; exact n trivial
  rw [upd_ne n3, upd_ne n2, upd_ne n1]
  exact h
section
variable {K : PySem.W.Frag} {CT CL CS CG : Addr} {H H' : Hp} {d c : Addr} {F F' : Addr → Prop} {o pa la a pl ll : Addr} {past later : List Bk} {cur : Bk} {N i : Nat}
/-- all that a side is made of, standing -/
theorem Sd.there (S : Sd K CT CL CS CG d c F o pa la a pl ll past cur later N i H) {x : Addr} (hx : x = d ∨ x = c ∨ x = o ∨ x = pa ∨ x = la ∨ x = a ∨ x = pl ∨ x = ll) : H x ≠ none := by
  obtain ⟨dx, sa, pys, lys, h1, h2, _, _, h3, _⟩ := S.lg
  obtain ⟨y, ys, zs, g1, g2, g3, _⟩ := S.hs.ex
  obtain ⟨_, _, _, _, e1, e2, _⟩ := S.dr.ex
  rcases hx with z | z | z | z | z | z | z | z <;> rw [z]
  · rw [e1]; exact fun z => nomatch z
  · rw [e2]; exact fun z => nomatch z
  · rw [g1]; exact fun z => nomatch z
  · rw [g2]; exact fun z => nomatch z
  · rw [g3]; exact fun z => nomatch z
  · rw [h1]; exact fun z => nomatch z
  · rw [h2]; exact fun z => nomatch z
  · rw [h3]; exact fun z => nomatch z
theorem Hs.chg (S : Hs K F o pa la a past cur later H) (im : Imm H H') (k : ∀ x u, (x = o ∨ x = pa ∨ x = la ∨ F x) → H x = some u → H' x = some u) (ff : ∀ x, F x → F' x) : Hs K F' o pa la a past cur later H' := by
  obtain ⟨y, ys, zs, g1, g2, g3, g4, g5, g6⟩ := S.ex
  have kf : ∀ x u, F x → H x = some u → H' x = some u := fun x u f => k x u (.inr (.inr (.inr f)))
  exact ⟨y, ys, zs, k _ _ (.inl rfl) g1, k _ _ (.inr (.inl rfl)) g2, k _ _ (.inr (.inr (.inl rfl))) g3, g4.chg im kf ff, Paired.mapP g5 fun _ _ q => q.chg im kf ff, Paired.mapP g6 fun _ _ q => q.chg im kf ff⟩
theorem Sd.chg (S : Sd K CT CL CS CG d c F o pa la a pl ll past cur later N i H) (im : Imm H H') (D : Dr H' d c) (k : ∀ x u, (x = o ∨ x = pa ∨ x = la ∨ x = a ∨ x = pl ∨ x = ll ∨ F x) → H x = some u → H' x = some u) (ff : ∀ x, F x → F' x) (fn : ∀ x, F' x → F x ∨ H x = none) (fx : ∀ x, F' x → H' x ≠ none) : Sd K CT CL CS CG d c F' o pa la a pl ll past cur later N i H' :=
  ⟨D, S.lg.chg im fun x u hx q => k x u (.inr (.inr (.inr (by rcases hx with z | z | z <;> first | exact .inl z | exact .inr (.inl z) | exact .inr (.inr (.inl z)))))) q,
   S.hs.chg im (fun x u hx q => k x u (by rcases hx with z | z | z | z <;> first | exact .inl z | exact .inr (.inl z) | exact .inr (.inr (.inl z)) | exact .inr (.inr (.inr (.inr (.inr (.inr z)))))) q) ff,
   fun x hx f => by
    rcases fn x f with z | z
    · exact S.nf x hx z
    · exact S.there hx z, fx, S.nd, S.g, S.gp, S.gl, S.pn⟩
theorem Sd.grow (S : Sd K CT CL CS CG d c F o pa la a pl ll past cur later N i H) (e : Same H H') : Sd K CT CL CS CG d c F o pa la a pl ll past cur later N i H' :=
  S.chg (Same.imm e) (S.dr.keep e) (fun x u _ q => e _ _ q) (fun _ f => f) (fun _ f => .inl f) fun x f => by
    obtain ⟨u, hu⟩ := Option.ne_none_iff_exists'.mp (S.fx x f)
    rw [e _ _ hu]
    exact fun z => nomatch z
theorem Sd.kpd (S : Sd K CT CL CS CG d c F o pa la a pl ll past cur later N i H) (e : Kp d H H') (D : Dr H' d c) : Sd K CT CL CS CG d c F o pa la a pl ll past cur later N i H' := by
  have nd := S.nd
  simp only [List.nodup_cons, List.mem_cons, not_or, List.not_mem_nil, not_false_eq_true, List.nodup_nil, and_true] at nd
  obtain ⟨⟨_, h2, h3, h4, h5, h6⟩, _⟩ := nd
  refine S.chg (Kp.imm e S.dr) D (fun x u hx q => e x u q ?_) (fun _ f => f) (fun _ f => .inl f) fun x f => by
    obtain ⟨u, hu⟩ := Option.ne_none_iff_exists'.mp (S.fx x f)
    rw [e _ _ hu fun z => S.nf x (.inl z) f]
    exact fun z => nomatch z
  rcases hx with z | z | z | z | z | z | z
  · rw [z]; exact Ne.symm h2
  · rw [z]; exact Ne.symm h3
  · rw [z]; exact Ne.symm h4
  · rw [z]; exact (lgdr_ne S.lg S.dr).1
  · rw [z]; exact Ne.symm h5
  · rw [z]; exact Ne.symm h6
  · exact fun w => S.nf x (.inl w) z
theorem Sd.up (S : Sd K CT CL CS CG d c F o pa la a pl ll past cur later N i H) : Sd K CT CL CS CG d c F o pa la a pl ll past cur later N (i + 1) H :=
  ⟨S.dr, S.lg, S.hs, S.nf, S.fx, S.nd, S.g.up, fun q h => (S.gp q h).up, fun q h => (S.gl q h).up, Nat.le_succ_of_le S.pn⟩
/-- what a step tells of the heaps ahead of and behind it -/
structure Stp (K : PySem.W.Frag) (CT CL CS CG : Addr) (d c : Addr) (F : Addr → Prop) (o pa la a pl ll : Addr) (N i : Nat) (H : Hp) (F' : Addr → Prop) (la' ll' : Addr) (past' : List Bk) (cur' : Bk) (later' : List Bk) (H' : Hp) : Prop where
  sd : Sd K CT CL CS CG d c F' o pa la' a pl ll' past' cur' later' N i H'
  ff : ∀ x, F x → F' x
  fn : ∀ x, F' x → F x ∨ H x = none
  hla : la' = la ∨ H la' = none
  hll : ll' = ll ∨ H ll' = none
  im : Imm H H'
  kp : ∀ x u, H x = some u → x ∉ [d, a, pl, ll, o, pa, la] → H' x = some u
theorem Stp.grow {F' : Addr → Prop} {la' ll' : Addr} {past' later' : List Bk} {cur' : Bk} {H1 H2 : Hp} (s : Stp K CT CL CS CG d c F o pa la a pl ll N i H F' la' ll' past' cur' later' H1) (e : Same H1 H2) : Stp K CT CL CS CG d c F o pa la a pl ll N i H F' la' ll' past' cur' later' H2 :=
  ⟨s.sd.grow e, s.ff, s.fn, s.hla, s.hll, s.im.trans (Same.imm e), fun x u h n => e _ _ (s.kp x u h n)⟩
theorem hsa_ne (h : LgAt K CT CL CS CG H a pl ll past cur later) {past2 later2 : List Bk} {cur2 : Bk} (g : Hs K F o pa la a past2 cur2 later2 H) : a ≠ o ∧ a ≠ pa ∧ a ≠ la := by
  obtain ⟨dx, sa, pys, lys, h1, _⟩ := h
  obtain ⟨y, ys, zs, g1, g2, g3, _⟩ := g.ex
  refine ⟨fun z => ?_, fun z => ?_, fun z => ?_⟩
  · rw [z, g1] at h1; cases h1
  · rw [z, g2] at h1; cases h1
  · rw [z, g3] at h1; cases h1
/-- the side's parts apart -/
structure Apart (d c o pa la a pl ll : Addr) : Prop where
  dc : d ≠ c
  do_ : d ≠ o
  dpa : d ≠ pa
  dla : d ≠ la
  da : d ≠ a
  dpl : d ≠ pl
  dll : d ≠ ll
  co : c ≠ o
  cpa : c ≠ pa
  cla : c ≠ la
  ca : c ≠ a
  cpl : c ≠ pl
  cll : c ≠ ll
  opa : o ≠ pa
  ola : o ≠ la
  oa : o ≠ a
  opl : o ≠ pl
  oll : o ≠ ll
  pala : pa ≠ la
  paa : pa ≠ a
  papl : pa ≠ pl
  pall : pa ≠ ll
  laa : la ≠ a
  lapl : la ≠ pl
  lall : la ≠ ll
  apl : a ≠ pl
  all : a ≠ ll
  plll : pl ≠ ll
theorem Sd.apart (S : Sd K CT CL CS CG d c F o pa la a pl ll past cur later N i H) : Apart d c o pa la a pl ll := by
  have nd := S.nd
  simp only [List.nodup_cons, List.mem_cons, not_or, List.not_mem_nil, not_false_eq_true, List.nodup_nil, and_true] at nd
  obtain ⟨⟨h1, h2, h3, h4, h5, h6⟩, ⟨h7, h8, h9, h10, h11⟩, ⟨h12, h13, h14, h15⟩, ⟨h16, h17, h18⟩, ⟨h19, h20⟩, h21⟩ := nd
  obtain ⟨g1, g2, g3⟩ := hsa_ne S.lg S.hs
  obtain ⟨e1, e2⟩ := lgdr_ne S.lg S.dr
  obtain ⟨dx, sa, pys, lys, k1, k2, _, _, k3, _⟩ := id S.lg
  exact ⟨h1, h2, h3, h4, e1.symm, h5, h6, h7, h8, h9, e2.symm, h10, h11, h12, h13, g1.symm, h14, h15, h16, g2.symm, h17, h18, g3.symm, h19, h20, (fun z => by rw [← z, k1] at k2; cases k2), (fun z => by rw [← z, k1] at k3; cases k3), h21⟩
/-- the ledger alone changed -/
theorem Sd.lgOnly (S : Sd K CT CL CS CG d c F o pa la a pl ll past cur later N i H) (im : Imm H H') (kp : ∀ x u, H x = some u → x ≠ a → x ≠ pl → x ≠ ll → H' x = some u) : Hs K F o pa la a past cur later H' ∧ Dr H' d c := by
  have A := S.apart
  refine ⟨S.hs.chg im (fun x u hx q => kp x u q ?_ ?_ ?_) fun _ f => f, S.dr.chg fun x u hx q => kp x u q ?_ ?_ ?_⟩
  · rcases hx with z | z | z | z
    · rw [z]; exact A.oa
    · rw [z]; exact A.paa
    · rw [z]; exact A.laa
    · exact fun w => S.nf x (.inr (.inr (.inr (.inr (.inr (.inl w)))))) z
  · rcases hx with z | z | z | z
    · rw [z]; exact A.opl
    · rw [z]; exact A.papl
    · rw [z]; exact A.lapl
    · exact fun w => S.nf x (.inr (.inr (.inr (.inr (.inr (.inr (.inl w))))))) z
  · rcases hx with z | z | z | z
    · rw [z]; exact A.oll
    · rw [z]; exact A.pall
    · rw [z]; exact A.lall
    · exact fun w => S.nf x (.inr (.inr (.inr (.inr (.inr (.inr (.inr w))))))) z
  · rcases hx with z | z <;> rw [z] <;> first | exact A.da | exact A.ca
  · rcases hx with z | z <;> rw [z] <;> first | exact A.dpl | exact A.cpl
  · rcases hx with z | z <;> rw [z] <;> first | exact A.dll | exact A.cll
/-- the law's list alone changed -/
theorem lgs_keep (A : Apart d c o pa la a pl ll) (h : LgAt K CT CL CS CG H a pl ll past cur later) (im : Imm H H') (kp : ∀ x u, x ≠ la → x ≠ pa → x ≠ o → H x = some u → H' x = some u) : LgAt K CT CL CS CG H' a pl ll past cur later :=
  h.chg im fun x u hx q => kp x u (by rcases hx with z | z | z <;> rw [z] <;> first | exact A.laa.symm | exact A.lapl.symm | exact A.lall.symm) (by rcases hx with z | z | z <;> rw [z] <;> first | exact A.paa.symm | exact A.papl.symm | exact A.pall.symm) (by rcases hx with z | z | z <;> rw [z] <;> first | exact A.oa.symm | exact A.opl.symm | exact A.oll.symm) q
theorem drs_keep (A : Apart d c o pa la a pl ll) (D : Dr H d c) (kp : ∀ x u, x ≠ la → x ≠ pa → x ≠ o → H x = some u → H' x = some u) : Dr H' d c :=
  D.chg fun x u hx q => kp x u (by rcases hx with z | z <;> rw [z] <;> first | exact A.dla | exact A.cla) (by rcases hx with z | z <;> rw [z] <;> first | exact A.dpa | exact A.cpa) (by rcases hx with z | z <;> rw [z] <;> first | exact A.do_ | exact A.co) q
theorem nmem7 {x d a pl ll o pa la : Addr} (h : x ∉ [d, a, pl, ll, o, pa, la]) : x ≠ d ∧ x ≠ a ∧ x ≠ pl ∧ x ≠ ll ∧ x ≠ o ∧ x ≠ pa ∧ x ≠ la := by
  simp only [List.mem_cons, not_or, List.not_mem_nil, not_false_eq_true, and_true] at h
  exact h
/-- undo and redo: the ledger's part, then the law's list -/
theorem mk_stp {H2 H3 H4 : Hp} {past' later' : List Bk} {cur' : Bk} (S2 : Sd K CT CL CS CG d c F o pa la a pl ll past cur later N i H2) (im2 : Imm H H2) (kk2 : ∀ x u, H x = some u → x ≠ d → H2 x = some u)
    (hG3 : LgAt K CT CL CS CG H3 a pl ll past' cur' later') (im3 : Imm H2 H3) (kp3 : ∀ x u, H2 x = some u → x ≠ a → x ≠ pl → x ≠ ll → H3 x = some u) (D3 : Dr H3 d c)
    (im4 : Imm H3 H4) (kp4 : ∀ x u, x ≠ la → x ≠ pa → x ≠ o → H3 x = some u → H4 x = some u) (hs4 : Hs K F o pa la a past' cur' later' H4)
    (g : Good N i cur') (gp : ∀ q ∈ past', Good N i q) (gl : ∀ q ∈ later', Good N i q) (pn : past'.length + later'.length ≤ i) : Stp K CT CL CS CG d c F o pa la a pl ll N (i + 1) H F la ll past' cur' later' H4 := by
  have A := S2.apart
  refine ⟨⟨drs_keep A D3 kp4, lgs_keep A hG3 im4 kp4, hs4, S2.nf, fun x f => ?_, S2.nd, g.up, fun q h => (gp q h).up, fun q h => (gl q h).up, Nat.le_succ_of_le pn⟩, fun _ f => f, fun _ f => .inl f, .inl rfl, .inl rfl, (im2.trans im3).trans im4, fun x u h n => ?_⟩
  · obtain ⟨u, hu⟩ := Option.ne_none_iff_exists'.mp (S2.fx x f)
    have n1 : ∀ y, y = d ∨ y = c ∨ y = o ∨ y = pa ∨ y = la ∨ y = a ∨ y = pl ∨ y = ll → x ≠ y := fun y hy z => S2.nf y hy (z ▸ f)
    rw [kp4 x u (n1 _ (.inr (.inr (.inr (.inr (.inl rfl)))))) (n1 _ (.inr (.inr (.inr (.inl rfl))))) (n1 _ (.inr (.inr (.inl rfl)))) (kp3 x u hu (n1 _ (.inr (.inr (.inr (.inr (.inr (.inl rfl))))))) (n1 _ (.inr (.inr (.inr (.inr (.inr (.inr (.inl rfl)))))))) (n1 _ (.inr (.inr (.inr (.inr (.inr (.inr (.inr rfl)))))))))]
    exact fun z => nomatch z
  · obtain ⟨h1, h2, h3, h4, h5, h6, h7⟩ := nmem7 n
    exact kp4 x u h7 h6 h5 (kp3 x u (kk2 x u h h1) h2 h3 h4)
theorem upd_do {H : Hp} {o pa x : Addr} {X X' X0 Y Y0 : List V} (ho : H o = some (.lst X0)) (hpa : H pa = some (.lst Y0)) (hl : (upd (upd H pa (.lst Y)) o (.lst X)) x = none) (opa : o ≠ pa) :
    ∃ H', upd (upd (upd (upd H pa (.lst Y)) o (.lst X)) x (.lst [])) o (.lst X') = H' ∧ H' o = some (.lst X') ∧ H' pa = some (.lst Y) ∧ H' x = some (.lst []) ∧ H x = none ∧ x ≠ o ∧ x ≠ pa ∧ Imm H H' ∧ ∀ z u, z ≠ pa → z ≠ o → H z = some u → H' z = some u := by
  have n1 : x ≠ o := fun z => by rw [z, upd_same] at hl; cases hl
  have n2 : x ≠ pa := fun z => by rw [z, upd_ne opa.symm, upd_same] at hl; cases hl
  have hx : H x = none := by rw [upd_ne n1, upd_ne n2] at hl; exact hl
  have kk : ∀ z u, z ≠ pa → z ≠ o → H z = some u → (upd (upd (upd (upd H pa (.lst Y)) o (.lst X)) x (.lst [])) o (.lst X')) z = some u := fun z u h1 h2 h => by
    rw [upd_ne h2, upd_ne (fun e => by rw [e, hx] at h; cases h), upd_ne h2, upd_ne h1]
    exact h
  refine ⟨_, rfl, upd_same, by rw [upd_ne opa.symm, upd_ne n2.symm, upd_ne opa.symm, upd_same], by rw [upd_ne n1, upd_same], hx, n1, n2, fun z u h n => kk z u (fun e => ?_) (fun e => ?_) h, kk⟩
  · rw [e, hpa] at h; cases h; exact n trivial
  · rw [e, ho] at h; cases h; exact n trivial
theorem last_get {zs : List V} {v : V} : (zs ++ [v])[(zs ++ [v]).length - 1]? = some v := by
  rw [List.length_append]
  show (zs ++ [v])[zs.length + 1 - 1]? = _
  rw [Nat.add_sub_cancel, List.getElem?_append_right (Nat.le_refl _), Nat.sub_self]
  rfl
end
section
variable {P : Program} {w : World} {K : PySem.W.Frag} {mg : Str → Option Value} {base : Heap}
def spStep (K : PySem.W.Frag) (CT CL CS CG : Addr) : Sp := fun vs H Q _ => ∃ (d c o pa la a pl ll : Addr) (F : Addr → Prop) (past : List Bk) (cur : Bk) (later : List Bk) (N i : Nat), vs = [.ref d, .ref o] ∧ Sd K CT CL CS CG d c F o pa la a pl ll past cur later N i H ∧ i ≤ 50 ∧
  ∀ F' la' ll' past' cur' later' H', Stp K CT CL CS CG d c F o pa la a pl ll N (i + 1) H F' la' ll' past' cur' later' H' → Q (.bl true) H'
theorem c_law_step (D : FnAt K mg "_law_step" s_law_step) (Z : Ev K mg) (T : Bl mg) (c_law_draw : Cal P w K mg base 1 "_law_draw" spDraw []) (c_Ledger_undo : Met P w K mg base 6 Z.Ledger "undo" (spUndo K Z.Table Z.Lot Z.State Z.Ledger) []) (c_Ledger_redo : Met P w K mg base 6 Z.Ledger "redo" (spRedo K Z.Table Z.Lot Z.State Z.Ledger) [])
    (c_law_stands : Cal P w K mg base 8 "_law_stands" (spStands K Z.Table Z.Lot Z.State Z.Ledger) []) (c_law_book_deed : Cal P w K mg base 8 "_law_book_deed" (spBDeed K Z.Table) []) (c_law_book_done : Cal P w K mg base 2 "_law_book_done" (spBDone K Z.Table) []) (c_law_real : Cal P w K mg base 5 "_law_real" (spReal K Z.Table) []) (c_law_try : Cal P w K mg base 11 "_law_try" (spTry K Z.Table Z.Lot Z.State Z.Ledger) []) :
    Cal P w K mg base 12 "_law_step" (spStep K Z.Table Z.Lot Z.State Z.Ledger) [] := by
  refine calOf D sc_law_step (fun _ _ _ _ _ _ us hl => match us, hl with | [_, _], _ => rfl) (fun vs H Q E h => ?_) (fun f cdv A outer s H vs Q E hr h => ?_)
  · obtain ⟨d, c, o, pa, la, a, pl, ll, F, past, cur, later, N, i, rfl, _⟩ := h
    rfl
  · obtain ⟨d, c, o, pa, la, a, pl, ll, F, past, cur, later, N, i, rfl, S0, hi, k⟩ := h
    have nd := sc_law_step.nd
    have hu := hr.units
    have A := S0.apart
    refine ⟨_, (pss_cons (ps_par3 (i := 2) (j := 3) (l := 4) rfl nd rfl rfl rfl (by decide) (by decide) (by decide) rfl rfl rfl (pa_cons (pe_ix (ixL K) (pv 1) pe_int (fun _ _ => rfl)) (pa_cons (pe_ix (ixL K) (pv 1) pe_int (fun _ _ => rfl)) (pa_cons (pe_ix (ixL K) (pv 1) pe_int (fun _ _ => rfl)) pa_nil))) (by rfl))
      (pss_cons (ps_set (i := 5) nd rfl (by first | exact Or.inl rfl | exact Or.inr rfl) (pe_c c_law_draw hr (by decide) (by rfl) (pa_cons (pv 0) (pa_cons pe_int pa_nil))))
      (pss_cons (ps_if (pt_cmpR op_eq (pv 5) pe_int (nomark _))
        (pss_cons (ps_if (pt_cmpR op_ne (pe_mt0 c_Ledger_undo hr (by decide) (pv 2) ) (pe_cmpR op_gt (pe_callB (crLen K) (by rfl) T.b_len (by decide +kernel) (pa_cons (pv 3) pa_nil)) pe_int (nomark _)) (nomark _))
          (pss_one (ps_ret pe_bl))
          pss_nil)
        (pss_cut (ps_if (pt_cmpR op_gt (pe_callB (crLen K) (by rfl) T.b_len (by decide +kernel) (pa_cons (pv 3) pa_nil)) pe_int (nomark _))
          (pss_cons (ps_expr (pe_bm PySem.F.plainAttrs_list PySem.F.slot_list_append PySem.F.type_list_append mt_append (pv 4) (pa_cons (pe_ix (ixL K) (pv 1) pe_int (fun _ _ => rfl)) pa_nil)))
          (pss_one (ps_asg (pe_bm0 PySem.F.plainAttrs_list PySem.F.slot_list_pop PySem.F.type_list_pop mt_pop (pv 3)) (pg_sub (pv 1) pe_int set_list))))
          pss_nil)
        (pss_one (ps_ret (pe_c c_law_stands hr (by decide) (by rfl) (pa_cons (pv 2) (pa_cons (pe_ix (ixL K) (pv 1) pe_int (fun _ _ => rfl)) pa_nil)))))))
        pss_nil)
      (pss_cons (ps_if (pt_cmpR op_eq (pv 5) pe_int (nomark _))
        (pss_cons (ps_if (pt_cmpR op_ne (pe_mt0 c_Ledger_redo hr (by decide) (pv 2) ) (pe_cmpR op_gt (pe_callB (crLen K) (by rfl) T.b_len (by decide +kernel) (pa_cons (pv 4) pa_nil)) pe_int (nomark _)) (nomark _))
          (pss_one (ps_ret pe_bl))
          pss_nil)
        (pss_cut (ps_if (pt_cmpR op_gt (pe_callB (crLen K) (by rfl) T.b_len (by decide +kernel) (pa_cons (pv 4) pa_nil)) pe_int (nomark _))
          (pss_cons (ps_expr (pe_bm PySem.F.plainAttrs_list PySem.F.slot_list_append PySem.F.type_list_append mt_append (pv 3) (pa_cons (pe_ix (ixL K) (pv 1) pe_int (fun _ _ => rfl)) pa_nil)))
          (pss_one (ps_asg (pe_bm0 PySem.F.plainAttrs_list PySem.F.slot_list_pop PySem.F.type_list_pop mt_pop (pv 4)) (pg_sub (pv 1) pe_int set_list))))
          pss_nil)
        (pss_one (ps_ret (pe_c c_law_stands hr (by decide) (by rfl) (pa_cons (pv 2) (pa_cons (pe_ix (ixL K) (pv 1) pe_int (fun _ _ => rfl)) pa_nil)))))))
        pss_nil)
      (pss_cons (ps_set (i := 6) nd rfl (by first | exact Or.inl rfl | exact Or.inr rfl) (pe_c c_law_book_deed hr (by decide) (by rfl) (pa_cons (pv 0) (pa_cons (pe_ix (ixL K) (pv 1) pe_int (fun _ _ => rfl)) (pa_cons pe_non (pa_cons pe_int pa_nil))))))
      (pss_cons (ps_asg (pe_c c_law_book_done hr (by decide) (by rfl) (pa_cons (pe_ix (ixL K) (pv 1) pe_int (fun _ _ => rfl)) (pa_cons (pv 6) pa_nil))) (pgTup K rfl (pgs_cons (pg_name (i := 7) nd rfl (by first | exact Or.inl rfl | exact Or.inr rfl)) (pgs_cons (pg_name (i := 8) nd rfl (by first | exact Or.inl rfl | exact Or.inr rfl)) pgs_nil))))
      (pss_cons (ps_if (pt_cmpR (neD K hu) (pe_c c_law_try hr (by decide) (by rfl) (pa_cons (pv 2) (pa_cons (pe_c c_law_real hr (by decide) (by rfl) (pa_cons (pv 6) pa_nil)) pa_nil))) (pe_ifExp (pt_cmpR op_isN (pv 7) pe_non (nomark _)) (pe_tup (pa_cons pe_str (pa_cons (pv 8) pa_nil))) (pe_tup (pa_cons pe_str (pa_cons (pv 8) pa_nil)))) (nomark _))
        (pss_one (ps_ret pe_bl))
        pss_nil)
      (pss_cut (ps_if (pt_cmpR op_notN (pv 7) pe_non (nomark _))
        (pss_cons (ps_expr (pe_bm PySem.F.plainAttrs_list PySem.F.slot_list_append PySem.F.type_list_append mt_append (pv 3) (pa_cons (pe_ix (ixL K) (pv 1) pe_int (fun _ _ => rfl)) pa_nil)))
        (pss_cons (ps_asg (pv 7) (pg_sub (pv 1) pe_int set_list))
        (pss_one (ps_asg (pe_lst pa_nil) (pg_sub (pv 1) pe_int set_list)))))
        pss_nil)
      (pss_one (ps_ret (pe_c c_law_stands hr (by decide) (by rfl) (pa_cons (pv 2) (pa_cons (pe_ix (ixL K) (pv 1) pe_int (fun _ _ => rfl)) pa_nil))))))))))))), ?_⟩
    obtain ⟨y, ys, zs, ho, hpa, hla, hy, hys, hzs⟩ := S0.hs.ex
    refine ⟨_, rfl, o, _, (0 : Int), .ref a, rfl, rfl, SqL.of ho, rfl, _, rfl, o, _, (1 : Int), .ref pa, rfl, rfl, SqL.of ho, rfl, _, rfl, o, _, (3 : Int), .ref la, rfl, rfl, SqL.of ho, rfl, _, _, _, rfl, ?_⟩
    clear ho hpa hla hy hys hzs
    have S1 := S0
    refine ⟨_, rfl, d, c, 5, rfl, S1.dr, by decide, by decide, fun way H2 _ D2 kp2 => ?_⟩
    have S2 := S1.kpd kp2 D2
    have im2 : Imm H H2 := Kp.imm kp2 S1.dr
    have kk2 : ∀ x u, H x = some u → x ≠ d → H2 x = some u := fun x u h n => kp2 _ _ h n
    clear S1 D2 kp2
    obtain ⟨y, ys, zs, ho, hpa, hla, hy, hys, hzs⟩ := S2.hs.ex
    obtain ⟨dx, _, _, _, ha, _⟩ := id S2.lg
    have hpn := S2.pn
    refine ⟨_, rfl, rfl, _, rfl, ite2 (fun _ => ?_) (fun _ => ?_)⟩
    · -- undo
      refine ⟨_, rfl, a, dx, _, rfl, ha, rfl, a, pl, ll, past, cur, later, rfl, S2.lg, by omega, fun q hq => (S2.gp q hq).tb.trans S2.g.tb.symm, fun e => ?_, fun ps p e H3 hG3 im3 kp3 => ?_⟩
      · subst e
        cases hys
        obtain ⟨p, tl, rl, rfl, hB, _⟩ := hy
        refine ⟨_, rfl, pa, _, rfl, .inl (SqL.of hpa), (0 : Int), (0 : Int), rfl, rfl, rfl, false, nbl_t rfl, iteF ?_⟩
        refine ⟨fun σ' H' => σ' = [some (.ref d), some (.ref o), some (.ref a), some (.ref pa), some (.ref la), some (nV way), none, none, none] ∧ H' = H2, ?_, ?_⟩
        · exact ⟨_, rfl, pa, _, rfl, .inl (SqL.of hpa), (0 : Int), (0 : Int), rfl, rfl, _, rfl, ite2 (fun h => absurd h (by decide)) (fun _ => ⟨rfl, rfl⟩)⟩
        rintro σ' _ ⟨rfl, rfl⟩
        exact ⟨_, rfl, _, rfl, o, _, (2 : Int), .ref p, rfl, rfl, SqL.of ho, rfl, a, pl, ll, p, tl, rl, [], cur, later, rfl, S2.lg, hB, S2.g.ok, fun H3 s3 => k F la ll _ _ _ H3 (Stp.grow ⟨S2.up, fun _ f => f, fun _ f => .inl f, .inl rfl, .inl rfl, im2, fun x u h n => kk2 x u h (nmem7 n).1⟩ s3)⟩
      · subst e
        obtain ⟨hs3, D3⟩ := S2.lgOnly im3 kp3
        obtain ⟨y3, ys3, zs3, ho3, hpa3, hla3, hy3, hys3, hzs3⟩ := hs3.ex
        obtain ⟨ys', yl, rfl, pz, hyl⟩ := pr_last hys3
        obtain ⟨zl, _⟩ := paired_at hzs3
        have hlt : decide ((((ys' ++ [yl]).length : Nat) : Int) > 0) = true := decide_eq_true (by rw [List.length_append]; show ((ys'.length + 1 : Nat) : Int) > 0; omega)
        refine ⟨_, rfl, pa, _, rfl, .inl (SqL.of hpa3), (((ys' ++ [yl]).length : Nat) : Int), (0 : Int), rfl, rfl, rfl, false, nbl_t (congrArg V.bl hlt.symm), iteF ?_⟩
        refine ⟨fun σ' H' => σ' = [some (.ref d), some (.ref o), some (.ref a), some (.ref pa), some (.ref la), some (nV way), none, none, none] ∧ Stp K Z.Table Z.Lot Z.State Z.Ledger d c F o pa la a pl ll N (i + 1) H F la ll ps p (later ++ [cur]) H', ?_, ?_⟩
        · refine ⟨_, rfl, pa, _, rfl, .inl (SqL.of hpa3), (((ys' ++ [yl]).length : Nat) : Int), (0 : Int), rfl, rfl, _, rfl, ite2 (fun _ => ?_) (fun h => absurd hlt h)⟩
          refine ⟨_, rfl, .inl ⟨rfl, _, SqL.of hla3⟩, _, rfl, o, _, (2 : Int), y3, rfl, rfl, SqL.of ho3, rfl, la, zs3, y3, rfl, rfl, hla3, Nat.lt_of_le_of_lt (show zs3.length ≤ 100000 by rw [List.length_append] at hpn; omega) (by decide), ?_⟩
          have hpa4 : (upd H3 la (.lst (zs3 ++ [y3]))) pa = some (.lst (ys' ++ [yl])) := by rw [upd_ne A.pala]; exact hpa3
          refine ⟨_, rfl, .inl ⟨rfl, _, SqL.of hpa4⟩, pa, _, yl, rfl, rfl, hpa4, last_get, ?_⟩
          rw [List.dropLast_concat]
          refine ⟨_, rfl, o, _, (2 : Int), 2, rfl, rfl, by rw [upd_ne A.opa, upd_ne A.ola]; exact ho3, rfl, ?_⟩
          obtain ⟨H4, e4, q1, q2, q3, im4, kp4⟩ := upd3 (X := zs3 ++ [y3]) (Y := ys') (W := [.ref a, .ref pa, yl, .ref la]) hla3 hpa3 ho3 A.pala.symm A.ola.symm A.opa.symm
          have kf : ∀ x u, F x → H3 x = some u → H4 x = some u := fun x u f h => kp4 x u (fun z => S2.nf _ (.inr (.inr (.inr (.inr (.inl z))))) f) (fun z => S2.nf _ (.inr (.inr (.inr (.inl z)))) f) (fun z => S2.nf _ (.inr (.inr (.inl z))) f) h
          have M : Stp K Z.Table Z.Lot Z.State Z.Ledger d c F o pa la a pl ll N (i + 1) H F la ll ps p (later ++ [cur]) H4 := mk_stp S2 im2 kk2 hG3 im3 kp3 D3 im4 kp4 ⟨yl, ys', zs3 ++ [y3], q3, q2, q1, hyl.chg im4 kf fun _ f => f, Paired.mapP pz fun _ _ q => q.chg im4 kf fun _ f => f, paired_snoc (Paired.mapP hzs3 fun _ _ q => q.chg im4 kf fun _ f => f) (hy3.chg im4 kf fun _ f => f)⟩
            (S2.gp p (List.mem_append_right _ List.mem_cons_self)) (fun q hq => S2.gp q (List.mem_append_left _ hq)) (fun q hq => by
              rcases List.mem_append.mp hq with z | z
              · exact S2.gl q z
              · rw [List.mem_singleton.mp z]; exact S2.g) (by
              rw [List.length_append] at hpn ⊢
              have e1 : [p].length = 1 := rfl
              have e2 : [cur].length = 1 := rfl
              omega)
          subst e4
          exact ⟨rfl, M⟩
        rintro σ' H4 ⟨rfl, M⟩
        obtain ⟨y4, ys4, zs4, ho4, _, _, ⟨p4, tl4, rl4, rfl, hB4, _⟩, _⟩ := M.sd.hs.ex
        exact ⟨_, rfl, _, rfl, o, _, (2 : Int), .ref p4, rfl, rfl, SqL.of ho4, rfl, a, pl, ll, p4, tl4, rl4, ps, p, later ++ [cur], rfl, M.sd.lg, hB4, M.sd.g.ok, fun H5 s5 => k F la ll _ _ _ H5 (M.grow s5)⟩
    refine ⟨_, rfl, rfl, _, rfl, ite2 (fun _ => ?_) (fun _ => ?_)⟩
    · -- redo
      refine ⟨_, rfl, a, dx, _, rfl, ha, rfl, a, pl, ll, past, cur, later, rfl, S2.lg, by omega, fun q hq => (S2.gl q hq).tb.trans S2.g.tb.symm, fun e => ?_, fun ls p e H3 hG3 im3 kp3 => ?_⟩
      · subst e
        cases hzs
        obtain ⟨p, tl, rl, rfl, hB, _⟩ := hy
        refine ⟨_, rfl, la, _, rfl, .inl (SqL.of hla), (0 : Int), (0 : Int), rfl, rfl, rfl, false, nbl_t rfl, iteF ?_⟩
        refine ⟨fun σ' H' => σ' = [some (.ref d), some (.ref o), some (.ref a), some (.ref pa), some (.ref la), some (nV way), none, none, none] ∧ H' = H2, ?_, ?_⟩
        · exact ⟨_, rfl, la, _, rfl, .inl (SqL.of hla), (0 : Int), (0 : Int), rfl, rfl, _, rfl, ite2 (fun h => absurd h (by decide)) (fun _ => ⟨rfl, rfl⟩)⟩
        rintro σ' _ ⟨rfl, rfl⟩
        exact ⟨_, rfl, _, rfl, o, _, (2 : Int), .ref p, rfl, rfl, SqL.of ho, rfl, a, pl, ll, p, tl, rl, past, cur, [], rfl, S2.lg, hB, S2.g.ok, fun H3 s3 => k F la ll _ _ _ H3 (Stp.grow ⟨S2.up, fun _ f => f, fun _ f => .inl f, .inl rfl, .inl rfl, im2, fun x u h n => kk2 x u h (nmem7 n).1⟩ s3)⟩
      · subst e
        obtain ⟨hs3, D3⟩ := S2.lgOnly im3 kp3
        obtain ⟨y3, ys3, zs3, ho3, hpa3, hla3, hy3, hys3, hzs3⟩ := hs3.ex
        obtain ⟨zs', yl, rfl, pz, hyl⟩ := pr_last hzs3
        obtain ⟨yl3, _⟩ := paired_at hys3
        have hlt : decide ((((zs' ++ [yl]).length : Nat) : Int) > 0) = true := decide_eq_true (by rw [List.length_append]; show ((zs'.length + 1 : Nat) : Int) > 0; omega)
        refine ⟨_, rfl, la, _, rfl, .inl (SqL.of hla3), (((zs' ++ [yl]).length : Nat) : Int), (0 : Int), rfl, rfl, rfl, false, nbl_t (congrArg V.bl hlt.symm), iteF ?_⟩
        refine ⟨fun σ' H' => σ' = [some (.ref d), some (.ref o), some (.ref a), some (.ref pa), some (.ref la), some (nV way), none, none, none] ∧ Stp K Z.Table Z.Lot Z.State Z.Ledger d c F o pa la a pl ll N (i + 1) H F la ll (past ++ [cur]) p ls H', ?_, ?_⟩
        · refine ⟨_, rfl, la, _, rfl, .inl (SqL.of hla3), (((zs' ++ [yl]).length : Nat) : Int), (0 : Int), rfl, rfl, _, rfl, ite2 (fun _ => ?_) (fun h => absurd hlt h)⟩
          refine ⟨_, rfl, .inl ⟨rfl, _, SqL.of hpa3⟩, _, rfl, o, _, (2 : Int), y3, rfl, rfl, SqL.of ho3, rfl, pa, ys3, y3, rfl, rfl, hpa3, Nat.lt_of_le_of_lt (show ys3.length ≤ 100000 by rw [List.length_append] at hpn; omega) (by decide), ?_⟩
          have hla4 : (upd H3 pa (.lst (ys3 ++ [y3]))) la = some (.lst (zs' ++ [yl])) := by rw [upd_ne A.pala.symm]; exact hla3
          refine ⟨_, rfl, .inl ⟨rfl, _, SqL.of hla4⟩, la, _, yl, rfl, rfl, hla4, last_get, ?_⟩
          rw [List.dropLast_concat]
          refine ⟨_, rfl, o, _, (2 : Int), 2, rfl, rfl, by rw [upd_ne A.ola, upd_ne A.opa]; exact ho3, rfl, ?_⟩
          obtain ⟨H4, e4, q1, q2, q3, im4, kp4⟩ := upd3 (X := ys3 ++ [y3]) (Y := zs') (W := [.ref a, .ref pa, yl, .ref la]) hpa3 hla3 ho3 A.pala A.opa.symm A.ola.symm
          have kp4' : ∀ x u, x ≠ la → x ≠ pa → x ≠ o → H3 x = some u → H4 x = some u := fun x u h1 h2 h3 => kp4 x u h2 h1 h3
          have kf : ∀ x u, F x → H3 x = some u → H4 x = some u := fun x u f h => kp4' x u (fun z => S2.nf _ (.inr (.inr (.inr (.inr (.inl z))))) f) (fun z => S2.nf _ (.inr (.inr (.inr (.inl z)))) f) (fun z => S2.nf _ (.inr (.inr (.inl z))) f) h
          have M : Stp K Z.Table Z.Lot Z.State Z.Ledger d c F o pa la a pl ll N (i + 1) H F la ll (past ++ [cur]) p ls H4 := mk_stp S2 im2 kk2 hG3 im3 kp3 D3 im4 kp4' ⟨yl, ys3 ++ [y3], zs', q3, q1, q2, hyl.chg im4 kf fun _ f => f, paired_snoc (Paired.mapP hys3 fun _ _ q => q.chg im4 kf fun _ f => f) (hy3.chg im4 kf fun _ f => f), Paired.mapP pz fun _ _ q => q.chg im4 kf fun _ f => f⟩
            (S2.gl p (List.mem_append_right _ List.mem_cons_self)) (fun q hq => by
              rcases List.mem_append.mp hq with z | z
              · exact S2.gp q z
              · rw [List.mem_singleton.mp z]; exact S2.g) (fun q hq => S2.gl q (List.mem_append_left _ hq)) (by
              rw [List.length_append] at hpn ⊢
              have e1 : [p].length = 1 := rfl
              have e2 : [cur].length = 1 := rfl
              omega)
          subst e4
          exact ⟨rfl, M⟩
        rintro σ' H4 ⟨rfl, M⟩
        obtain ⟨y4, ys4, zs4, ho4, _, _, ⟨p4, tl4, rl4, rfl, hB4, _⟩, _⟩ := M.sd.hs.ex
        exact ⟨_, rfl, _, rfl, o, _, (2 : Int), .ref p4, rfl, rfl, SqL.of ho4, rfl, a, pl, ll, p4, tl4, rl4, past ++ [cur], p, ls, rfl, M.sd.lg, hB4, M.sd.g.ok, fun H5 s5 => k F la ll _ _ _ H5 (M.grow s5)⟩
    -- a deed
    obtain ⟨p, tl, rl, rfl, hB, f1, f2, f3⟩ := hy
    have np : ∀ x, F x → x ≠ d ∧ x ≠ c := fun x f => ⟨fun z => S2.nf x (.inl z) f, fun z => S2.nf x (.inr (.inl z)) f⟩
    refine ⟨_, rfl, _, rfl, o, _, (2 : Int), .ref p, rfl, rfl, SqL.of ho, rfl, d, c, p, tl, rl, cur, 6, rfl, S2.dr, hB, (np _ f1).1, (np _ f2).1, (np _ f3).1, (np _ f3).2, S2.g.ok, fun yd g H3 hg hd D3 kp3 => ?_⟩
    have S3 := S2.kpd kp3 D3
    have im3 : Imm H H3 := im2.trans (Kp.imm kp3 S2.dr)
    have kk3 : ∀ x u, H x = some u → x ≠ d → H3 x = some u := fun x u h n => kp3 _ _ (kk2 _ _ h n) n
    clear ho hpa hla hys hzs ha hB f1 f2 f3 np im2 kk2 kp3 D3 S2
    have gok : GdOk g := by
      cases g with
      | table i t => exact ⟨hd.2.1.2.1, hd.2.1.2.2.1⟩
      | _ => exact trivial
    have tabk : ∀ i t, g = .table i t → TbOk t := fun i t e => by subst e; exact hd.2.1
    obtain ⟨y3, ys, zs, ho, hpa, hla, ⟨p, tl, rl, rfl, hB, f1, f2, f3⟩, hys, hzs⟩ := S3.hs.ex
    have hrn := S3.g.rn
    refine ⟨_, rfl, o, _, (2 : Int), .ref p, rfl, rfl, SqL.of ho, rfl, _, rfl, p, tl, rl, yd, cur, g, 6, rfl, hB, hg, hd, S3.g.ok, by decide, by omega, fun b' eb t p' tl' rl' H4 s4 hp' htl' hrl' gt hB4 => ?_, fun w ew t H4 s4 gt => ?_⟩
    · have S4 := S3.grow s4
      refine ⟨t, _, rfl, .inl (.inl gt), rfl, _, _, rfl, _, _, rfl, rfl, ?_⟩
      refine ⟨_, rfl, _, rfl, yd, g, rfl, hg.imm (Same.imm s4), tabk, fun y' H5 s5 gd => ?_⟩
      have S5 := S4.grow s5
      have hB5 := hB4.grow s5
      refine ⟨a, pl, ll, y', past, cur, later, g, rfl, S5.lg, gd, S5.g.ok, gok, by omega, fun b2 eb2 t2 l2 H6 hl2 hG6 im6 kp6 gt2 => ?_, fun w ew => absurd (eb.symm.trans ew) (by intro z; cases z)⟩
      have e2 : b2 = b' := by
        have z := eb2.symm.trans eb
        cases z
        rfl
      subst e2
      -- the new book's objects are new
      have new : ∀ x, (x = p' ∨ x = tl' ∨ x = rl') → H3 x = none := fun x hx => by rcases hx with z | z | z <;> rw [z] <;> assumption
      have there3 : ∀ x, (x = p' ∨ x = tl' ∨ x = rl') → H5 x ≠ none := fun x hx => by
        obtain ⟨b1, ⟨bys, b2', _⟩, ⟨brs, b3, _⟩, _⟩ := hB5
        rcases hx with z | z | z <;> rw [z]
        · rw [b1]; exact fun z => nomatch z
        · rw [b2']; exact fun z => nomatch z
        · rw [b3]; exact fun z => nomatch z
      have nne : ∀ x, (x = p' ∨ x = tl' ∨ x = rl') → ∀ z, (z = d ∨ z = c ∨ z = o ∨ z = pa ∨ z = la ∨ z = a ∨ z = pl ∨ z = ll) → x ≠ z := fun x hx z hz e => S3.there hz (e ▸ new x hx)
      obtain ⟨hs6, D6⟩ := S5.lgOnly im6 fun x u h n1 n2 _ => kp6 x u h n1 n2
      have hB6 : BkAt K H6 p' tl' rl' b2 := hB5.chg im6 fun x u hx q => kp6 x u q (nne x hx a (.inr (.inr (.inr (.inr (.inr (.inl rfl))))))) (nne x hx pl (.inr (.inr (.inr (.inr (.inr (.inr (.inl rfl))))))))
      refine ⟨_, rfl, rfl, _, rfl, ite2 (fun h => absurd (of_decide_eq_true h) (fun z => nomatch z)) (fun _ => ?_)⟩
      refine ⟨_, rfl, by show 2 ≤ sizeLine; decide, fun q hq => ?_⟩
      obtain ⟨H7, e7, s7, g7⟩ := al (o := .tup [.str "done", toldV g b2]) hq
      rw [e7]
      clear e7
      refine ned_done (g := g) (bk := b2) (.inl (.inl (s7 _ _ gt2))) (.inl (.inl g7)) ⟨_, rfl, iteF ?_⟩
      have hG7 := hG6.grow s7
      have hB7 := hB6.grow s7
      have D7 := D6.keep s7
      have hs7 : Hs K F o pa la a past cur later H7 := hs6.chg (Same.imm s7) (fun x u _ q => s7 _ _ q) fun _ f => f
      have im7 : Imm H H7 := ((im3.trans (Same.imm (s4.trans s5))).trans im6).trans (Same.imm s7)
      have kp7 : ∀ x u, H3 x = some u → x ≠ a → x ≠ pl → H7 x = some u := fun x u h n1 n2 => s7 _ _ (kp6 _ _ (s5 _ _ (s4 _ _ h)) n1 n2)
      have nl2 : ∀ x, F x ∨ (x = p' ∨ x = tl' ∨ x = rl') ∨ (x = d ∨ x = c ∨ x = o ∨ x = pa ∨ x = la ∨ x = a ∨ x = pl ∨ x = ll) → x ≠ l2 := fun x hx e => by
        subst e
        rcases hx with f | hx | hx
        · exact S5.fx _ f hl2
        · exact there3 _ hx hl2
        · exact S5.there hx hl2
      have l20 : H l2 = none := by
        cases e : H l2 with
        | none => rfl
        | some u =>
          by_cases z : l2 = d
          · exact absurd z.symm (nl2 d (.inr (.inr (.inl rfl))))
          · rw [s5 _ _ (s4 _ _ (kk3 _ _ e z))] at hl2
            cases hl2
      have hl27 : H7 l2 ≠ none := by
        obtain ⟨_, _, _, _, _, _, _, _, z, _⟩ := hG7
        rw [z]
        exact fun z => nomatch z
      have there7 : ∀ x, F x ∨ (x = p' ∨ x = tl' ∨ x = rl') → H7 x ≠ none := fun x hx => by
        rcases hx with f | hx
        · obtain ⟨u, hu⟩ := Option.ne_none_iff_exists'.mp (S3.fx x f)
          rw [kp7 x u hu (fun z => S3.nf x (.inr (.inr (.inr (.inr (.inr (.inl z)))))) f) (fun z => S3.nf x (.inr (.inr (.inr (.inr (.inr (.inr (.inl z))))))) f)]
          exact fun z => nomatch z
        · obtain ⟨b1, ⟨bys, b2', _⟩, ⟨brs, b3, _⟩, _⟩ := hB7
          rcases hx with z | z | z <;> rw [z]
          · rw [b1]; exact fun z => nomatch z
          · rw [b2']; exact fun z => nomatch z
          · rw [b3]; exact fun z => nomatch z
      have tbl : b2.tbs.length = N := (done_len eb).trans S3.g.tb
      have rwl := done_rows eb
      have okb := done_ok S3.g.ok gok eb
      clear hs6 D6 hB6 hB5 hB4 S4 hG6 im6 kp6 s4 s5 s7 gt gt2 g7 ho hpa hla hys hzs hB f1 f2 f3 hp' htl' hrl'
      obtain ⟨y7, ys7, zs7, ho7, hpa7, hla7, hy7, hys7, hzs7⟩ := hs7.ex
      obtain ⟨yl7, _⟩ := paired_at hys7
      refine ⟨fun σ' H' => σ' = [some (.ref d), some (.ref o), some (.ref a), some (.ref pa), some (.ref la), some (nV way), some yd, some (.ref p'), some (toldV g b2)] ∧ ∃ (F' : Addr → Prop) (la' : Addr), Stp K Z.Table Z.Lot Z.State Z.Ledger d c F o pa la a pl ll N (i + 1) H F' la' l2 (past ++ [cur]) b2 [] H', ?_, ?_⟩
      · refine ⟨_, rfl, rfl, _, rfl, ite2 (fun _ => ?_) (fun h => absurd rfl h)⟩
        refine ⟨_, rfl, .inl ⟨rfl, _, SqL.of hpa7⟩, _, rfl, o, _, (2 : Int), y7, rfl, rfl, SqL.of ho7, rfl, pa, ys7, y7, rfl, rfl, hpa7, Nat.lt_of_le_of_lt (show ys7.length ≤ 100000 by omega) (by decide), ?_⟩
        refine ⟨_, rfl, _, rfl, o, _, (2 : Int), 2, rfl, rfl, by rw [upd_ne A.opa]; exact ho7, rfl, ?_⟩
        refine ⟨Nat.zero_le _, fun la' hla' => ?_⟩
        obtain ⟨H8, e8, q1, q2, q3, q4, n1, n2, im8, kp8⟩ := upd_do (X := [.ref a, .ref pa, .ref p', .ref la]) (X' := [.ref a, .ref pa, .ref p', .ref la']) (Y := ys7 ++ [y7]) ho7 hpa7 hla' A.opa
        refine ⟨_, rfl, o, _, (3 : Int), 3, rfl, rfl, by rw [upd_ne n1.symm]; exact upd_same, rfl, ?_⟩
        have M : Stp K Z.Table Z.Lot Z.State Z.Ledger d c F o pa la a pl ll N (i + 1) H (fun x => F x ∨ (x = p' ∨ x = tl' ∨ x = rl')) la' l2 (past ++ [cur]) b2 [] H8 := by
          have kf : ∀ x u, F x → H7 x = some u → H8 x = some u := fun x u f h => kp8 x u (fun z => S3.nf _ (.inr (.inr (.inr (.inl z)))) f) (fun z => S3.nf _ (.inr (.inr (.inl z))) f) h
          have kn : ∀ x u, (x = p' ∨ x = tl' ∨ x = rl') → H7 x = some u → H8 x = some u := fun x u hx h => kp8 x u (nne x hx pa (.inr (.inr (.inr (.inl rfl))))) (nne x hx o (.inr (.inr (.inl rfl)))) h
          have la0 : ∀ x, H7 x ≠ none → x ≠ la' := fun x hx e => hx (e ▸ q4)
          have t7 : ∀ z, (z = d ∨ z = c ∨ z = o ∨ z = pa ∨ z = a ∨ z = pl) → H7 z ≠ none := fun z hz => by
            obtain ⟨_, _, _, _, h1, h2, _⟩ := hG7
            obtain ⟨_, _, _, _, e1, e2, _⟩ := D7.ex
            rcases hz with w | w | w | w | w | w <;> rw [w]
            · rw [e1]; exact fun z => nomatch z
            · rw [e2]; exact fun z => nomatch z
            · rw [ho7]; exact fun z => nomatch z
            · rw [hpa7]; exact fun z => nomatch z
            · rw [h1]; exact fun z => nomatch z
            · rw [h2]; exact fun z => nomatch z
          have nla : ∀ x, F x ∨ (x = p' ∨ x = tl' ∨ x = rl') → x ≠ la' := fun x hx => la0 x (there7 x hx)
          refine ⟨⟨D7.chg fun x u hx q => kp8 x u ?_ ?_ q, hG7.chg im8 fun x u hx q => kp8 x u ?_ ?_ q, ⟨.ref p', ys7 ++ [y7], [], q1, q2, q3, ⟨p', tl', rl', rfl, hB7.chg im8 fun x u hx q => kn x u hx q, .inr (.inl rfl), .inr (.inr (.inl rfl)), .inr (.inr (.inr rfl))⟩, paired_snoc (Paired.mapP hys7 fun _ _ q => q.chg im8 kf fun _ f => .inl f) (hy7.chg im8 kf fun _ f => .inl f), .nil⟩, fun x hx f => ?_, fun x f => ?_, ?_, ⟨okb, tbl, by omega⟩, fun q hq => ?_, fun q hq => (nomatch hq), ?_⟩, fun _ f => .inl f, fun x f => ?_, .inr ?_, .inr l20, im7.trans im8, fun x u h n => ?_⟩
          · rcases hx with z | z <;> rw [z] <;> first | exact A.dpa | exact A.cpa
          · rcases hx with z | z <;> rw [z] <;> first | exact A.do_ | exact A.co
          · rcases hx with z | z | z
            · rw [z]; exact A.paa.symm
            · rw [z]; exact A.papl.symm
            · rw [z]; exact (nl2 pa (.inr (.inr (.inr (.inr (.inr (.inl rfl))))))).symm
          · rcases hx with z | z | z
            · rw [z]; exact A.oa.symm
            · rw [z]; exact A.opl.symm
            · rw [z]; exact (nl2 o (.inr (.inr (.inr (.inr (.inl rfl)))))).symm
          · rcases hx with z | z | z | z | z | z | z | z
            · rcases f with f | f
              · exact S3.nf x (.inl z) f
              · exact nne x f d (.inl rfl) z
            · rcases f with f | f
              · exact S3.nf x (.inr (.inl z)) f
              · exact nne x f c (.inr (.inl rfl)) z
            · rcases f with f | f
              · exact S3.nf x (.inr (.inr (.inl z))) f
              · exact nne x f o (.inr (.inr (.inl rfl))) z
            · rcases f with f | f
              · exact S3.nf x (.inr (.inr (.inr (.inl z)))) f
              · exact nne x f pa (.inr (.inr (.inr (.inl rfl)))) z
            · exact nla x f z
            · rcases f with f | f
              · exact S3.nf x (.inr (.inr (.inr (.inr (.inr (.inl z)))))) f
              · exact nne x f a (.inr (.inr (.inr (.inr (.inr (.inl rfl)))))) z
            · rcases f with f | f
              · exact S3.nf x (.inr (.inr (.inr (.inr (.inr (.inr (.inl z))))))) f
              · exact nne x f pl (.inr (.inr (.inr (.inr (.inr (.inr (.inl rfl))))))) z
            · rcases f with f | f
              · exact nl2 x (.inl f) z
              · exact nl2 x (.inr (.inl f)) z
          · obtain ⟨u, hu⟩ := Option.ne_none_iff_exists'.mp (there7 x f)
            rcases f with f | f
            · rw [kf x u f hu]; exact fun z => nomatch z
            · rw [kn x u f hu]; exact fun z => nomatch z
          · have e1 := la0 d (t7 d (.inl rfl))
            have e2 := la0 c (t7 c (.inr (.inl rfl)))
            have e3 := la0 pl (t7 pl (.inr (.inr (.inr (.inr (.inr rfl))))))
            have e4 := la0 l2 hl27
            have e5 := nl2 d (.inr (.inr (.inl rfl)))
            have e6 := nl2 c (.inr (.inr (.inr (.inl rfl))))
            have e7 := nl2 o (.inr (.inr (.inr (.inr (.inl rfl)))))
            have e8 := nl2 pa (.inr (.inr (.inr (.inr (.inr (.inl rfl))))))
            have e9 := nl2 pl (.inr (.inr (.inr (.inr (.inr (.inr (.inr (.inr (.inl rfl)))))))))
            simp only [List.nodup_cons, List.mem_cons, not_or, List.not_mem_nil, not_false_eq_true, List.nodup_nil, and_true]
            exact ⟨⟨A.dc, A.do_, A.dpa, e1, A.dpl, e5⟩, ⟨A.co, A.cpa, e2, A.cpl, e6⟩, ⟨A.opa, n1.symm, A.opl, e7⟩, ⟨n2.symm, A.papl, e8⟩, ⟨e3.symm, e4.symm⟩, e9⟩
          · rcases List.mem_append.mp hq with z | z
            · exact (S3.gp q z).up
            · rw [List.mem_singleton.mp z]; exact S3.g.up
          · have := S3.pn
            show (past ++ [cur]).length + 0 ≤ i + 1
            rw [List.length_append]
            show past.length + 1 + 0 ≤ i + 1
            omega
          · rcases f with f | f
            · refine Classical.or_iff_not_imp_left.mpr fun nf => absurd f nf
            · cases e : H x with
              | none => exact .inr rfl
              | some u =>
                have n3 := new x f
                rw [kk3 x u e (nne x f d (.inl rfl))] at n3
                cases n3
          · cases e : H la' with
            | none => rfl
            | some u =>
              have h1 := kk3 la' u e (la0 d (t7 d (.inl rfl))).symm
              rw [kp7 la' u h1 (la0 a (t7 a (.inr (.inr (.inr (.inr (.inl rfl))))))).symm (la0 pl (t7 pl (.inr (.inr (.inr (.inr (.inr rfl))))))).symm] at q4
              cases q4
          · obtain ⟨h1, h2, h3, h4, h5, h6, h7⟩ := nmem7 n
            exact kp8 x u h6 h5 (kp7 x u (kk3 x u h h1) h2 h3)
        subst e8
        exact ⟨rfl, _, la', M⟩
      rintro σ' H9 ⟨rfl, F', la', M⟩
      obtain ⟨y9, ys9, zs9, ho9, _, _, ⟨p9, tl9, rl9, rfl, hB9, _⟩, _⟩ := M.sd.hs.ex
      exact ⟨_, rfl, _, rfl, o, _, (2 : Int), .ref p9, rfl, rfl, SqL.of ho9, rfl, a, pl, l2, p9, tl9, rl9, past ++ [cur], b2, [], rfl, M.sd.lg, hB9, M.sd.g.ok, fun H10 s10 => k _ _ _ _ _ _ H10 (M.grow s10)⟩
    · have S4 := S3.grow s4
      refine ⟨t, _, rfl, .inl (.inl gt), rfl, _, _, rfl, _, _, rfl, rfl, ?_⟩
      refine ⟨_, rfl, _, rfl, yd, g, rfl, hg.imm (Same.imm s4), tabk, fun y' H5 s5 gd => ?_⟩
      have S5 := S4.grow s5
      refine ⟨a, pl, ll, y', past, cur, later, g, rfl, S5.lg, gd, S5.g.ok, gok, by omega, fun b2 eb2 => absurd (eb2.symm.trans ew) (by intro z; cases z), fun w2 ew2 t2 H6 s6 gt2 => ?_⟩
      have e2 : w2 = w := by
        have z := ew2.symm.trans ew
        cases z
        rfl
      subst e2
      refine ⟨_, rfl, rfl, _, rfl, ite2 (fun _ => ?_) (fun h => absurd rfl h)⟩
      refine ⟨_, rfl, by show 2 ≤ sizeLine; decide, fun q hq => ?_⟩
      obtain ⟨H7, e7, s7, g7⟩ := al (o := .tup [.str "no", .str w2]) hq
      rw [e7]
      clear e7
      refine ned_no (.inl (.inl (s7 _ _ gt2))) (.inl (.inl g7)) (err_word gd ew) ⟨_, rfl, iteF ?_⟩
      have S37 : Same H3 H7 := ((s4.trans s5).trans s6).trans s7
      have M : Stp K Z.Table Z.Lot Z.State Z.Ledger d c F o pa la a pl ll N (i + 1) H F la ll past cur later H7 := Stp.grow ⟨S3.up, fun _ f => f, fun _ f => .inl f, .inl rfl, .inl rfl, im3, fun x u h n => kk3 x u h (nmem7 n).1⟩ S37
      refine ⟨fun σ' H' => σ' = [some (.ref d), some (.ref o), some (.ref a), some (.ref pa), some (.ref la), some (nV way), some yd, some .non, some (.str w2)] ∧ H' = H7, ?_, ?_⟩
      · exact ⟨_, rfl, rfl, _, rfl, ite2 (fun h => absurd h (by decide)) (fun _ => ⟨rfl, rfl⟩)⟩
      rintro σ' _ ⟨rfl, rfl⟩
      obtain ⟨y9, ys9, zs9, ho9, _, _, ⟨p9, tl9, rl9, rfl, hB9, _⟩, _⟩ := M.sd.hs.ex
      exact ⟨_, rfl, _, rfl, o, _, (2 : Int), .ref p9, rfl, rfl, SqL.of ho9, rfl, a, pl, ll, p9, tl9, rl9, past, cur, later, rfl, M.sd.lg, hB9, M.sd.g.ok, fun H10 s10 => k _ _ _ _ _ _ H10 (M.grow s10)⟩
end
end L2.KK
namespace L2.KK
open PySem PySem.Spec PyProof.Rows C8
theorem sc_law_back_and_forth : FnScope ["one", "ledger", "past", "later", "states", "state", "at", "k"] ["one"] (defScope s_law_back_and_forth) := ⟨rfl, rfl, rfl, by decide +kernel, rfl, by decide +kernel, by decide +kernel⟩
theorem range_rev {α : Type} (xs : List α) (d : α) : (List.range xs.length).map (fun i => xs.getD (xs.length - 1 - i) d) = xs.reverse := by
  apply List.ext_getElem
  · rw [List.length_map, List.length_range, List.length_reverse]
  · intro i h1 h2
    rw [List.length_map, List.length_range] at h1
    rw [List.getElem_map, List.getElem_range, List.getElem_reverse, List.getD_eq_getElem?_getD, List.getElem?_eq_getElem (show xs.length - 1 - i < xs.length by omega)]
    rfl
theorem paired_rev {α β : Type} {F : α → β → Prop} : ∀ {a : List α} {b : List β}, Paired F a b → Paired F a.reverse b.reverse
  | _, _, .nil => .nil
  | _, _, .cons r t => by
    rw [List.reverse_cons, List.reverse_cons]
    exact paired_snoc (paired_rev t) r
section
variable {K : PySem.W.Frag} {H H1 : Hp} {D : Addr} {σ : St} {k : Nat} {tt : TT} {te : TE} {Qd : Hp → Prop} {sel : Nat → Bool} {P : Nat → V → Hp → Prop}
theorem lc_revLT {a : Addr} {xs : List V} (hx : SqL K H a xs) (T : Turns H σ k (fun i => xs.getD (xs.length - 1 - i) .non) xs.length tt te sel P) (hD : H D = none) (hz : xs.length ≤ sizeLine)
    (hd : ∀ H' ys, Same H H' → H' D = some (.lst ys) → ys.length ≤ xs.length → Paired (fun y j => P j y H') ys ((List.range xs.length).filter sel) → Qd H') :
    ∃ W : Nat → Nat → Hp → Prop, (∃ m, W 0 m (upd H D (.lst []))) ∧ ∀ i m H, W i m H →
      ((Itv K a xs.length).stop i H ∧ Qd H) ∨ ((Itv K a xs.length).go i H ∧ ∃ Nx : Hp → Prop, (∀ H', Nx H' → ∃ m', m' < m ∧ W (i + 1) m' H') ∧ ∀ x H', (Itv K a xs.length).yld i H x H' → gName k x (wipe σ [k]) H' fun σ2 H2 => wipe σ2 [k] = wipe σ [k] ∧ tt σ2 H2 fun b H3 =>
        if b = true then te σ2 H3 fun y H4 => ∃ acc, H4 D = some (.lst acc) ∧ acc.length < sizeLine ∧ Nx (upd H4 D (.lst (acc ++ [y]))) else Nx H3) :=
  lc_itT walk_revL (fun i H x H' hi y => ⟨y.1, by rw [List.getD_eq_getElem?_getD, y.2]; rfl⟩) (fun _ s => s.seq hx) T hD hz hd
end
section
variable {K : PySem.W.Frag} {CT CL CS CG : Addr} {H5 H H' : Hp} {a pl ll : Addr} {L : List Bk} {j : Nat}
/-- the ledger at the j-th of all states -/
structure Wk (K : PySem.W.Frag) (CT CL CS CG : Addr) (H5 : Hp) (a pl ll : Addr) (L : List Bk) (j : Nat) (H : Hp) : Prop where
  lg : ∃ b, L[j]? = some b ∧ LgAt K CT CL CS CG H a pl ll (L.take j) b (L.drop (j + 1)).reverse
  im : Imm H5 H
  kp : ∀ x u, H5 x = some u → x ≠ a → x ≠ pl → x ≠ ll → H x = some u
theorem Wk.grow (w : Wk K CT CL CS CG H5 a pl ll L j H) (e : Same H H') : Wk K CT CL CS CG H5 a pl ll L j H' := by
  obtain ⟨b, h1, h2⟩ := w.lg
  exact ⟨⟨b, h1, h2.grow e⟩, w.im.trans (Same.imm e), fun x u h n1 n2 n3 => e _ _ (w.kp x u h n1 n2 n3)⟩
theorem wk_take {b : Bk} (h : L[j]? = some b) : L.take (j + 1) = L.take j ++ [b] := by
  obtain ⟨hl, e⟩ := List.getElem?_eq_some_iff.mp h
  rw [List.take_succ, h]
  rfl
theorem wk_drop {b : Bk} (h : L[j]? = some b) : (L.drop j).reverse = (L.drop (j + 1)).reverse ++ [b] := by
  obtain ⟨hl, e⟩ := List.getElem?_eq_some_iff.mp h
  rw [List.drop_eq_getElem_cons hl, List.reverse_cons, e]
theorem Wk.back {b c : Bk} (w : Wk K CT CL CS CG H5 a pl ll L (j + 1) H) (hb : L[j]? = some b) (hc : L[j + 1]? = some c) (hG : LgAt K CT CL CS CG H' a pl ll (L.take j) b ((L.drop (j + 1 + 1)).reverse ++ [c])) (im : Imm H H') (kp : ∀ x u, H x = some u → x ≠ a → x ≠ pl → x ≠ ll → H' x = some u) : Wk K CT CL CS CG H5 a pl ll L j H' :=
  ⟨⟨b, hb, by rw [wk_drop hc]; exact hG⟩, w.im.trans im, fun x u h n1 n2 n3 => kp x u (w.kp x u h n1 n2 n3) n1 n2 n3⟩
theorem Wk.forth {b c : Bk} (w : Wk K CT CL CS CG H5 a pl ll L j H) (hb : L[j]? = some b) (hc : L[j + 1]? = some c) (hG : LgAt K CT CL CS CG H' a pl ll (L.take j ++ [b]) c (L.drop (j + 1 + 1)).reverse) (im : Imm H H') (kp : ∀ x u, H x = some u → x ≠ a → x ≠ pl → x ≠ ll → H' x = some u) : Wk K CT CL CS CG H5 a pl ll L (j + 1) H' :=
  ⟨⟨c, hc, by rw [wk_take hb]; exact hG⟩, w.im.trans im, fun x u h n1 n2 n3 => kp x u (w.kp x u h n1 n2 n3) n1 n2 n3⟩
end
section
variable {P : Program} {w : World} {K : PySem.W.Frag} {mg : Str → Option Value} {base : Heap}
def spBF (K : PySem.W.Frag) (CT CL CS CG : Addr) : Sp := fun vs H Q _ => ∃ (d c o pa la a pl ll : Addr) (F : Addr → Prop) (past : List Bk) (cur : Bk) (later : List Bk) (N i : Nat), vs = [.ref o] ∧ Sd K CT CL CS CG d c F o pa la a pl ll past cur later N i H ∧ i ≤ 50 ∧
  ∀ H', Imm H H' → (∀ x u, H x = some u → x ≠ a → x ≠ pl → x ≠ ll → H' x = some u) → Q (.bl true) H'
theorem c_law_bf (D : FnAt K mg "_law_back_and_forth" s_law_back_and_forth) (Z : Ev K mg) (T : Bl mg) (c_Ledger_undo : Met P w K mg base 6 Z.Ledger "undo" (spUndo K Z.Table Z.Lot Z.State Z.Ledger) []) (c_Ledger_redo : Met P w K mg base 6 Z.Ledger "redo" (spRedo K Z.Table Z.Lot Z.State Z.Ledger) [])
    (c_law_stands : Cal P w K mg base 8 "_law_stands" (spStands K Z.Table Z.Lot Z.State Z.Ledger) []) : Cal P w K mg base 9 "_law_back_and_forth" (spBF K Z.Table Z.Lot Z.State Z.Ledger) [] := by
  refine calOf D sc_law_back_and_forth (fun _ _ _ _ _ _ us hl => match us, hl with | [_], _ => rfl) (fun vs H Q E h => ?_) (fun f cdv A outer s H vs Q E hr h => ?_)
  · obtain ⟨d, c, o, pa, la, a, pl, ll, F, past, cur, later, N, i, rfl, _⟩ := h
    rfl
  · obtain ⟨d, c, o, pa, la, a, pl, ll, F, past, cur, later, N, i, rfl, S0, hi, k⟩ := h
    have nd := sc_law_back_and_forth.nd
    have A := S0.apart
    refine ⟨_, (pss_cons (ps_par3 (i := 1) (j := 2) (l := 3) rfl nd rfl rfl rfl (by decide) (by decide) (by decide) rfl rfl rfl (pa_cons (pe_ix (ixL K) (pv 0) pe_int (fun _ _ => rfl)) (pa_cons (pe_ix (ixL K) (pv 0) pe_int (fun _ _ => rfl)) (pa_cons (pe_ix (ixL K) (pv 0) pe_int (fun _ _ => rfl)) pa_nil))) (by rfl))
      (pss_cons (ps_set (i := 4) nd rfl (by first | exact Or.inl rfl | exact Or.inr rfl) (pe_op op_cat (pe_op op_cat (pe_callTy (crList K) (by rfl) T.b_list (by decide +kernel) (pa_cons (pv 2) pa_nil)) (pe_lst (pa_cons (pe_ix (ixL K) (pv 0) pe_int (fun _ _ => rfl)) pa_nil))) (pe_lc (own := [("state", 5)]) (g := gName 5) (tt := tYes) rfl nd (RT.pi_revA (by rfl) T.b_reversed (pv 3)) (blkOk_by (N := ["one", "ledger", "past", "later", "states", "state", "at", "k"]) (sc := defScope s_law_back_and_forth) (own := [("state", 5)]) (by decide +kernel)) (fun _ _ _ _ _ => (pg_name (i := 5) nd rfl (by first | exact Or.inl rfl | exact Or.inr rfl))) (fun _ _ _ _ _ => pts_nil) (fun _ _ _ _ _ => (pv 5)))))
      (pss_cons (ps_set (i := 6) nd rfl (by first | exact Or.inl rfl | exact Or.inr rfl) (pe_callB (crLen K) (by rfl) T.b_len (by decide +kernel) (pa_cons (pv 2) pa_nil)))
      (pss_cons (ps_while PassesOwn.never (pt_cmpR op_gt (pv 6) pe_int (nomark _))
        (pss_cons (ps_aug (i := 6) nd rfl (by first | exact Or.inl rfl | exact Or.inr rfl) pe_int ip_sub)
        (pss_one (ps_if (PW.pt (pw_or (pt_cmpR op_notBl (pe_mt0 c_Ledger_undo hr (by decide) (pv 1) ) pe_bl (nomark _)) (pw_or1 (pt_not (pt_val (pe_c c_law_stands hr (by decide) (by rfl) (pa_cons (pv 1) (pa_cons (pe_ix (ixL K) (pv 4) (pv 6) (fun _ _ => rfl)) pa_nil))))))))
          (pss_one (ps_ret pe_bl))
          pss_nil))))
      (pss_cons (ps_if (PW.pt (pw_or (pt_cmpR op_notBl (pe_mt0 c_Ledger_undo hr (by decide) (pv 1) ) pe_bl (nomark _)) (pw_or1 (pt_not (pt_val (pe_c c_law_stands hr (by decide) (by rfl) (pa_cons (pv 1) (pa_cons (pe_ix (ixL K) (pv 4) pe_int (fun _ _ => rfl)) pa_nil))))))))
        (pss_one (ps_ret pe_bl))
        pss_nil)
      (pss_cons (ps_for PassesOwn.never rfl (pi_range2 (by rfl) T.b_range (pa_cons pe_int (pa_cons (pe_callB (crLen K) (by rfl) T.b_len (by decide +kernel) (pa_cons (pv 4) pa_nil)) pa_nil))) (pg_name (i := 7) nd rfl (by first | exact Or.inl rfl | exact Or.inr rfl))
        (pss_one (ps_if (PW.pt (pw_or (pt_cmpR op_notBl (pe_mt0 c_Ledger_redo hr (by decide) (pv 1) ) pe_bl (nomark _)) (pw_or1 (pt_not (pt_val (pe_c c_law_stands hr (by decide) (by rfl) (pa_cons (pv 1) (pa_cons (pe_ix (ixL K) (pv 4) (pv 7) (fun _ _ => rfl)) pa_nil))))))))
          (pss_one (ps_ret pe_bl))
          pss_nil)))
      (pss_one (ps_ret (pe_and (pe_cmpR op_isBl (pe_mt0 c_Ledger_redo hr (by decide) (pv 1) ) pe_bl (nomark _)) (pe_one (pe_c c_law_stands hr (by decide) (by rfl) (pa_cons (pv 1) (pa_cons (pe_ix (ixL K) (pv 4) (pe_op op_subNN (pe_callB (crLen K) (by rfl) T.b_len (by decide +kernel) (pa_cons (pv 4) pa_nil)) pe_int) (fun _ _ => rfl)) pa_nil))))))))))))), ?_⟩
    obtain ⟨y, ys, zs, ho, hpa, hla, hy, hys, hzs⟩ := S0.hs.ex
    obtain ⟨yl, _⟩ := paired_at hys
    obtain ⟨zl, _⟩ := paired_at hzs
    have hpn := S0.pn
    refine ⟨_, rfl, o, _, (0 : Int), .ref a, rfl, rfl, SqL.of ho, rfl, _, rfl, o, _, (1 : Int), .ref pa, rfl, rfl, SqL.of ho, rfl, _, rfl, o, _, (3 : Int), .ref la, rfl, rfl, SqL.of ho, rfl, _, _, _, rfl, ?_⟩
    -- all states
    refine ⟨_, rfl, pa, ys, rfl, .inl (SqL.of hpa), fun t1 ht1 => ?_⟩
    obtain ⟨H1, e1, s1, g1⟩ := al (o := .lst ys) ht1
    rw [e1]
    clear e1
    refine ⟨_, rfl, o, _, (2 : Int), y, rfl, rfl, SqL.of (s1 _ _ ho), rfl, by show 1 ≤ sizeLine; decide, fun t2 ht2 => ?_⟩
    obtain ⟨H2, e2, s2, g2⟩ := al (o := .lst [y]) ht2
    rw [e2]
    clear e2
    refine ⟨t1, t2, ys, [y], rfl, rfl, s2 _ _ g1, g2, Nat.le_trans (show ys.length + 1 ≤ 100 by omega) (by decide), fun t3 ht3 => ?_⟩
    obtain ⟨H3, e3, s3, g3⟩ := al (o := .lst (ys ++ [y])) ht3
    rw [e3]
    clear e3
    have s03 := (s1.trans s2).trans s3
    have hla3 := s03 _ _ hla
    refine ⟨_, rfl, la, zs, rfl, .inl ⟨SqL.of hla3, fun W hW => lc_revLT (SqL.of hla3) (sel := fun _ => true) (P := fun i y _ => y = zs.getD (zs.length - 1 - i) .non) ⟨fun _ _ _ _ _ h => h, fun i H2 _ _ R r => r H2 (Same.refl H2), fun i H2 hi _ sm R r => ?_⟩ hW (lt_line (by omega)) (fun H4 bs sm4 hd _ pb => ?_)⟩⟩
    · exact ⟨_, rfl, r _ H2 (Same.refl H2) rfl⟩
    rw [filter_yes] at pb
    have eb : bs = zs.reverse := by
      rw [paired_map_eq pb]
      exact range_rev zs .non
    subst eb
    refine ⟨t3, W, ys ++ [y], zs.reverse, rfl, rfl, sm4 _ _ g3, hd, Nat.le_trans (show (ys ++ [y]).length + zs.reverse.length ≤ 100 by rw [List.length_append, List.length_reverse]; show ys.length + 1 + zs.length ≤ 100; omega) (by decide), fun t5 ht5 => ?_⟩
    obtain ⟨H5, e5, s5, g5⟩ := al (o := .lst ((ys ++ [y]) ++ zs.reverse)) ht5
    rw [e5]
    clear e5
    have s05 := (s03.trans sm4).trans s5
    have t50 : H t5 = none := (s03.trans sm4).free ht5
    clear s5 sm4 s03 hd pb hW hla3 s3 g3 ht3 s2 g2 ht2 s1 g1 ht1
    have S5 := S0.grow s05
    have bkf : Paired (BkF K F H5) ((ys ++ [y]) ++ zs.reverse) ((past ++ [cur]) ++ later.reverse) := by
      have ch : ∀ {y : V} {b : Bk}, BkF K F H y b → BkF K F H5 y b := fun h => h.chg (Same.imm s05) (fun x u _ q => s05 _ _ q) fun _ f => f
      exact paired_append (paired_snoc (Paired.mapP hys fun _ _ q => ch q) (ch hy)) (paired_rev (Paired.mapP hzs fun _ _ q => ch q))
    have good : ∀ q ∈ (past ++ [cur]) ++ later.reverse, Good N i q := fun q hq => by
      rcases List.mem_append.mp hq with z | z
      · rcases List.mem_append.mp z with z | z
        · exact S0.gp q z
        · rw [List.mem_singleton.mp z]; exact S0.g
      · exact S0.gl q (List.mem_reverse.mp z)
    have hL5 := S5.lg
    have len : ((past ++ [cur]) ++ later.reverse).length = past.length + 1 + later.length := by rw [List.length_append, List.length_append, List.length_reverse]; rfl
    have at0 : ((past ++ [cur]) ++ later.reverse)[past.length]? = some cur := by
      rw [List.getElem?_append_left (by rw [List.length_append]; exact Nat.lt_succ_self _), List.getElem?_append_right (Nat.le_refl _), Nat.sub_self]
      rfl
    have tk0 : ((past ++ [cur]) ++ later.reverse).take past.length = past := by rw [List.append_assoc, List.take_left]
    have dr0 : (((past ++ [cur]) ++ later.reverse).drop (past.length + 1)).reverse = later := by
      have : past.length + 1 = (past ++ [cur]).length := by rw [List.length_append]; rfl
      rw [this, List.drop_left, List.reverse_reverse]
    revert bkf good len at0 tk0 dr0 g5
    generalize (past ++ [cur]) ++ later.reverse = L
    generalize (ys ++ [y]) ++ zs.reverse = SV
    intro g5 bkf good len at0 tk0 dr0
    obtain ⟨svl, sva⟩ := paired_at bkf
    have W0 : Wk K Z.Table Z.Lot Z.State Z.Ledger H5 a pl ll L past.length H5 := ⟨⟨cur, at0, by rw [tk0, dr0]; exact hL5⟩, Imm.refl H5, fun _ _ h _ _ _ => h⟩
    have nt5 : t5 ≠ a ∧ t5 ≠ pl ∧ t5 ≠ ll := ⟨fun z => S0.there (.inr (.inr (.inr (.inr (.inr (.inl rfl)))))) (z ▸ t50), fun z => S0.there (.inr (.inr (.inr (.inr (.inr (.inr (.inl rfl))))))) (z ▸ t50), fun z => S0.there (.inr (.inr (.inr (.inr (.inr (.inr (.inr rfl))))))) (z ▸ t50)⟩
    have tb : ∀ {q q' : Bk}, q ∈ L → q' ∈ L → q.tbs.length = q'.tbs.length := fun h h' => (good _ h).tb.trans (good _ h').tb.symm
    have getB : ∀ {j : Nat}, j < L.length → ∃ b, L[j]? = some b ∧ b ∈ L := fun {j} h => ⟨L[j], List.getElem?_eq_getElem h, List.getElem_mem h⟩
    -- a book at its place
    have bkAt : ∀ {j : Nat} {b : Bk} {H' : Hp}, Wk K Z.Table Z.Lot Z.State Z.Ledger H5 a pl ll L j H' → ∀ {m : Nat}, L[m]? = some b → H' t5 = some (.lst SV) ∧ ∃ p tl rl, SV[m]? = some (.ref p) ∧ BkAt K H' p tl rl b := fun {j b H'} w {m} hb => by
      refine ⟨w.kp _ _ g5 nt5.1 nt5.2.1 nt5.2.2, ?_⟩
      have hm : m < SV.length := by
        obtain ⟨hl, _⟩ := List.getElem?_eq_some_iff.mp hb
        omega
      obtain ⟨b2, hb2, p, tl, rl, e, hB, f1, f2, f3⟩ := sva m _ (List.getElem?_eq_getElem hm)
      rw [hb] at hb2
      cases hb2
      have nf : ∀ x, F x → x ≠ a ∧ x ≠ pl ∧ x ≠ ll := fun x f => ⟨fun z => S0.nf x (.inr (.inr (.inr (.inr (.inr (.inl z)))))) f, fun z => S0.nf x (.inr (.inr (.inr (.inr (.inr (.inr (.inl z))))))) f, fun z => S0.nf x (.inr (.inr (.inr (.inr (.inr (.inr (.inr z))))))) f⟩
      refine ⟨p, tl, rl, by rw [List.getElem?_eq_getElem hm, e], hB.chg w.im fun x u hx q => ?_⟩
      have hf : F x := by rcases hx with z | z | z <;> rw [z] <;> assumption
      exact w.kp x u q (nf x hf).1 (nf x hf).2.1 (nf x hf).2.2
    have kEnd : ∀ {j : Nat} {H' : Hp}, Wk K Z.Table Z.Lot Z.State Z.Ledger H5 a pl ll L j H' → Q (.bl true) H' := fun {j H'} w => k H' ((Same.imm s05).trans w.im) fun x u h n1 n2 n3 => w.kp x u (s05 _ _ h) n1 n2 n3
    have hpa5 := s05 _ _ hpa
    clear hL5 S5 at0 tk0 dr0 bkf sva ho hpa hla hy hys hzs
    -- back
    refine ⟨_, rfl, pa, ys, rfl, .inl (SqL.of hpa5), ?_⟩
    refine ⟨fun m σ' H' => ∃ j : Nat, σ' = [some (.ref o), some (.ref a), some (.ref pa), some (.ref la), some (.ref t5), none, some (nV j), none] ∧ m = j ∧ j ≤ past.length ∧ Wk K Z.Table Z.Lot Z.State Z.Ledger H5 a pl ll L j H', ⟨_, past.length, by rw [← yl]; rfl, rfl, Nat.le_refl _, W0⟩, ?_⟩
    rintro m σ' H6 ⟨j, rfl, rfl, hj, w6⟩
    refine ⟨_, rfl, m, 0, rfl, rfl, _, rfl, ite2 (fun h => ⟨_, fun _ _ n => n, ?_⟩) (fun h => ?_)⟩
    · obtain ⟨j, rfl⟩ : ∃ j, m = j + 1 := ⟨m - 1, by
        have := of_decide_eq_true h
        omega⟩
      obtain ⟨b, hb, hG⟩ := w6.lg
      have hlen : j + 1 < L.length := by omega
      obtain ⟨c1, hc1, mc1⟩ := getB (show j < L.length by omega)
      have mb := List.mem_of_getElem? hb
      obtain ⟨dx6, _, _, _, ha6, _⟩ := id hG
      refine ⟨_, rfl, _, _, rfl, rfl, ?_⟩
      dsimp only
      have ej : (((j + 1 : Nat) : Int) - 1) = (j : Int) := by omega
      rw [ej]
      refine ⟨_, rfl, a, dx6, _, rfl, ha6, rfl, a, pl, ll, L.take (j + 1), b, (L.drop (j + 1 + 1)).reverse, rfl, hG, ?_, fun q hq => tb (List.mem_of_mem_take hq) mb, fun e => ?_, fun ps q e H7 hG7 im7 kp7 => ?_⟩
      · rw [List.length_reverse, List.length_drop]; omega
      · have := congrArg List.length e
        rw [List.length_take] at this
        have z : ([] : List Bk).length = 0 := rfl
        omega
      rw [wk_take hc1] at e
      obtain ⟨e1, e2⟩ := List.append_inj' e rfl
      cases e2
      subst e1
      have w7 := w6.back hc1 hb hG7 im7 kp7
      obtain ⟨g7, p, tl, rl, hp, hB⟩ := bkAt w7 hc1
      refine ⟨true, true, rfl, rfl, false, rfl, iteF ?_⟩
      refine ⟨_, rfl, _, rfl, _, rfl, t5, SV, (j : Int), .ref p, rfl, rfl, SqL.of g7, atI_nat hp, a, pl, ll, p, tl, rl, L.take j, c1, _, rfl, hG7, hB, (good _ mc1).ok, fun H8 s8 => ⟨true, rfl, iteF ⟨j, Nat.lt_succ_self j, j, rfl, rfl, by omega, w7.grow s8⟩⟩⟩
    have m0 : m = 0 := by
      apply Classical.byContradiction
      intro z
      exact h (decide_eq_true (by show (0 : Int) < (m : Int); omega))
    subst m0
    -- no further back
    have hL0 : 0 < L.length := by omega
    obtain ⟨b0', hb0, hG0⟩ := w6.lg
    have mb0 := List.mem_of_getElem? hb0
    obtain ⟨dx6, _, _, _, ha6, _⟩ := id hG0
    refine ⟨_, rfl, a, dx6, _, rfl, ha6, rfl, a, pl, ll, L.take 0, b0', (L.drop (0 + 1)).reverse, rfl, hG0, by rw [List.length_reverse, List.length_drop]; omega, fun q hq => (nomatch hq), fun _ => ?_, fun ps q e => absurd (congrArg List.length e) (by rw [List.take_zero, List.length_append]; intro z; cases z)⟩
    obtain ⟨g6, p0, tl0, rl0, hp0, hB0⟩ := bkAt w6 hb0
    refine ⟨false, false, rfl, rfl, false, rfl, iteF ?_⟩
    refine ⟨_, rfl, _, rfl, t5, SV, (0 : Int), .ref p0, rfl, rfl, SqL.of g6, atI_nat (j := 0) hp0, a, pl, ll, p0, tl0, rl0, L.take 0, b0', _, rfl, hG0, hB0, (good _ mb0).ok, fun H7 s7 => ⟨true, rfl, iteF ?_⟩⟩
    have w7 := w6.grow s7
    clear w6 hG0 ha6 g6 hB0 hp0 s7
    have g7 := w7.kp _ _ g5 nt5.1 nt5.2.1 nt5.2.2
    refine ⟨_, rfl, t5, SV, rfl, .inl (SqL.of g7), ?_⟩
    refine ⟨(1 : Int), (SV.length : Int), rfl, ⟨by decide, by decide, by omega, by omega⟩, ?_⟩
    have e1 : ((SV.length : Int) - 1).toNat = L.length - 1 := by omega
    rw [e1]
    refine for_range (lo := 1) (n := L.length - 1) (fun i σ' H' => ∃ c7 : Option V, σ' = [some (.ref o), some (.ref a), some (.ref pa), some (.ref la), some (.ref t5), none, some (nV 0), c7] ∧ Wk K Z.Table Z.Lot Z.State Z.Ledger H5 a pl ll L i H') ⟨none, rfl, w7⟩ ?_ ?_
    · clear w7
      rintro i σ' H8 hi ⟨c7, rfl, w8⟩
      obtain ⟨b, hb, hG⟩ := w8.lg
      have mb := List.mem_of_getElem? hb
      obtain ⟨c1, hc1, mc1⟩ := getB (show i + 1 < L.length by omega)
      obtain ⟨dx8, _, _, _, ha8, _⟩ := id hG
      refine ⟨_, rfl, a, dx8, _, rfl, ha8, rfl, a, pl, ll, L.take i, b, (L.drop (i + 1)).reverse, rfl, hG, ?_, fun q hq => tb (List.mem_of_mem_drop (List.mem_reverse.mp hq)) mb, fun e => ?_, fun ls q e H9 hG9 im9 kp9 => ?_⟩
      · rw [List.length_take]; omega
      · have := congrArg List.length e
        rw [List.length_reverse, List.length_drop] at this
        have z : ([] : List Bk).length = 0 := rfl
        omega
      rw [wk_drop hc1] at e
      obtain ⟨e1, e2⟩ := List.append_inj' e rfl
      cases e2
      subst e1
      have w9 := w8.forth hb hc1 hG9 im9 kp9
      obtain ⟨g9, p, tl, rl, hp, hB⟩ := bkAt w9 hc1
      refine ⟨true, true, rfl, rfl, false, rfl, iteF ?_⟩
      have ei : (1 + (i : Int)) = ((i + 1 : Nat) : Int) := by omega
      rw [ei]
      exact ⟨_, rfl, _, rfl, _, rfl, t5, SV, ((i + 1 : Nat) : Int), .ref p, rfl, rfl, SqL.of g9, atI_nat hp, a, pl, ll, p, tl, rl, L.take i ++ [b], c1, _, rfl, hG9, hB, (good _ mc1).ok, fun HA sA => ⟨true, rfl, iteF ⟨_, rfl, w9.grow sA⟩⟩⟩
    · clear w7
      rintro σ' H8 ⟨c7, rfl, w8⟩
      obtain ⟨b, hb, hG⟩ := w8.lg
      have mb := List.mem_of_getElem? hb
      obtain ⟨dx8, _, _, _, ha8, _⟩ := id hG
      have dn : L.drop (L.length - 1 + 1) = [] := List.drop_eq_nil_of_le (by omega)
      refine ⟨_, rfl, a, dx8, _, rfl, ha8, rfl, a, pl, ll, L.take (L.length - 1), b, (L.drop (L.length - 1 + 1)).reverse, rfl, hG, by rw [List.length_take]; omega, fun q hq => (by rw [dn] at hq; cases hq), fun _ => ?_, fun ls q e => absurd (congrArg List.length e) (by rw [dn, List.length_append]; intro z; cases z)⟩
      obtain ⟨g8, p, tl, rl, hp, hB⟩ := bkAt w8 hb
      refine ⟨false, false, rfl, rfl, true, rfl, ite2 (fun _ => ?_) (fun h => absurd rfl h)⟩
      refine ⟨_, rfl, _, rfl, _, rfl, t5, SV, rfl, .inl (SqL.of g8), SV.length, 1, rfl, rfl, by omega, ?_⟩
      have ex : SV.length - 1 = L.length - 1 := by omega
      refine ⟨t5, SV, ((SV.length - 1 : Nat) : Int), .ref p, rfl, rfl, SqL.of g8, by rw [ex]; exact atI_nat hp, a, pl, ll, p, tl, rl, L.take (L.length - 1), b, _, rfl, hG, hB, (good _ mb).ok, fun HA sA => kEnd (w8.grow sA)⟩
end
end L2.KK
namespace L2.KK
open PySem PySem.Spec PyProof.Rows C8
theorem sc_law : FnScope ["script", "d", "tables", "ledger", "table", "one", "k", "twin", "two"] ["script"] (defScope s_law) := ⟨rfl, rfl, rfl, by decide +kernel, rfl, by decide +kernel, by decide +kernel⟩
section
variable {K : PySem.W.Frag} {CT CL CS CG : Addr} {H H' : Hp} {d c : Addr} {F F' : Addr → Prop} {o pa la a pl ll o2 pa2 la2 a2 pl2 ll2 la' ll' : Addr} {past later past2 later2 past' later' : List Bk} {cur cur2 cur' : Bk} {N i i2 : Nat}
/-- two sides apart -/
structure Two (o pa la a pl ll o2 pa2 la2 a2 pl2 ll2 : Addr) : Prop where
  ne : ∀ x ∈ [o2, pa2, la2, a2, pl2, ll2], x ∉ [a, pl, ll, o, pa, la]
theorem Two.swap (t : Two o pa la a pl ll o2 pa2 la2 a2 pl2 ll2) : Two o2 pa2 la2 a2 pl2 ll2 o pa la a pl ll := ⟨fun x hx h => by
  have h2 : x ∈ [o2, pa2, la2, a2, pl2, ll2] := by
    simp only [List.mem_cons, List.not_mem_nil, or_false] at h ⊢
    rcases h with z | z | z | z | z | z
    · exact .inr (.inr (.inr (.inl z)))
    · exact .inr (.inr (.inr (.inr (.inl z))))
    · exact .inr (.inr (.inr (.inr (.inr z))))
    · exact .inl z
    · exact .inr (.inl z)
    · exact .inr (.inr (.inl z))
  refine t.ne x h2 ?_
  simp only [List.mem_cons, List.not_mem_nil, or_false] at hx ⊢
  rcases hx with z | z | z | z | z | z
  · exact .inr (.inr (.inr (.inl z)))
  · exact .inr (.inr (.inr (.inr (.inl z))))
  · exact .inr (.inr (.inr (.inr (.inr z))))
  · exact .inl z
  · exact .inr (.inl z)
  · exact .inr (.inr (.inl z))⟩
theorem Sd.mem6 {x : Addr} (h : x ∈ [o2, pa2, la2, a2, pl2, ll2]) : x = o2 ∨ x = pa2 ∨ x = la2 ∨ x = a2 ∨ x = pl2 ∨ x = ll2 := by
  simpa only [List.mem_cons, List.not_mem_nil, or_false] using h
/-- the other side stands, whatever a step changes -/
theorem Sd.other (S2 : Sd K CT CL CS CG d c F o2 pa2 la2 a2 pl2 ll2 past2 cur2 later2 N i H) (t : Two o pa la a pl ll o2 pa2 la2 a2 pl2 ll2) (S1 : Sd K CT CL CS CG d c F o pa la a pl ll past cur later N i H)
    (s : Stp K CT CL CS CG d c F o pa la a pl ll N (i + 1) H F' la' ll' past' cur' later' H') : Sd K CT CL CS CG d c F' o2 pa2 la2 a2 pl2 ll2 past2 cur2 later2 N (i + 1) H' ∧ Two o pa la' a pl ll' o2 pa2 la2 a2 pl2 ll2 := by
  have A2 := S2.apart
  have thr : ∀ {x}, x ∈ [o2, pa2, la2, a2, pl2, ll2] → H x ≠ none := fun {x} h => S2.there (.inr (.inr (Sd.mem6 h)))
  refine ⟨(S2.up).chg s.im s.sd.dr (fun x u hx q => s.kp x u q fun m => ?_) s.ff s.fn s.sd.fx, ⟨fun x hx m => ?_⟩⟩
  · have hx2 : x ∈ [o2, pa2, la2, a2, pl2, ll2] ∨ F x := by
      simp only [List.mem_cons, List.not_mem_nil, or_false]
      rcases hx with z | z | z | z | z | z | z
      · exact .inl (.inl z)
      · exact .inl (.inr (.inl z))
      · exact .inl (.inr (.inr (.inl z)))
      · exact .inl (.inr (.inr (.inr (.inl z))))
      · exact .inl (.inr (.inr (.inr (.inr (.inl z)))))
      · exact .inl (.inr (.inr (.inr (.inr (.inr z)))))
      · exact .inr z
    rcases List.mem_cons.mp m with z | m
    · subst z
      rcases hx with z | z | z | z | z | z | z
      · exact A2.do_ z
      · exact A2.dpa z
      · exact A2.dla z
      · exact A2.da z
      · exact A2.dpl z
      · exact A2.dll z
      · exact S2.nf _ (.inl rfl) z
    · rcases hx2 with h | h
      · exact t.ne x h m
      · refine S1.nf x ?_ h
        simp only [List.mem_cons, List.not_mem_nil, or_false] at m
        rcases m with z | z | z | z | z | z
        · exact .inr (.inr (.inr (.inr (.inr (.inl z)))))
        · exact .inr (.inr (.inr (.inr (.inr (.inr (.inl z))))))
        · exact .inr (.inr (.inr (.inr (.inr (.inr (.inr z))))))
        · exact .inr (.inr (.inl z))
        · exact .inr (.inr (.inr (.inl z)))
        · exact .inr (.inr (.inr (.inr (.inl z))))
  · have tn := t.ne x hx
    simp only [List.mem_cons, List.not_mem_nil, or_false, not_or] at m tn
    obtain ⟨n1, n2, n3, n4, n5, n6⟩ := tn
    rcases m with z | z | z | z | z | z
    · exact n1 z
    · exact n2 z
    · rcases s.hll with e | e
      · exact n3 (z.trans e)
      · exact thr hx (z ▸ e)
    · exact n4 z
    · exact n5 z
    · rcases s.hla with e | e
      · exact n6 (z.trans e)
      · exact thr hx (z ▸ e)
theorem Sd.bk (S : Sd K CT CL CS CG d c F o pa la a pl ll past cur later N i H) : ∃ p tl rl, H o = some (.lst [.ref a, .ref pa, .ref p, .ref la]) ∧ BkAt K H p tl rl cur := by
  obtain ⟨y, ys, zs, h1, _, _, ⟨p, tl, rl, rfl, hB, _⟩, _⟩ := S.hs.ex
  exact ⟨p, tl, rl, h1, hB⟩
end
section
variable {P : Program} {w : World} {K : PySem.W.Frag} {mg : Str → Option Value} {base : Heap}
def spLaw (K : PySem.W.Frag) : Sp := fun vs H Q _ => ∃ (a : Addr) (ns : List Int), vs = [.ref a] ∧ SqL K H a (ns.map V.int) ∧ ns.length ≤ 63 ∧ ∀ H', Q (.bl true) H'
theorem ok_law {f : Addr} {fd : FuncData} (F : FnP K "law" "law" s_law f fd) (Z : Ev K mg) (T : Bl mg) (c_law_begin : Cal P w K mg base 1 "_law_begin" (spBegin K) []) (c_law_draw : Cal P w K mg base 1 "_law_draw" spDraw []) (c_law_pick : Cal P w K mg base 2 "_law_pick" spPick [])
    (c_law_any_lot : Cal P w K mg base 9 "_law_any_lot" (spLot0 K) []) (c_Table : Mak P w K mg base 3 "Table" Z.Table (spTab K Z.Table) []) (c_Lot : Mak P w K mg base 6 "Lot" Z.Lot (spLot K Z.Table Z.Lot) [])
    (c_Ledger : MakY P w K mg base 3 "Ledger" Z.Ledger (spLgI K Z.Table Z.Lot Z.State Z.Ledger Z.BadDeed)) (c_law_book_new : Cal P w K mg base 1 "_law_book_new" (spBNew K) []) (c_law_stands : Cal P w K mg base 8 "_law_stands" (spStands K Z.Table Z.Lot Z.State Z.Ledger) [])
    (c_law_step : Cal P w K mg base 12 "_law_step" (spStep K Z.Table Z.Lot Z.State Z.Ledger) []) (c_Ledger_twin : Met P w K mg base 5 Z.Ledger "twin" (spTwin K Z.Table Z.Lot Z.State Z.Ledger) []) (c_law_back_and_forth : Cal P w K mg base 9 "_law_back_and_forth" (spBF K Z.Table Z.Lot Z.State Z.Ledger) []) :
    FnOk P w K mg base CX0 13 f fd ["script"] (spLaw K) := by
  refine okOf F sc_law (fun vs H Q E h => ?_) (fun f cdv A outer s H vs Q E hr h => ?_)
  · obtain ⟨a, ns, rfl, _⟩ := h
    rfl
  · obtain ⟨sc, ns, rfl, hS, hl, k⟩ := h
    replace c_Ledger := c_Ledger.calm
    have nd := sc_law.nd
    have hu := hr.units
    refine ⟨_, (pss_cons (ps_set (i := 1) nd rfl (by first | exact Or.inl rfl | exact Or.inr rfl) (pe_c c_law_begin hr (by decide) (by rfl) (pa_cons (pv 0) pa_nil)))
      (pss_cons (ps_set (i := 2) nd rfl (by first | exact Or.inl rfl | exact Or.inr rfl) (pe_c c_law_any_lot hr (by decide) (by rfl) (pa_cons (pv 1) pa_nil)))
      (pss_cons (ps_set (i := 3) nd rfl (by first | exact Or.inl rfl | exact Or.inr rfl) (pe_mk c_Ledger hr (by decide) (by rfl) (pa_cons (pe_mk c_Lot hr (by decide) (by rfl) (pa_cons (pe_callTy (crTup K) (by rfl) T.b_tuple (by decide +kernel) (pa_cons (pe_lc (own := [("table", 4)]) (g := gName 4) (tt := tYes) rfl nd (piList K (pv 2)) (blkOk_by (N := ["script", "d", "tables", "ledger", "table", "one", "k", "twin", "two"]) (sc := defScope s_law) (own := [("table", 4)]) (by decide +kernel)) (fun _ _ _ _ _ => (pg_name (i := 4) nd rfl (by first | exact Or.inl rfl | exact Or.inr rfl))) (fun _ _ _ _ _ => pts_nil) (fun _ _ _ _ _ => (pe_mk c_Table hr (by decide) (by rfl) (pa_cons (pe_ix (ixT K) (pv 4) pe_int (fun _ _ => rfl)) (pa_cons (pe_ix (ixT K) (pv 4) pe_int (fun _ _ => rfl)) pa_nil))))) pa_nil)) pa_nil)) pa_nil)))
      (pss_cons (ps_set (i := 5) nd rfl (by first | exact Or.inl rfl | exact Or.inr rfl) (pe_lst (pa_cons (pv 3) (pa_cons (pe_lst pa_nil) (pa_cons (pe_c c_law_book_new hr (by decide) (by rfl) (pa_cons (pv 2) pa_nil)) (pa_cons (pe_lst pa_nil) pa_nil))))))
      (pss_cons (ps_for PassesOwn.never rfl (pi_range1 (by rfl) T.b_range (pa_cons (pe_op op_addNN pe_int (pe_c c_law_draw hr (by decide) (by rfl) (pa_cons (pv 1) (pa_cons pe_int pa_nil)))) pa_nil)) (pg_name (i := 6) nd rfl (by first | exact Or.inl rfl | exact Or.inr rfl))
        (pss_one (ps_if (pt_not (pt_val (pe_c c_law_step hr (by decide) (by rfl) (pa_cons (pv 1) (pa_cons (pv 5) pa_nil)))))
          (pss_one (ps_ret pe_bl))
          pss_nil)))
      (pss_cons (ps_set (i := 7) nd rfl (by first | exact Or.inl rfl | exact Or.inr rfl) (pe_mt0 c_Ledger_twin hr (by decide) (pv 3) ))
      (pss_cons (ps_set (i := 8) nd rfl (by first | exact Or.inl rfl | exact Or.inr rfl) (pe_lst (pa_cons (pv 7) (pa_cons (pe_callTy (crList K) (by rfl) T.b_list (by decide +kernel) (pa_cons (pe_ix (ixL K) (pv 5) pe_int (fun _ _ => rfl)) pa_nil)) (pa_cons (pe_ix (ixL K) (pv 5) pe_int (fun _ _ => rfl)) (pa_cons (pe_callTy (crList K) (by rfl) T.b_list (by decide +kernel) (pa_cons (pe_ix (ixL K) (pv 5) pe_int (fun _ _ => rfl)) pa_nil)) pa_nil))))))
      (pss_cons (ps_if (pt_not (pt_val (pe_c c_law_stands hr (by decide) (by rfl) (pa_cons (pv 7) (pa_cons (pe_ix (ixL K) (pv 8) pe_int (fun _ _ => rfl)) pa_nil)))))
        (pss_one (ps_ret pe_bl))
        pss_nil)
      (pss_cons (ps_for PassesOwn.never rfl (pi_range1 (by rfl) T.b_range (pa_cons (pe_op op_addNN pe_int (pe_c c_law_draw hr (by decide) (by rfl) (pa_cons (pv 1) (pa_cons pe_int pa_nil)))) pa_nil)) (pg_name (i := 6) nd rfl (by first | exact Or.inl rfl | exact Or.inr rfl))
        (pss_cut (ps_if (pt_not (pt_val (pe_c c_law_step hr (by decide) (by rfl) (pa_cons (pv 1) (pa_cons (pe_c c_law_pick hr (by decide) (by rfl) (pa_cons (pv 1) (pa_cons (pe_lst (pa_cons (pv 5) (pa_cons (pv 8) pa_nil))) pa_nil))) pa_nil)))))
          (pss_one (ps_ret pe_bl))
          pss_nil)
        (pss_one (ps_if (PW.pt (pw_or (pt_not (pt_val (pe_c c_law_stands hr (by decide) (by rfl) (pa_cons (pv 3) (pa_cons (pe_ix (ixL K) (pv 5) pe_int (fun _ _ => rfl)) pa_nil))))) (pw_or1 (pt_not (pt_val (pe_c c_law_stands hr (by decide) (by rfl) (pa_cons (pv 7) (pa_cons (pe_ix (ixL K) (pv 8) pe_int (fun _ _ => rfl)) pa_nil))))))))
          (pss_one (ps_ret pe_bl))
          pss_nil))))
      (pss_one (ps_ret (pe_and (pe_c c_law_back_and_forth hr (by decide) (by rfl) (pa_cons (pv 5) pa_nil)) (pe_one (pe_c c_law_back_and_forth hr (by decide) (by rfl) (pa_cons (pv 8) pa_nil))))))))))))))), ?_⟩
    refine ⟨_, rfl, sc, ns, rfl, hS, hl, fun d c H2 sm1 hd0 hc0 D2 => ?_⟩
    -- the tables
    refine ⟨_, rfl, d, c, rfl, D2, fun t0 tbs H3 ht0 hT3 l1 l4 tok D3 kp3 => ?_⟩
    have nt0 := (D2.ne ht0).1
    obtain ⟨ys0, hy3, _⟩ := id hT3
    have hT7 := hT3
    have D7 := D3
    clear hT3 D3 kp3 ht0
    obtain ⟨ys, hT, pr⟩ := id hT7
    obtain ⟨yl, ya⟩ := paired_at pr
    -- the lot
    refine ⟨_, rfl, t0, rfl, ⟨_, SqL.of hT⟩, fun W hW => lc_listT (SqL.of hT) (sel := fun _ => true) (P := fun i y H => TabR K Z.Table H y (tbs.getD i (0, []))) ⟨fun _ _ _ _ sm h => h.imm (SameT.imm sm), fun i H2 _ _ R r => r H2 (Same.refl H2), fun i H2 hi _ sm R r => ?_⟩ hW (lt_line (by omega)) (fun H8 bs sm2 hd _ pb => ?_)⟩
    · have hy : ys[i]? = some ys[i] := List.getElem?_eq_getElem hi
      obtain ⟨t, ht, p2, q2, ep, h2, h3⟩ := ya i _ hy
      have o := tok t (List.mem_of_getElem? ht)
      have et : tbs.getD i (0, []) = t := by rw [List.getD_eq_getElem?_getD, ht]; rfl
      have eg : ys.getD i .non = .ref p2 := by rw [List.getD_eq_getElem?_getD, hy]; exact ep
      refine ⟨_, rfl, p2, _, (0 : Int), nV t.1, eg, rfl, same_seqT sm h2, rfl, _, rfl, p2, _, (1 : Int), .ref q2, eg, rfl, same_seqT sm h2, rfl, ?_⟩
      intro x2 dx2 hx2 hdx2 ne2
      have s1 := same_new (o := .own x2) hdx2
      have hx3 : (upd H2 dx2 (.own x2)) x2 = none := by rw [upd_ne ne2.symm]; exact hx2
      have s2 : Same (upd H2 dx2 (.own x2)) (upd (upd H2 dx2 (.own x2)) x2 (.ins Z.Table dx2 [])) := same_new hx3
      refine ⟨x2, dx2, q2, t.1, t.2, rfl, upd_same, same_seqT ((sm.trans s1).trans s2) h3, o.2.1, o.2.2.1, fun o2 ho m hm => Nat.le_trans (o.2.2.2.2 o2 ho m hm) (by decide), rfl, ?_⟩
      rw [upd_upd]
      have s3 : Same (upd H2 dx2 (.own x2)) (upd (upd H2 dx2 (.own x2)) x2 (.ins Z.Table dx2 (tabF t.1 q2 t.2))) := same_new hx3
      rw [et] at r
      exact r _ _ (s1.trans s3) ⟨x2, rfl, dx2, q2, upd_same, same_seqT ((sm.trans s1).trans s3) h3⟩
    rw [filter_yes, yl] at pb
    have pb2 : Paired (TabR K Z.Table H8) bs tbs := paired_rangeD (0, []) pb
    refine ⟨W, _, rfl, .inl ⟨SqL.of hd, fun q hq => ?_⟩⟩
    have sq : Same H8 (upd H8 q (.tup bs)) := same_new hq
    intro x4 dx4 hx4 hdx4 ne4
    have s5 : Same (upd H8 q (.tup bs)) (upd (upd H8 q (.tup bs)) dx4 (.own x4)) := same_new hdx4
    have hx5 : (upd (upd H8 q (.tup bs)) dx4 (.own x4)) x4 = none := by rw [upd_ne ne4.symm]; exact hx4
    have s6 : Same (upd (upd H8 q (.tup bs)) dx4 (.own x4)) (upd (upd (upd H8 q (.tup bs)) dx4 (.own x4)) x4 (.ins Z.Lot dx4 [])) := same_new hx5
    have hq5 : SqT K (upd (upd H8 q (.tup bs)) dx4 (.own x4)) q bs := .inl (.inl (s5 _ _ upd_same))
    have pb5 : Paired (TabR K Z.Table (upd (upd H8 q (.tup bs)) dx4 (.own x4))) bs tbs := Paired.mapP pb2 fun _ _ z => z.grow (sq.trans s5)
    refine ⟨x4, dx4, q, bs, tbs, rfl, upd_same, same_seqT s6 hq5, Paired.mapP pb5 fun _ _ z => z.grow s6, l1, by omega, tok, fun sw H9 kp9 e9 => ⟨rfl, ?_⟩⟩
    have s9 : Same (upd (upd H8 q (.tup bs)) dx4 (.own x4)) H9 := fun c o hc => kp9 _ _ (s6 _ _ hc) (ne_of_none hc hx5)
    have S9 : Same H3 H9 := ((sm2.trans sq).trans s5).trans s9
    have hL9 : LtAt K Z.Table Z.Lot H9 x4 tbs := ⟨dx4, q, sw, bs, e9, same_seqT s9 hq5, Paired.mapP pb5 fun _ _ z => z.grow s9⟩
    clear s9 kp9 e9 pb5 hq5 s6 hx5 s5 sq pb2 pb hd sm2 hW hq hx4 hdx4 ne4
    -- the ledger
    intro a dxa ha hdxa nea
    have sa : Same H9 (upd H9 dxa (.own a)) := same_new hdxa
    have ha5 : (upd H9 dxa (.own a)) a = none := by rw [upd_ne nea.symm]; exact ha
    have sb : Same (upd H9 dxa (.own a)) (upd (upd H9 dxa (.own a)) a (.ins Z.Ledger dxa [])) := same_new ha5
    have D9 := D7.keep S9
    refine ⟨a, dxa, .ref x4, rfl, upd_same, .inl ⟨x4, tbs, rfl, hL9.grow (sa.trans sb), fun pl ll HA hpl hll kpA hG => ⟨rfl, ?_⟩⟩⟩
    have SA : Same H9 HA := fun z o hz => kpA _ _ (sb _ _ (sa _ _ hz)) (ne_of_none (sa _ _ hz) ha5)
    obtain ⟨npd, npc⟩ := ((D9.keep sa).keep sb).ne hpl
    obtain ⟨nld, nlc⟩ := ((D9.keep sa).keep sb).ne hll
    have DA := D9.keep SA
    have hTA := (hT7.grow S9).grow SA
    clear kpA sb ha5 sa hpl hll ha hdxa nea hL9 SA S9 D9 D7
    -- the book
    refine ⟨_, rfl, by show 0 ≤ sizeLine; decide, fun pa hpa => ?_⟩
    obtain ⟨HB, eB, sB, gpa⟩ := al (o := .lst []) hpa
    rw [eB]
    clear eB
    refine ⟨_, rfl, t0, tbs, rfl, hTA.grow sB, fun p tl rl HC hp htl hrl sC hB => ?_⟩
    refine ⟨by show 0 ≤ sizeLine; decide, fun la hla => ?_⟩
    obtain ⟨HD, eD, sD, gla⟩ := al (o := .lst []) hla
    rw [eD]
    clear eD
    refine ⟨by show 4 ≤ sizeLine; decide, fun o ho => ?_⟩
    obtain ⟨HE, eE, sE, go⟩ := al (o := .lst [.ref a, .ref pa, .ref p, .ref la]) ho
    rw [eE]
    clear eE
    have S0 : Sd K Z.Table Z.Lot Z.State Z.Ledger d c (fun x => x = p ∨ x = tl ∨ x = rl) o pa la a pl ll [] (b0 tbs) [] tbs.length 0 HE := by
      obtain ⟨dxa, _, _, _, h1, h2, _, _, h3, _, h4⟩ := id hG
      obtain ⟨_, _, _, _, e1, e2, _⟩ := DA.ex
      have ex : ∀ x, (x = d ∨ x = c ∨ x = a ∨ x = pl ∨ x = ll) → HA x ≠ none := fun x hx => by
        rcases hx with z | z | z | z | z <;> rw [z]
        · rw [e1]; exact fun z => nomatch z
        · rw [e2]; exact fun z => nomatch z
        · rw [h1]; exact fun z => nomatch z
        · rw [h2]; exact fun z => nomatch z
        · rw [h3]; exact fun z => nomatch z
      have gr : ∀ {H H' : Hp}, Same H H' → ∀ x, H x ≠ none → H' x ≠ none := fun e x h => by
        obtain ⟨u, hu⟩ := Option.ne_none_iff_exists'.mp h
        rw [e _ _ hu]
        exact fun z => nomatch z
      have exB : ∀ x, (x = d ∨ x = c ∨ x = a ∨ x = pl ∨ x = ll) ∨ x = pa → HB x ≠ none := fun x hx => by
        rcases hx with h | h
        · exact gr sB x (ex x h)
        · rw [h, gpa]; exact fun z => nomatch z
      have exP : ∀ x, (x = p ∨ x = tl ∨ x = rl) → HC x ≠ none := fun x hx => by
        obtain ⟨b1, ⟨_, b2, _⟩, ⟨_, b3, _⟩, _⟩ := hB
        rcases hx with z | z | z <;> rw [z]
        · rw [b1]; exact fun z => nomatch z
        · rw [b2]; exact fun z => nomatch z
        · rw [b3]; exact fun z => nomatch z
      have newP : ∀ x, (x = p ∨ x = tl ∨ x = rl) → HB x = none := fun x hx => by rcases hx with z | z | z <;> rw [z] <;> assumption
      have exD : ∀ x, ((x = d ∨ x = c ∨ x = a ∨ x = pl ∨ x = ll) ∨ x = pa) ∨ (x = p ∨ x = tl ∨ x = rl) ∨ x = la → HD x ≠ none := fun x hx => by
        rcases hx with h | h | h
        · exact gr sD x (gr sC x (exB x h))
        · exact gr sD x (exP x h)
        · rw [h, gla]; exact fun z => nomatch z
      have npa : ∀ x, (x = d ∨ x = c ∨ x = a ∨ x = pl ∨ x = ll) → x ≠ pa := fun x hx e => ex x hx (e ▸ hpa)
      have nla : ∀ x, ((x = d ∨ x = c ∨ x = a ∨ x = pl ∨ x = ll) ∨ x = pa) → x ≠ la := fun x hx e => gr sC x (exB x hx) (e ▸ hla)
      have no : ∀ x, (((x = d ∨ x = c ∨ x = a ∨ x = pl ∨ x = ll) ∨ x = pa) ∨ (x = p ∨ x = tl ∨ x = rl) ∨ x = la) → x ≠ o := fun x hx e => exD x hx (e ▸ ho)
      have sBE := (sC.trans sD).trans sE
      refine ⟨(DA.keep sB).keep sBE, (hG.grow sB).grow sBE, ⟨.ref p, [], [], go, sBE _ _ gpa, sE _ _ gla, ⟨p, tl, rl, rfl, (hB.grow sD).grow sE, .inl rfl, .inr (.inl rfl), .inr (.inr rfl)⟩, .nil, .nil⟩, fun x hx f => ?_, fun x f => gr sE x (exD x (.inr (.inl f))), ?_, ⟨b0_ok l1 (by omega) tok, rfl, Nat.zero_le _⟩, fun q hq => (nomatch hq), fun q hq => (nomatch hq), Nat.zero_le _⟩
      · rcases hx with z | z | z | z | z | z | z | z
        · exact exB x (.inl (.inl z)) (newP x f)
        · exact exB x (.inl (.inr (.inl z))) (newP x f)
        · exact no x (.inr (.inl f)) z
        · exact exB x (.inr z) (newP x f)
        · exact exP x f (z ▸ hla)
        · exact exB x (.inl (.inr (.inr (.inl z)))) (newP x f)
        · exact exB x (.inl (.inr (.inr (.inr (.inl z))))) (newP x f)
        · exact exB x (.inl (.inr (.inr (.inr (.inr z))))) (newP x f)
      · have q1 := npa d (.inl rfl)
        have q2 := npa c (.inr (.inl rfl))
        have q3 := npa pl (.inr (.inr (.inr (.inl rfl))))
        have q4 := npa ll (.inr (.inr (.inr (.inr rfl))))
        have q5 := nla d (.inl (.inl rfl))
        have q6 := nla c (.inl (.inr (.inl rfl)))
        have q7 := nla pl (.inl (.inr (.inr (.inr (.inl rfl)))))
        have q8 := nla ll (.inl (.inr (.inr (.inr (.inr rfl)))))
        have q9 := nla pa (.inr rfl)
        have r1 := no d (.inl (.inl (.inl rfl)))
        have r2 := no c (.inl (.inl (.inr (.inl rfl))))
        have r3 := no pl (.inl (.inl (.inr (.inr (.inr (.inl rfl))))))
        have r4 := no ll (.inl (.inl (.inr (.inr (.inr (.inr rfl))))))
        have r5 := no pa (.inl (.inr rfl))
        have r6 := no la (.inr (.inr rfl))
        simp only [List.nodup_cons, List.mem_cons, not_or, List.not_mem_nil, not_false_eq_true, List.nodup_nil, and_true]
        exact ⟨⟨DA.cd.symm, r1, q1, q5, npd.symm, nld.symm⟩, ⟨r2, q2, q6, npc.symm, nlc.symm⟩, ⟨r5.symm, r6.symm, r3.symm, r4.symm⟩, ⟨q9, q3.symm, q4.symm⟩, ⟨q7.symm, q8.symm⟩, h4⟩
    revert S0
    generalize (fun x => x = p ∨ x = tl ∨ x = rl) = F0
    intro S0
    clear go sE ho gla sD hla hB sC hrl htl hp gpa sB hpa hG hTA DA
    generalize tbs.length = N at S0
    refine ⟨_, rfl, d, c, 6, rfl, S0.dr, by decide, by decide, fun m HF hm DF kpF => ⟨2, m, rfl, rfl, _, rfl, by omega, by omega, ?_⟩⟩
    replace S0 := S0.kpd kpF DF
    clear kpF DF
    rw [Int.toNat_natCast]
    refine for_range (lo := 0) (n := 2 + m) (fun i σ' H' => ∃ (F : Addr → Prop) (la ll : Addr) (past : List Bk) (cur : Bk) (later : List Bk) (c6 : Option V), σ' = [some (.ref sc), some (.ref d), some (.ref t0), some (.ref a), none, some (.ref o), c6, none, none] ∧ Sd K Z.Table Z.Lot Z.State Z.Ledger d c F o pa la a pl ll past cur later N i H')
      ⟨F0, la, ll, [], b0 tbs, [], none, rfl, S0⟩ ?_ ?_
    · clear S0
      rintro i σ' HG hi ⟨F, la, ll, past, cur, later, c6, rfl, S⟩
      exact ⟨_, rfl, _, rfl, d, c, o, pa, la, a, pl, ll, F, past, cur, later, N, i, rfl, S, by omega, fun F' la' ll' past' cur' later' H' st => ⟨true, rfl, iteF ⟨F', la', ll', past', cur', later', _, rfl, st.sd⟩⟩⟩
    clear S0
    rintro σ' HG ⟨F, la, ll, past, cur, later, c6, rfl, S⟩
    -- the twin
    obtain ⟨dxg, _, _, _, hag, _⟩ := id S.lg
    refine ⟨_, rfl, a, dxg, _, rfl, hag, rfl, a, pl, ll, past, cur, later, rfl, S.lg, fun a2 pl2 ll2 HH ha2 hpl2 hll2 sH hG2 => ?_⟩
    have SH := S.grow sH
    obtain ⟨y, ys, zs, ho, hpa, hla, hy, hys, hzs⟩ := SH.hs.ex
    refine ⟨_, rfl, _, rfl, o, _, (1 : Int), .ref pa, rfl, rfl, SqL.of ho, rfl, pa, ys, rfl, .inl (SqL.of hpa), fun pa2 hpa2 => ?_⟩
    obtain ⟨HI, eI, sI, gpa2⟩ := al (o := .lst ys) hpa2
    rw [eI]
    clear eI
    refine ⟨_, rfl, o, _, (2 : Int), y, rfl, rfl, SqL.of (sI _ _ ho), rfl, _, rfl, o, _, (3 : Int), .ref la, rfl, rfl, SqL.of (sI _ _ ho), rfl, la, zs, rfl, .inl (SqL.of (sI _ _ hla)), fun la2 hla2 => ?_⟩
    obtain ⟨HJ, eJ, sJ, gla2⟩ := al (o := .lst zs) hla2
    rw [eJ]
    clear eJ
    refine ⟨by show 4 ≤ sizeLine; decide, fun o2 ho2 => ?_⟩
    obtain ⟨HK, eK, sK, go2⟩ := al (o := .lst [.ref a2, .ref pa2, y, .ref la2]) ho2
    rw [eK]
    clear eK
    have sHK : Same HH HK := (sI.trans sJ).trans sK
    have SK := SH.grow sHK
    have gr : ∀ {H H' : Hp}, Same H H' → ∀ x, H x ≠ none → H' x ≠ none := fun e x h => by
      obtain ⟨u, hu⟩ := Option.ne_none_iff_exists'.mp h
      rw [e _ _ hu]
      exact fun z => nomatch z
    have new6 : ∀ x ∈ [o2, pa2, la2, a2, pl2, ll2], HG x = none := fun x hx => by
      rcases Sd.mem6 hx with z | z | z | z | z | z <;> rw [z]
      · exact ((sH.trans sI).trans sJ).free ho2
      · exact sH.free hpa2
      · exact (sH.trans sI).free hla2
      · exact ha2
      · exact hpl2
      · exact hll2
    have tw : Two o pa la a pl ll o2 pa2 la2 a2 pl2 ll2 := ⟨fun x hx h => S.there (x := x) (by
      simp only [List.mem_cons, List.not_mem_nil, or_false] at h
      rcases h with z | z | z | z | z | z
      · exact .inr (.inr (.inr (.inr (.inr (.inl z)))))
      · exact .inr (.inr (.inr (.inr (.inr (.inr (.inl z))))))
      · exact .inr (.inr (.inr (.inr (.inr (.inr (.inr z))))))
      · exact .inr (.inr (.inl z))
      · exact .inr (.inr (.inr (.inl z)))
      · exact .inr (.inr (.inr (.inr (.inl z))))) (new6 x hx)⟩
    have TK : Sd K Z.Table Z.Lot Z.State Z.Ledger d c F o2 pa2 la2 a2 pl2 ll2 past cur later N (2 + m) HK := by
      obtain ⟨dxa, _, _, _, h1, h2, _, _, h3, _, h4⟩ := id hG2
      have ch : ∀ {y : V} {b : Bk}, BkF K F HH y b → BkF K F HK y b := fun h => h.chg (Same.imm sHK) (fun x u _ q => sHK _ _ q) fun _ f => f
      have ex2 : ∀ x, (x = pl2 ∨ x = ll2) → HH x ≠ none := fun x hx => by
        rcases hx with z | z <;> rw [z]
        · rw [h2]; exact fun z => nomatch z
        · rw [h3]; exact fun z => nomatch z
      have nn : ∀ x ∈ [o2, pa2, la2, a2, pl2, ll2], d ≠ x ∧ c ≠ x := fun x hx => ⟨fun e => S.there (x := x) (.inl e.symm) (new6 x hx), fun e => S.there (x := x) (.inr (.inl e.symm)) (new6 x hx)⟩
      have m1 : o2 ∈ [o2, pa2, la2, a2, pl2, ll2] := List.mem_cons_self
      have m2 : pa2 ∈ [o2, pa2, la2, a2, pl2, ll2] := List.mem_cons_of_mem _ List.mem_cons_self
      have m3 : la2 ∈ [o2, pa2, la2, a2, pl2, ll2] := List.mem_cons_of_mem _ (List.mem_cons_of_mem _ List.mem_cons_self)
      have m4 : a2 ∈ [o2, pa2, la2, a2, pl2, ll2] := List.mem_cons_of_mem _ (List.mem_cons_of_mem _ (List.mem_cons_of_mem _ List.mem_cons_self))
      have m5 : pl2 ∈ [o2, pa2, la2, a2, pl2, ll2] := List.mem_cons_of_mem _ (List.mem_cons_of_mem _ (List.mem_cons_of_mem _ (List.mem_cons_of_mem _ List.mem_cons_self)))
      have m6 : ll2 ∈ [o2, pa2, la2, a2, pl2, ll2] := List.mem_cons_of_mem _ (List.mem_cons_of_mem _ (List.mem_cons_of_mem _ (List.mem_cons_of_mem _ (List.mem_cons_of_mem _ List.mem_cons_self))))
      refine ⟨SK.dr, hG2.grow sHK, ⟨y, ys, zs, go2, sK _ _ (sJ _ _ gpa2), sK _ _ gla2, ch hy, Paired.mapP hys fun _ _ q => ch q, Paired.mapP hzs fun _ _ q => ch q⟩, fun x hx f => ?_, SK.fx, ?_, S.g, S.gp, S.gl, S.pn⟩
      · rcases hx with z | z | z | z | z | z | z | z
        · exact S.nf x (.inl z) f
        · exact S.nf x (.inr (.inl z)) f
        · exact S.fx x f (new6 x (z ▸ m1))
        · exact S.fx x f (new6 x (z ▸ m2))
        · exact S.fx x f (new6 x (z ▸ m3))
        · exact S.fx x f (new6 x (z ▸ m4))
        · exact S.fx x f (new6 x (z ▸ m5))
        · exact S.fx x f (new6 x (z ▸ m6))
      · have pa2I : HI pa2 ≠ none := by rw [gpa2]; exact fun z => nomatch z
        have la2J : HJ la2 ≠ none := by rw [gla2]; exact fun z => nomatch z
        have q1 : pa2 ≠ pl2 := fun e => ex2 pl2 (.inl rfl) (e ▸ hpa2)
        have q2 : pa2 ≠ ll2 := fun e => ex2 ll2 (.inr rfl) (e ▸ hpa2)
        have q3 : pa2 ≠ la2 := fun e => pa2I (e ▸ hla2)
        have q4 : la2 ≠ pl2 := fun e => gr sI _ (ex2 pl2 (.inl rfl)) (e ▸ hla2)
        have q5 : la2 ≠ ll2 := fun e => gr sI _ (ex2 ll2 (.inr rfl)) (e ▸ hla2)
        have q6 : o2 ≠ pa2 := fun e => gr sJ _ pa2I (e ▸ ho2)
        have q7 : o2 ≠ la2 := fun e => la2J (e ▸ ho2)
        have q8 : o2 ≠ pl2 := fun e => gr sJ _ (gr sI _ (ex2 pl2 (.inl rfl))) (e ▸ ho2)
        have q9 : o2 ≠ ll2 := fun e => gr sJ _ (gr sI _ (ex2 ll2 (.inr rfl))) (e ▸ ho2)
        simp only [List.nodup_cons, List.mem_cons, not_or, List.not_mem_nil, not_false_eq_true, List.nodup_nil, and_true]
        exact ⟨⟨S.apart.dc, (nn _ m1).1, (nn _ m2).1, (nn _ m3).1, (nn _ m5).1, (nn _ m6).1⟩, ⟨(nn _ m1).2, (nn _ m2).2, (nn _ m3).2, (nn _ m5).2, (nn _ m6).2⟩, ⟨q6, q7, q8, q9⟩, ⟨q3, q1, q2⟩, ⟨q4, q5⟩, h4⟩
    clear go2 sK ho2 gla2 sJ hla2 gpa2 sI hpa2 hy hys hzs ho hpa hla SH hG2 sH sHK ha2 hpl2 hll2 hag new6 S
    obtain ⟨p2, tl2, rl2, ho2, hB2⟩ := TK.bk
    refine ⟨_, rfl, _, rfl, o2, _, (2 : Int), .ref p2, rfl, rfl, SqL.of ho2, rfl, a2, pl2, ll2, p2, tl2, rl2, past, cur, later, rfl, TK.lg, hB2, TK.g.ok, fun HL sL => ⟨true, rfl, iteF ?_⟩⟩
    replace TK := TK.grow sL
    replace SK := SK.grow sL
    clear sL ho2 hB2
    refine ⟨_, rfl, d, c, 6, rfl, SK.dr, by decide, by decide, fun m2 HM hm2 DM kpM => ⟨2, m2, rfl, rfl, _, rfl, by omega, by omega, ?_⟩⟩
    replace SK := SK.kpd kpM DM
    replace TK := TK.kpd kpM DM
    clear kpM DM
    rw [Int.toNat_natCast]
    refine for_range (lo := 0) (n := 2 + m2) (fun i σ' H' => ∃ (F : Addr → Prop) (la ll la2 ll2 : Addr) (past : List Bk) (cur : Bk) (later past2 : List Bk) (cur2 : Bk) (later2 : List Bk) (c6 : Option V), σ' = [some (.ref sc), some (.ref d), some (.ref t0), some (.ref a), none, some (.ref o), c6, some (.ref a2), some (.ref o2)] ∧ Sd K Z.Table Z.Lot Z.State Z.Ledger d c F o pa la a pl ll past cur later N (2 + m + i) H' ∧ Sd K Z.Table Z.Lot Z.State Z.Ledger d c F o2 pa2 la2 a2 pl2 ll2 past2 cur2 later2 N (2 + m + i) H' ∧ Two o pa la a pl ll o2 pa2 la2 a2 pl2 ll2)
      ⟨F, la, ll, la2, ll2, past, cur, later, past, cur, later, c6, rfl, SK, TK, tw⟩ ?_ ?_
    · clear SK TK tw
      rintro i σ' HN hi ⟨F, la, ll, la2, ll2, past, cur, later, past2, cur2, later2, c6, rfl, S, S', tw⟩
      refine ⟨fun σ' H' => ∃ (F : Addr → Prop) (la ll la2 ll2 : Addr) (past : List Bk) (cur : Bk) (later past2 : List Bk) (cur2 : Bk) (later2 : List Bk), σ' = [some (.ref sc), some (.ref d), some (.ref t0), some (.ref a), none, some (.ref o), some (.int (0 + (i : Int))), some (.ref a2), some (.ref o2)] ∧ Sd K Z.Table Z.Lot Z.State Z.Ledger d c F o pa la a pl ll past cur later N (2 + m + i + 1) H' ∧ Sd K Z.Table Z.Lot Z.State Z.Ledger d c F o2 pa2 la2 a2 pl2 ll2 past2 cur2 later2 N (2 + m + i + 1) H' ∧ Two o pa la a pl ll o2 pa2 la2 a2 pl2 ll2, ?_, ?_⟩
      · refine ⟨_, rfl, _, rfl, _, rfl, _, rfl, by show 2 ≤ sizeLine; decide, fun q hq => ?_⟩
        obtain ⟨HO, eO, sO, gq⟩ := al (o := .lst [.ref o, .ref o2]) hq
        rw [eO]
        clear eO
        have nq := S.dr.ne hq
        replace S := S.grow sO
        replace S' := S'.grow sO
        refine ⟨d, c, q, _, rfl, S.dr, gq, nq.1, nq.2, by show 0 < 2; decide, by show 2 ≤ 100000; decide, fun j v HP hv DP kpP => ?_⟩
        replace S := S.kpd kpP DP
        replace S' := S'.kpd kpP DP
        rcases List.mem_cons.mp (List.mem_of_getElem? hv) with z | z
        · subst z
          exact ⟨d, c, o, pa, la, a, pl, ll, F, past, cur, later, N, _, rfl, S, by omega, fun F' la' ll' past' cur' later' H' st => ⟨true, rfl, iteF (by
            obtain ⟨q1, q2⟩ := S'.other tw S st
            exact ⟨F', la', ll', la2, ll2, past', cur', later', past2, cur2, later2, rfl, st.sd, q1, q2⟩)⟩⟩
        · cases List.mem_singleton.mp z
          exact ⟨d, c, o2, pa2, la2, a2, pl2, ll2, F, past2, cur2, later2, N, _, rfl, S', by omega, fun F' la' ll' past' cur' later' H' st => ⟨true, rfl, iteF (by
            obtain ⟨q1, q2⟩ := S.other tw.swap S' st
            exact ⟨F', la, ll, la', ll', past, cur, later, past', cur', later', rfl, q1, st.sd, q2.swap⟩)⟩⟩
      clear S S' tw
      rintro σ' HQ ⟨F, la, ll, la2, ll2, past, cur, later, past2, cur2, later2, rfl, S, S', tw⟩
      obtain ⟨p1, tl1, rl1, ho1, hB1⟩ := S.bk
      refine ⟨_, rfl, _, rfl, o, _, (2 : Int), .ref p1, rfl, rfl, SqL.of ho1, rfl, a, pl, ll, p1, tl1, rl1, past, cur, later, rfl, S.lg, hB1, S.g.ok, fun HR sR => ⟨true, rfl, iteF ?_⟩⟩
      replace S := S.grow sR
      replace S' := S'.grow sR
      obtain ⟨p2, tl2, rl2, ho2, hB2⟩ := S'.bk
      exact ⟨_, rfl, _, rfl, o2, _, (2 : Int), .ref p2, rfl, rfl, SqL.of ho2, rfl, a2, pl2, ll2, p2, tl2, rl2, past2, cur2, later2, rfl, S'.lg, hB2, S'.g.ok, fun HT sT => ⟨true, rfl, iteF ⟨F, la, ll, la2, ll2, past, cur, later, past2, cur2, later2, _, rfl, S.grow sT, S'.grow sT, tw⟩⟩⟩
    · clear SK TK tw
      rintro σ' HN ⟨F, la, ll, la2, ll2, past, cur, later, past2, cur2, later2, c6, rfl, S, S', tw⟩
      refine ⟨_, rfl, d, c, o, pa, la, a, pl, ll, F, past, cur, later, N, _, rfl, S, by omega, fun HO im kp => ⟨true, rfl, ite2 (fun _ => ?_) (fun h => absurd rfl h)⟩⟩
      have kk : ∀ x, (x = o2 ∨ x = pa2 ∨ x = la2 ∨ x = a2 ∨ x = pl2 ∨ x = ll2 ∨ F x) → x ≠ a ∧ x ≠ pl ∧ x ≠ ll := fun x hx => by
        have hx2 : x ∈ [o2, pa2, la2, a2, pl2, ll2] ∨ F x := by
          simp only [List.mem_cons, List.not_mem_nil, or_false]
          rcases hx with z | z | z | z | z | z | z
          · exact .inl (.inl z)
          · exact .inl (.inr (.inl z))
          · exact .inl (.inr (.inr (.inl z)))
          · exact .inl (.inr (.inr (.inr (.inl z))))
          · exact .inl (.inr (.inr (.inr (.inr (.inl z)))))
          · exact .inl (.inr (.inr (.inr (.inr (.inr z)))))
          · exact .inr z
        rcases hx2 with h | f
        · have := tw.ne x h
          simp only [List.mem_cons, not_or] at this
          exact ⟨this.1, this.2.1, this.2.2.1⟩
        · exact ⟨fun z => S.nf x (.inr (.inr (.inr (.inr (.inr (.inl z)))))) f, fun z => S.nf x (.inr (.inr (.inr (.inr (.inr (.inr (.inl z))))))) f, fun z => S.nf x (.inr (.inr (.inr (.inr (.inr (.inr (.inr z))))))) f⟩
      have S2 : Sd K Z.Table Z.Lot Z.State Z.Ledger d c F o2 pa2 la2 a2 pl2 ll2 past2 cur2 later2 N (2 + m + (2 + m2)) HO := S'.chg im (S.lgOnly im kp).2 (fun x u hx q => kp x u q (kk x hx).1 (kk x hx).2.1 (kk x hx).2.2) (fun _ f => f) (fun _ f => .inl f) fun x f => by
        obtain ⟨u, hu⟩ := Option.ne_none_iff_exists'.mp (S'.fx x f)
        have q := kk x (.inr (.inr (.inr (.inr (.inr (.inr f))))))
        rw [kp x u hu q.1 q.2.1 q.2.2]
        exact fun z => nomatch z
      exact ⟨_, rfl, d, c, o2, pa2, la2, a2, pl2, ll2, F, past2, cur2, later2, N, _, rfl, S2, by omega, fun HP _ _ => k HP⟩
end
end L2.KK
namespace L2.KK
open PySem PySem.Spec PyProof.Rows C8
def evOf {K : PySem.W.Frag} {h : Heap} {mg : Str → Option Value} (X : K.In h) (G : h.Ns mainGlobals mg) (c : SaysK faL fnL myL K) : Ev K mg where
  Table := He.ga K "Table"
  k_Table := He.glo_ok X G (c.1.fact 85 (f := .glo "Table") rfl)
  c_Table := insB_ok (c.own 0 (f := insB "Table") rfl)
  i_Table := by
    obtain ⟨fd, F⟩ := c.1.def_ 7 (d := dd_Table_init) rfl
    exact ⟨_, fd, F, He.mkr_ok (c.1.fact 86 (f := .mkr "Table") rfl)⟩
  m_Table_eq := by
    obtain ⟨fd, F⟩ := c.1.def_ 8 (d := dd_Table_eq) rfl
    exact ⟨_, fd, F, He.meth_ok (c.1.fact 87 (f := .meth "Table" "__eq__") rfl)⟩
  n_Table_places := He.noat_ok (c.1.fact 88 (f := .noat "Table" "places") rfl)
  n_Table_prices := He.noat_ok (c.1.fact 89 (f := .noat "Table" "prices") rfl)
  n_Table_least := He.noat_ok (c.1.fact 90 (f := .noat "Table" "least") rfl)
  n_Table_most := He.noat_ok (c.1.fact 91 (f := .noat "Table" "most") rfl)
  Lot := He.ga K "Lot"
  k_Lot := He.glo_ok X G (c.1.fact 92 (f := .glo "Lot") rfl)
  c_Lot := insB_ok (c.own 1 (f := insB "Lot") rfl)
  i_Lot := by
    obtain ⟨fd, F⟩ := c.1.def_ 11 (d := dd_Lot_init) rfl
    exact ⟨_, fd, F, He.mkr_ok (c.1.fact 93 (f := .mkr "Lot") rfl)⟩
  m_Lot_eq := by
    obtain ⟨fd, F⟩ := c.1.def_ 12 (d := dd_Lot_eq) rfl
    exact ⟨_, fd, F, He.meth_ok (c.1.fact 94 (f := .meth "Lot" "__eq__") rfl)⟩
  n_Lot_tables := He.noat_ok (c.1.fact 95 (f := .noat "Lot" "tables") rfl)
  n_Lot_swaps := He.noat_ok (c.1.fact 96 (f := .noat "Lot" "swaps") rfl)
  Puzzle := He.ga K "Puzzle"
  k_Puzzle := He.glo_ok X G (c.1.fact 97 (f := .glo "Puzzle") rfl)
  c_Puzzle := insB_ok (c.own 2 (f := insB "Puzzle") rfl)
  i_Puzzle := by
    obtain ⟨fd, F⟩ := c.1.def_ 14 (d := dd_Puzzle_init) rfl
    exact ⟨_, fd, F, He.mkr_ok (c.1.fact 98 (f := .mkr "Puzzle") rfl)⟩
  n_Puzzle_lot := He.noat_ok (c.1.fact 99 (f := .noat "Puzzle" "lot") rfl)
  n_Puzzle_many := He.noat_ok (c.1.fact 100 (f := .noat "Puzzle" "many") rfl)
  n_Puzzle_uses := He.noat_ok (c.1.fact 101 (f := .noat "Puzzle" "uses") rfl)
  State := He.ga K "State"
  k_State := He.glo_ok X G (c.1.fact 102 (f := .glo "State") rfl)
  c_State := insB_ok (c.own 3 (f := insB "State") rfl)
  i_State := by
    obtain ⟨fd, F⟩ := c.1.def_ 15 (d := dd_State_init) rfl
    exact ⟨_, fd, F, He.mkr_ok (c.1.fact 103 (f := .mkr "State") rfl)⟩
  m_State_numbers := by
    obtain ⟨fd, F⟩ := c.1.def_ 16 (d := dd_State_numbers) rfl
    exact ⟨_, fd, F, He.meth_ok (c.1.fact 104 (f := .meth "State" "numbers") rfl)⟩
  m_State_puzzle := by
    obtain ⟨fd, F⟩ := c.1.def_ 17 (d := dd_State_puzzle) rfl
    exact ⟨_, fd, F, He.meth_ok (c.1.fact 105 (f := .meth "State" "puzzle") rfl)⟩
  n_State_lot := He.noat_ok (c.1.fact 106 (f := .noat "State" "lot") rfl)
  n_State_many := He.noat_ok (c.1.fact 107 (f := .noat "State" "many") rfl)
  n_State_rows := He.noat_ok (c.1.fact 108 (f := .noat "State" "rows") rfl)
  n_State_ahead := He.noat_ok (c.1.fact 109 (f := .noat "State" "ahead") rfl)
  Ledger := He.ga K "Ledger"
  k_Ledger := He.glo_ok X G (c.1.fact 110 (f := .glo "Ledger") rfl)
  c_Ledger := insB_ok (c.own 4 (f := insB "Ledger") rfl)
  i_Ledger := by
    obtain ⟨fd, F⟩ := c.1.def_ 25 (d := dd_Ledger_init) rfl
    exact ⟨_, fd, F, He.mkr_ok (c.1.fact 111 (f := .mkr "Ledger") rfl)⟩
  m_Ledger_do := by
    obtain ⟨fd, F⟩ := c.1.def_ 26 (d := dd_Ledger_do) rfl
    exact ⟨_, fd, F, He.meth_ok (c.1.fact 112 (f := .meth "Ledger" "do") rfl)⟩
  m_Ledger_go := by
    obtain ⟨fd, F⟩ := c.1.def_ 27 (d := dd_Ledger_go) rfl
    exact ⟨_, fd, F, He.meth_ok (c.1.fact 113 (f := .meth "Ledger" "go") rfl)⟩
  m_Ledger_undo := by
    obtain ⟨fd, F⟩ := c.1.def_ 28 (d := dd_Ledger_undo) rfl
    exact ⟨_, fd, F, He.meth_ok (c.1.fact 114 (f := .meth "Ledger" "undo") rfl)⟩
  m_Ledger_redo := by
    obtain ⟨fd, F⟩ := c.1.def_ 29 (d := dd_Ledger_redo) rfl
    exact ⟨_, fd, F, He.meth_ok (c.1.fact 115 (f := .meth "Ledger" "redo") rfl)⟩
  m_Ledger_twin := by
    obtain ⟨fd, F⟩ := c.1.def_ 32 (d := dd_Ledger_twin) rfl
    exact ⟨_, fd, F, He.meth_ok (c.1.fact 116 (f := .meth "Ledger" "twin") rfl)⟩
  m_Ledger_puzzle := by
    obtain ⟨fd, F⟩ := c.1.def_ 30 (d := dd_Ledger_puzzle) rfl
    exact ⟨_, fd, F, He.meth_ok (c.1.fact 117 (f := .meth "Ledger" "puzzle") rfl)⟩
  m_Ledger_numbers := by
    obtain ⟨fd, F⟩ := c.1.def_ 31 (d := dd_Ledger_numbers) rfl
    exact ⟨_, fd, F, He.meth_ok (c.1.fact 118 (f := .meth "Ledger" "numbers") rfl)⟩
  n_Ledger_past := He.noat_ok (c.1.fact 119 (f := .noat "Ledger" "past") rfl)
  n_Ledger_state := He.noat_ok (c.1.fact 120 (f := .noat "Ledger" "state") rfl)
  n_Ledger_later := He.noat_ok (c.1.fact 121 (f := .noat "Ledger" "later") rfl)
  n_Ledger_told := He.noat_ok (c.1.fact 122 (f := .noat "Ledger" "told") rfl)
  n_Ledger_reply := He.noat_ok (c.1.fact 123 (f := .noat "Ledger" "reply") rfl)
  n_Ledger_verdicts_made := He.noat_ok (c.1.fact 124 (f := .noat "Ledger" "verdicts_made") rfl)
  n_Ledger_answers_made := He.noat_ok (c.1.fact 125 (f := .noat "Ledger" "answers_made") rfl)
  s_Table_Table := of_decide_eq_true (c.own 5 (f := isiB "Table" "Table" true) rfl)
  s_Lot_Lot := of_decide_eq_true (c.own 6 (f := isiB "Lot" "Lot" true) rfl)
  s_BadDeed_PricedError := of_decide_eq_true (c.own 7 (f := isiB "BadDeed" "PricedError" true) rfl)
  s_NoneType_Lot := of_decide_eq_true (c.own 8 (f := tyiB "NoneType" "Lot" false) rfl)
  s_int_Lot := of_decide_eq_true (c.own 9 (f := tyiB "int" "Lot" false) rfl)
  s_tuple_Lot := of_decide_eq_true (c.own 10 (f := tyiB "tuple" "Lot" false) rfl)
  s_str_Lot := of_decide_eq_true (c.own 11 (f := tyiB "str" "Lot" false) rfl)
  DEEDS := He.ga K "DEEDS"
  k_DEEDS := He.glo_ok X G (c.1.fact 126 (f := .glo "DEEDS") rfl)
  t_DEEDS := fun H => He.tupB_ok (c.own 12 (f := (fun K => He.tupB K "DEEDS" [.str "name", .str "add", .str "drop", .str "times", .str "table"])) rfl) H
  BadDeed := He.ga K "BadDeed"
  f_BadDeed := He.ma K (He.ga K "BadDeed") "__init__"
  k_BadDeed := He.glo_ok X G (c.1.fact 127 (f := .glo "BadDeed") rfl)
  o_BadDeed := ownB_ok (c.own 13 (f := ownB "BadDeed") rfl)
  d_BadDeed := c.1.def_ 0 (d := dd_BadDeed_init) rfl
  n_BadDeed_deed := He.noat_ok (c.1.fact 128 (f := .noat "BadDeed" "deed") rfl)
  x_BadDeed := excB_ok (c.own 14 (f := excB "BadDeed") rfl)
  PricedError := He.ga K "PricedError"
  k_PricedError := He.glo_ok X G (c.1.fact 129 (f := .glo "PricedError") rfl)
  b_PricedError := basB_ok (c.own 15 (f := basB "PricedError") rfl)
  e_BadDeed_BadDeed := He.exm_ok (c.1.fact 130 (f := .exm "BadDeed" "BadDeed" true) rfl)
theorem factsD {P : Program} {w : World} {K : PySem.W.Frag} {h : Heap} {mg : Str → Option Value} {f : Addr} (X : K.In h) (G : h.Ns mainGlobals mg) (hfa : mg ("law" : Str) = some (.ref f)) (c : SaysK faL fnL myL K) :
    ∃ fd : FuncData, (∀ (s : Shared) (v : Value), BindsTo s fd ⟨[v], []⟩ [("script", v)]) ∧ ∀ base : Heap, K.In base → base.Ns mainGlobals mg → FnOk P w K mg base CX0 13 f fd ["script"] (spLaw K) := by
  have D_is_whole : FnAt K mg "is_whole" s_is_whole := by
    obtain ⟨fd, F⟩ := c.1.def_ 1 (d := dd_is_whole) rfl
    exact ⟨_, fd, F, He.glo_ok X G (c.1.fact 0 (f := .glo "is_whole") rfl)⟩
  have D_times_price : FnAt K mg "times_price" s_times_price := by
    obtain ⟨fd, F⟩ := c.1.def_ 2 (d := dd_times_price) rfl
    exact ⟨_, fd, F, He.glo_ok X G (c.1.fact 1 (f := .glo "times_price") rfl)⟩
  have D_lower : FnAt K mg "lower" s_lower := by
    obtain ⟨fd, F⟩ := c.1.def_ 3 (d := dd_lower) rfl
    exact ⟨_, fd, F, He.glo_ok X G (c.1.fact 2 (f := .glo "lower") rfl)⟩
  have D_lowest : FnAt K mg "lowest" s_lowest := by
    obtain ⟨fd, F⟩ := c.1.def_ 4 (d := dd_lowest) rfl
    exact ⟨_, fd, F, He.glo_ok X G (c.1.fact 3 (f := .glo "lowest") rfl)⟩
  have D_highest : FnAt K mg "highest" s_highest := by
    obtain ⟨fd, F⟩ := c.1.def_ 5 (d := dd_highest) rfl
    exact ⟨_, fd, F, He.glo_ok X G (c.1.fact 4 (f := .glo "highest") rfl)⟩
  have D_chosen_number : FnAt K mg "chosen_number" s_chosen_number := by
    obtain ⟨fd, F⟩ := c.1.def_ 6 (d := dd_chosen_number) rfl
    exact ⟨_, fd, F, He.glo_ok X G (c.1.fact 5 (f := .glo "chosen_number") rfl)⟩
  have D_swapped : FnAt K mg "swapped" s_swapped := by
    obtain ⟨fd, F⟩ := c.1.def_ 9 (d := dd_swapped) rfl
    exact ⟨_, fd, F, He.glo_ok X G (c.1.fact 6 (f := .glo "swapped") rfl)⟩
  have D_is_told : FnAt K mg "is_told" s_is_told := by
    obtain ⟨fd, F⟩ := c.1.def_ 10 (d := dd_is_told) rfl
    exact ⟨_, fd, F, He.glo_ok X G (c.1.fact 7 (f := .glo "is_told") rfl)⟩
  have D_is_use : FnAt K mg "is_use" s_is_use := by
    obtain ⟨fd, F⟩ := c.1.def_ 13 (d := dd_is_use) rfl
    exact ⟨_, fd, F, He.glo_ok X G (c.1.fact 8 (f := .glo "is_use") rfl)⟩
  have D_check_deed : FnAt K mg "check_deed" s_check_deed := by
    obtain ⟨fd, F⟩ := c.1.def_ 18 (d := dd_check_deed) rfl
    exact ⟨_, fd, F, He.glo_ok X G (c.1.fact 9 (f := .glo "check_deed") rfl)⟩
  have D_named : FnAt K mg "named" s_named := by
    obtain ⟨fd, F⟩ := c.1.def_ 19 (d := dd_named) rfl
    exact ⟨_, fd, F, He.glo_ok X G (c.1.fact 10 (f := .glo "named") rfl)⟩
  have D_added_use : FnAt K mg "added_use" s_added_use := by
    obtain ⟨fd, F⟩ := c.1.def_ 20 (d := dd_added_use) rfl
    exact ⟨_, fd, F, He.glo_ok X G (c.1.fact 11 (f := .glo "added_use") rfl)⟩
  have D_dropped : FnAt K mg "dropped" s_dropped := by
    obtain ⟨fd, F⟩ := c.1.def_ 21 (d := dd_dropped) rfl
    exact ⟨_, fd, F, He.glo_ok X G (c.1.fact 12 (f := .glo "dropped") rfl)⟩
  have D_with_times : FnAt K mg "with_times" s_with_times := by
    obtain ⟨fd, F⟩ := c.1.def_ 22 (d := dd_with_times) rfl
    exact ⟨_, fd, F, He.glo_ok X G (c.1.fact 13 (f := .glo "with_times") rfl)⟩
  have D_with_table : FnAt K mg "with_table" s_with_table := by
    obtain ⟨fd, F⟩ := c.1.def_ 23 (d := dd_with_table) rfl
    exact ⟨_, fd, F, He.glo_ok X G (c.1.fact 14 (f := .glo "with_table") rfl)⟩
  have D_done : FnAt K mg "done" s_done := by
    obtain ⟨fd, F⟩ := c.1.def_ 24 (d := dd_done) rfl
    exact ⟨_, fd, F, He.glo_ok X G (c.1.fact 15 (f := .glo "done") rfl)⟩
  have D_law_begin : FnAt K mg "_law_begin" s_law_begin := by
    obtain ⟨fd, F⟩ := c.1.def_ 33 (d := dd_law_begin) rfl
    exact ⟨_, fd, F, He.glo_ok X G (c.1.fact 16 (f := .glo "_law_begin") rfl)⟩
  have D_law_draw : FnAt K mg "_law_draw" s_law_draw := by
    obtain ⟨fd, F⟩ := c.1.def_ 34 (d := dd_law_draw) rfl
    exact ⟨_, fd, F, He.glo_ok X G (c.1.fact 17 (f := .glo "_law_draw") rfl)⟩
  have D_law_pick : FnAt K mg "_law_pick" s_law_pick := by
    obtain ⟨fd, F⟩ := c.1.def_ 35 (d := dd_law_pick) rfl
    exact ⟨_, fd, F, He.glo_ok X G (c.1.fact 18 (f := .glo "_law_pick") rfl)⟩
  have D_law_rare : FnAt K mg "_law_rare" s_law_rare := by
    obtain ⟨fd, F⟩ := c.1.def_ 36 (d := dd_law_rare) rfl
    exact ⟨_, fd, F, He.glo_ok X G (c.1.fact 19 (f := .glo "_law_rare") rfl)⟩
  have D_law_ones : FnAt K mg "_law_ones" s_law_ones := by
    obtain ⟨fd, F⟩ := c.1.def_ 37 (d := dd_law_ones) rfl
    exact ⟨_, fd, F, He.glo_ok X G (c.1.fact 20 (f := .glo "_law_ones") rfl)⟩
  have D_law_sum : FnAt K mg "_law_sum" s_law_sum := by
    obtain ⟨fd, F⟩ := c.1.def_ 38 (d := dd_law_sum) rfl
    exact ⟨_, fd, F, He.glo_ok X G (c.1.fact 21 (f := .glo "_law_sum") rfl)⟩
  have D_law_low : FnAt K mg "_law_low" s_law_low := by
    obtain ⟨fd, F⟩ := c.1.def_ 39 (d := dd_law_low) rfl
    exact ⟨_, fd, F, He.glo_ok X G (c.1.fact 22 (f := .glo "_law_low") rfl)⟩
  have D_law_times : FnAt K mg "_law_times" s_law_times := by
    obtain ⟨fd, F⟩ := c.1.def_ 40 (d := dd_law_times) rfl
    exact ⟨_, fd, F, He.glo_ok X G (c.1.fact 23 (f := .glo "_law_times") rfl)⟩
  have D_law_above : FnAt K mg "_law_above" s_law_above := by
    obtain ⟨fd, F⟩ := c.1.def_ 41 (d := dd_law_above) rfl
    exact ⟨_, fd, F, He.glo_ok X G (c.1.fact 24 (f := .glo "_law_above") rfl)⟩
  have D_law_most : FnAt K mg "_law_most" s_law_most := by
    obtain ⟨fd, F⟩ := c.1.def_ 42 (d := dd_law_most) rfl
    exact ⟨_, fd, F, He.glo_ok X G (c.1.fact 25 (f := .glo "_law_most") rfl)⟩
  have D_law_kinds : FnAt K mg "_law_kinds" s_law_kinds := by
    obtain ⟨fd, F⟩ := c.1.def_ 43 (d := dd_law_kinds) rfl
    exact ⟨_, fd, F, He.glo_ok X G (c.1.fact 26 (f := .glo "_law_kinds") rfl)⟩
  have D_law_breach_one : FnAt K mg "_law_breach_one" s_law_breach_one := by
    obtain ⟨fd, F⟩ := c.1.def_ 44 (d := dd_law_breach_one) rfl
    exact ⟨_, fd, F, He.glo_ok X G (c.1.fact 27 (f := .glo "_law_breach_one") rfl)⟩
  have D_law_breach_two : FnAt K mg "_law_breach_two" s_law_breach_two := by
    obtain ⟨fd, F⟩ := c.1.def_ 45 (d := dd_law_breach_two) rfl
    exact ⟨_, fd, F, He.glo_ok X G (c.1.fact 28 (f := .glo "_law_breach_two") rfl)⟩
  have D_law_breach_three : FnAt K mg "_law_breach_three" s_law_breach_three := by
    obtain ⟨fd, F⟩ := c.1.def_ 46 (d := dd_law_breach_three) rfl
    exact ⟨_, fd, F, He.glo_ok X G (c.1.fact 29 (f := .glo "_law_breach_three") rfl)⟩
  have D_law_keeps : FnAt K mg "_law_keeps" s_law_keeps := by
    obtain ⟨fd, F⟩ := c.1.def_ 47 (d := dd_law_keeps) rfl
    exact ⟨_, fd, F, He.glo_ok X G (c.1.fact 30 (f := .glo "_law_keeps") rfl)⟩
  have D_law_kept : FnAt K mg "_law_kept" s_law_kept := by
    obtain ⟨fd, F⟩ := c.1.def_ 48 (d := dd_law_kept) rfl
    exact ⟨_, fd, F, He.glo_ok X G (c.1.fact 31 (f := .glo "_law_kept") rfl)⟩
  have D_law_first_kind : FnAt K mg "_law_first_kind" s_law_first_kind := by
    obtain ⟨fd, F⟩ := c.1.def_ 49 (d := dd_law_first_kind) rfl
    exact ⟨_, fd, F, He.glo_ok X G (c.1.fact 32 (f := .glo "_law_first_kind") rfl)⟩
  have D_law_cost : FnAt K mg "_law_cost" s_law_cost := by
    obtain ⟨fd, F⟩ := c.1.def_ 50 (d := dd_law_cost) rfl
    exact ⟨_, fd, F, He.glo_ok X G (c.1.fact 33 (f := .glo "_law_cost") rfl)⟩
  have D_law_opened : FnAt K mg "_law_opened" s_law_opened := by
    obtain ⟨fd, F⟩ := c.1.def_ 51 (d := dd_law_opened) rfl
    exact ⟨_, fd, F, He.glo_ok X G (c.1.fact 34 (f := .glo "_law_opened") rfl)⟩
  have D_law_loose : FnAt K mg "_law_loose" s_law_loose := by
    obtain ⟨fd, F⟩ := c.1.def_ 52 (d := dd_law_loose) rfl
    exact ⟨_, fd, F, He.glo_ok X G (c.1.fact 35 (f := .glo "_law_loose") rfl)⟩
  have D_law_crisp : FnAt K mg "_law_crisp" s_law_crisp := by
    obtain ⟨fd, F⟩ := c.1.def_ 53 (d := dd_law_crisp) rfl
    exact ⟨_, fd, F, He.glo_ok X G (c.1.fact 36 (f := .glo "_law_crisp") rfl)⟩
  have D_law_turned : FnAt K mg "_law_turned" s_law_turned := by
    obtain ⟨fd, F⟩ := c.1.def_ 54 (d := dd_law_turned) rfl
    exact ⟨_, fd, F, He.glo_ok X G (c.1.fact 37 (f := .glo "_law_turned") rfl)⟩
  have D_law_zero : FnAt K mg "_law_zero" s_law_zero := by
    obtain ⟨fd, F⟩ := c.1.def_ 55 (d := dd_law_zero) rfl
    exact ⟨_, fd, F, He.glo_ok X G (c.1.fact 38 (f := .glo "_law_zero") rfl)⟩
  have D_law_least : FnAt K mg "_law_least" s_law_least := by
    obtain ⟨fd, F⟩ := c.1.def_ 56 (d := dd_law_least) rfl
    exact ⟨_, fd, F, He.glo_ok X G (c.1.fact 39 (f := .glo "_law_least") rfl)⟩
  have D_law_add_bends : FnAt K mg "_law_add_bends" s_law_add_bends := by
    obtain ⟨fd, F⟩ := c.1.def_ 57 (d := dd_law_add_bends) rfl
    exact ⟨_, fd, F, He.glo_ok X G (c.1.fact 40 (f := .glo "_law_add_bends") rfl)⟩
  have D_law_cut : FnAt K mg "_law_cut" s_law_cut := by
    obtain ⟨fd, F⟩ := c.1.def_ 58 (d := dd_law_cut) rfl
    exact ⟨_, fd, F, He.glo_ok X G (c.1.fact 41 (f := .glo "_law_cut") rfl)⟩
  have D_law_twos : FnAt K mg "_law_twos" s_law_twos := by
    obtain ⟨fd, F⟩ := c.1.def_ 59 (d := dd_law_twos) rfl
    exact ⟨_, fd, F, He.glo_ok X G (c.1.fact 42 (f := .glo "_law_twos") rfl)⟩
  have D_law_sums : FnAt K mg "_law_sums" s_law_sums := by
    obtain ⟨fd, F⟩ := c.1.def_ 60 (d := dd_law_sums) rfl
    exact ⟨_, fd, F, He.glo_ok X G (c.1.fact 43 (f := .glo "_law_sums") rfl)⟩
  have D_law_ties : FnAt K mg "_law_ties" s_law_ties := by
    obtain ⟨fd, F⟩ := c.1.def_ 61 (d := dd_law_ties) rfl
    exact ⟨_, fd, F, He.glo_ok X G (c.1.fact 44 (f := .glo "_law_ties") rfl)⟩
  have D_law_kind_table : FnAt K mg "_law_kind_table" s_law_kind_table := by
    obtain ⟨fd, F⟩ := c.1.def_ 62 (d := dd_law_kind_table) rfl
    exact ⟨_, fd, F, He.glo_ok X G (c.1.fact 45 (f := .glo "_law_kind_table") rfl)⟩
  have D_law_kind_lot : FnAt K mg "_law_kind_lot" s_law_kind_lot := by
    obtain ⟨fd, F⟩ := c.1.def_ 63 (d := dd_law_kind_lot) rfl
    exact ⟨_, fd, F, He.glo_ok X G (c.1.fact 46 (f := .glo "_law_kind_lot") rfl)⟩
  have D_law_sure_hard : FnAt K mg "_law_sure_hard" s_law_sure_hard := by
    obtain ⟨fd, F⟩ := c.1.def_ 64 (d := dd_law_sure_hard) rfl
    exact ⟨_, fd, F, He.glo_ok X G (c.1.fact 47 (f := .glo "_law_sure_hard") rfl)⟩
  have D_law_hard_lot : FnAt K mg "_law_hard_lot" s_law_hard_lot := by
    obtain ⟨fd, F⟩ := c.1.def_ 65 (d := dd_law_hard_lot) rfl
    exact ⟨_, fd, F, He.glo_ok X G (c.1.fact 48 (f := .glo "_law_hard_lot") rfl)⟩
  have D_law_any_lot : FnAt K mg "_law_any_lot" s_law_any_lot := by
    obtain ⟨fd, F⟩ := c.1.def_ 66 (d := dd_law_any_lot) rfl
    exact ⟨_, fd, F, He.glo_ok X G (c.1.fact 49 (f := .glo "_law_any_lot") rfl)⟩
  have D_law_book_new : FnAt K mg "_law_book_new" s_law_book_new := by
    obtain ⟨fd, F⟩ := c.1.def_ 67 (d := dd_law_book_new) rfl
    exact ⟨_, fd, F, He.glo_ok X G (c.1.fact 50 (f := .glo "_law_book_new") rfl)⟩
  have D_law_book_copy : FnAt K mg "_law_book_copy" s_law_book_copy := by
    obtain ⟨fd, F⟩ := c.1.def_ 68 (d := dd_law_book_copy) rfl
    exact ⟨_, fd, F, He.glo_ok X G (c.1.fact 51 (f := .glo "_law_book_copy") rfl)⟩
  have D_law_book_uses : FnAt K mg "_law_book_uses" s_law_book_uses := by
    obtain ⟨fd, F⟩ := c.1.def_ 69 (d := dd_law_book_uses) rfl
    exact ⟨_, fd, F, He.glo_ok X G (c.1.fact 52 (f := .glo "_law_book_uses") rfl)⟩
  have D_law_book_fits : FnAt K mg "_law_book_fits" s_law_book_fits := by
    obtain ⟨fd, F⟩ := c.1.def_ 70 (d := dd_law_book_fits) rfl
    exact ⟨_, fd, F, He.glo_ok X G (c.1.fact 53 (f := .glo "_law_book_fits") rfl)⟩
  have D_law_book_deed : FnAt K mg "_law_book_deed" s_law_book_deed := by
    obtain ⟨fd, F⟩ := c.1.def_ 71 (d := dd_law_book_deed) rfl
    exact ⟨_, fd, F, He.glo_ok X G (c.1.fact 54 (f := .glo "_law_book_deed") rfl)⟩
  have D_law_book_done : FnAt K mg "_law_book_done" s_law_book_done := by
    obtain ⟨fd, F⟩ := c.1.def_ 72 (d := dd_law_book_done) rfl
    exact ⟨_, fd, F, He.glo_ok X G (c.1.fact 55 (f := .glo "_law_book_done") rfl)⟩
  have D_law_try : FnAt K mg "_law_try" s_law_try := by
    obtain ⟨fd, F⟩ := c.1.def_ 73 (d := dd_law_try) rfl
    exact ⟨_, fd, F, He.glo_ok X G (c.1.fact 56 (f := .glo "_law_try") rfl)⟩
  have D_law_real : FnAt K mg "_law_real" s_law_real := by
    obtain ⟨fd, F⟩ := c.1.def_ 74 (d := dd_law_real) rfl
    exact ⟨_, fd, F, He.glo_ok X G (c.1.fact 57 (f := .glo "_law_real") rfl)⟩
  have D_law_stands : FnAt K mg "_law_stands" s_law_stands := by
    obtain ⟨fd, F⟩ := c.1.def_ 75 (d := dd_law_stands) rfl
    exact ⟨_, fd, F, He.glo_ok X G (c.1.fact 58 (f := .glo "_law_stands") rfl)⟩
  have D_law_step : FnAt K mg "_law_step" s_law_step := by
    obtain ⟨fd, F⟩ := c.1.def_ 76 (d := dd_law_step) rfl
    exact ⟨_, fd, F, He.glo_ok X G (c.1.fact 59 (f := .glo "_law_step") rfl)⟩
  have D_law_back_and_forth : FnAt K mg "_law_back_and_forth" s_law_back_and_forth := by
    obtain ⟨fd, F⟩ := c.1.def_ 77 (d := dd_law_back_and_forth) rfl
    exact ⟨_, fd, F, He.glo_ok X G (c.1.fact 60 (f := .glo "_law_back_and_forth") rfl)⟩
  have T : Bl mg := ⟨He.free_ok X G (c.1.fact 62 (f := .free "NotImplemented") rfl), He.free_ok X G (c.1.fact 63 (f := .free "ValueError") rfl), He.free_ok X G (c.1.fact 64 (f := .free "abs") rfl), He.free_ok X G (c.1.fact 65 (f := .free "all") rfl), He.free_ok X G (c.1.fact 66 (f := .free "bool") rfl), He.free_ok X G (c.1.fact 67 (f := .free "int") rfl), He.free_ok X G (c.1.fact 68 (f := .free "isinstance") rfl), He.free_ok X G (c.1.fact 69 (f := .free "len") rfl), He.free_ok X G (c.1.fact 70 (f := .free "list") rfl), He.free_ok X G (c.1.fact 71 (f := .free "max") rfl), He.free_ok X G (c.1.fact 72 (f := .free "property") rfl), He.free_ok X G (c.1.fact 73 (f := .free "range") rfl), He.free_ok X G (c.1.fact 74 (f := .free "reversed") rfl), He.free_ok X G (c.1.fact 75 (f := .free "tuple") rfl), He.free_ok X G (c.1.fact 76 (f := .free "zip") rfl), (by obtain ⟨t, h⟩ := He.int_ok X G (c.1.fact 77 (f := .int "PLACES" 4) rfl); exact ⟨_, h, ⟨t, rfl⟩⟩), (by obtain ⟨t, h⟩ := He.int_ok X G (c.1.fact 78 (f := .int "GREATEST" 100000000000000000000000000000000000000000000000000) rfl); exact ⟨_, h, ⟨t, rfl⟩⟩), (by obtain ⟨t, h⟩ := He.int_ok X G (c.1.fact 79 (f := .int "TABLES" 16) rfl); exact ⟨_, h, ⟨t, rfl⟩⟩), (by obtain ⟨t, h⟩ := He.int_ok X G (c.1.fact 80 (f := .int "DEAREST" 1000) rfl); exact ⟨_, h, ⟨t, rfl⟩⟩), (by obtain ⟨t, h⟩ := He.int_ok X G (c.1.fact 81 (f := .int "NAMES" 400) rfl); exact ⟨_, h, ⟨t, rfl⟩⟩), (by obtain ⟨t, h⟩ := He.int_ok X G (c.1.fact 82 (f := .int "USES" 20000) rfl); exact ⟨_, h, ⟨t, rfl⟩⟩), (by obtain ⟨t, h⟩ := He.int_ok X G (c.1.fact 83 (f := .int "TIMES" 10000000000000000000000000000000000000000) rfl); exact ⟨_, h, ⟨t, rfl⟩⟩), (by obtain ⟨t, h⟩ := He.int_ok X G (c.1.fact 84 (f := .int "MOST_USES" 200) rfl); exact ⟨_, h, ⟨t, rfl⟩⟩)⟩
  have Z : Ev K mg := evOf X G c
  obtain ⟨fd, F⟩ := c.1.def_ 78 (d := dd_law) rfl
  have e := hfa.symm.trans (He.glo_ok X G (c.1.fact 61 (f := .glo "law") rfl))
  cases e
  have b := FunD.bindsA (ps := ["script"]) F fun _ _ _ _ _ _ us hl => match us, hl with | [_], _ => rfl
  refine ⟨fd, fun s v => b s [v] rfl, fun base _ _ => ?_⟩
  have c_law_begin := c_begin (P := P) (w := w) (base := base) D_law_begin T
  have c_law_draw := c_draw (P := P) (w := w) (base := base) D_law_draw T
  have c_law_rare := c_rare (P := P) (w := w) (base := base) D_law_rare T c_law_draw
  have c_law_pick := c_pick (P := P) (w := w) (base := base) D_law_pick T c_law_draw
  have c_law_ones := c_ones (P := P) (w := w) (base := base) D_law_ones T
  have c_is_whole := c_is_whole (P := P) (w := w) (base := base) D_is_whole T
  have c_lower := c_lower (P := P) (w := w) (base := base) D_lower T
  have c_lowest := c_lowest (P := P) (w := w) (base := base) D_lowest T c_lower
  have c_highest := c_highest (P := P) (w := w) (base := base) D_highest T
  have c_times_price := c_times_price (P := P) (w := w) (base := base) D_times_price T
  have c_chosen_number := c_chosen_number (P := P) (w := w) (base := base) D_chosen_number T
  have c_Table := c_Table (P := P) (w := w) (base := base) Z T c_is_whole c_lowest c_highest
  have c_Table_eq := c_Table_eq (P := P) (w := w) (base := base) Z T
  have c_swapped := c_swapped (P := P) (w := w) (base := base) D_swapped Z T c_Table
  have c_is_told := c_is_told (P := P) (w := w) (base := base) D_is_told Z T
  have c_Lot := c_Lot (P := P) (w := w) (base := base) Z T c_is_told c_swapped c_Table_eq
  have c_is_told := c_told_b (P := P) (w := w) (base := base) D_is_told Z T
  have c_Lot_eq := c_Lot_eq (P := P) (w := w) (base := base) Z T c_Table_eq
  have c_is_use := c_use_b (P := P) (w := w) (base := base) D_is_use Z T c_is_whole
  have c_Puzzle := c_Puzzle (P := P) (w := w) (base := base) Z T c_is_whole c_is_use
  have x_BadDeed := x_BadDeed (P := P) (w := w) (base := base) Z T
  have c_State := c_State (P := P) (w := w) (base := base) Z T
  have c_State_numbers := c_State_numbers (P := P) (w := w) (base := base) Z T
  have c_State_puzzle := c_State_puzzle (P := P) (w := w) (base := base) Z T c_Puzzle
  have c_named := c_named (P := P) (w := w) (base := base) D_named Z T x_BadDeed c_State
  have c_added_use := c_added_use (P := P) (w := w) (base := base) D_added_use Z T x_BadDeed c_State c_is_use
  have c_dropped := c_dropped (P := P) (w := w) (base := base) D_dropped Z T x_BadDeed c_State c_State_numbers
  have c_with_times := c_with_times (P := P) (w := w) (base := base) D_with_times Z T x_BadDeed c_State c_State_numbers c_is_whole
  have c_with_table := c_with_table (P := P) (w := w) (base := base) D_with_table Z T x_BadDeed c_State c_is_whole c_is_told c_Lot
  have c_check_deed := c_check_deed (P := P) (w := w) (base := base) D_check_deed Z T x_BadDeed
  have c_done := c_done (P := P) (w := w) (base := base) D_done Z T c_check_deed c_named c_added_use c_dropped c_with_times c_with_table
  have c_Ledger := c_Ledger (P := P) (w := w) (base := base) Z T x_BadDeed c_State
  have c_Ledger_go := c_Ledger_go (P := P) (w := w) (base := base) Z T c_Lot_eq
  have c_Ledger_do := c_Ledger_do (P := P) (w := w) (base := base) Z T c_done c_Ledger_go
  have c_Ledger_undo := c_Ledger_undo (P := P) (w := w) (base := base) Z T c_Ledger_go
  have c_Ledger_puzzle := c_Ledger_puzzle (P := P) (w := w) (base := base) Z T c_State_puzzle
  have c_Ledger_numbers := c_Ledger_numbers (P := P) (w := w) (base := base) Z T c_State_numbers
  have c_law_times := c_law_times (P := P) (w := w) (base := base) D_law_times T
  have c_law_sum := c_law_sum (P := P) (w := w) (base := base) D_law_sum T
  have c_law_above := c_law_above (P := P) (w := w) (base := base) D_law_above T
  have c_law_most := c_law_most (P := P) (w := w) (base := base) D_law_most T
  have c_law_kinds := c_law_kinds (P := P) (w := w) (base := base) D_law_kinds T
  have c_law_breach_one := c_law_breach_one (P := P) (w := w) (base := base) D_law_breach_one T c_law_above
  have c_law_breach_two := c_law_breach_two (P := P) (w := w) (base := base) D_law_breach_two T c_law_above c_law_times c_law_sum
  have c_law_breach_three := c_law_breach_three (P := P) (w := w) (base := base) D_law_breach_three T c_law_above c_law_times c_law_sum c_law_most
  have c_law_keeps := c_law_keeps (P := P) (w := w) (base := base) D_law_keeps T c_law_breach_one c_law_breach_two c_law_breach_three
  have c_law_kept := c_law_kept (P := P) (w := w) (base := base) D_law_kept T c_law_keeps
  have c_law_first_kind := c_law_first_kind (P := P) (w := w) (base := base) D_law_first_kind T c_law_kinds c_law_kept
  have c_law_low := c_law_low (P := P) (w := w) (base := base) D_law_low T
  have c_law_cost := c_law_cost (P := P) (w := w) (base := base) D_law_cost T c_law_rare c_law_draw
  have c_law_opened := c_law_opened (P := P) (w := w) (base := base) D_law_opened T c_law_low c_law_cost c_law_draw
  have c_law_loose := c_law_loose (P := P) (w := w) (base := base) D_law_loose T c_law_draw c_law_cost c_law_opened
  have c_law_loose := loose_mk (P := P) (w := w) (base := base) c_law_loose
  have c_law_crisp := c_law_crisp (P := P) (w := w) (base := base) D_law_crisp T c_law_draw c_law_cost c_law_opened
  have c_law_turned := c_law_turned (P := P) (w := w) (base := base) D_law_turned T
  have c_law_zero := c_law_zero (P := P) (w := w) (base := base) D_law_zero T c_law_draw c_law_loose c_law_low
  have c_law_least := c_law_least (P := P) (w := w) (base := base) D_law_least T c_law_draw
  have c_law_add_bends := c_law_add_bends (P := P) (w := w) (base := base) D_law_add_bends T c_law_draw
  have c_law_cut := c_law_cut (P := P) (w := w) (base := base) D_law_cut T c_law_draw c_law_add_bends
  have c_law_sums := c_law_sums (P := P) (w := w) (base := base) D_law_sums T c_law_draw c_law_cost c_law_ones
  have c_law_twos := c_law_twos (P := P) (w := w) (base := base) D_law_twos T c_law_draw c_law_cost
  have c_law_ties := c_law_ties (P := P) (w := w) (base := base) D_law_ties T c_law_draw
  have c_law_kind_table := c_law_kind_table (P := P) (w := w) (base := base) D_law_kind_table T c_law_zero c_law_turned c_law_least c_law_cut c_law_twos c_law_sums c_law_ties
  have c_law_kind_lot := c_law_kind_lot (P := P) (w := w) (base := base) D_law_kind_lot T c_law_draw c_law_kind_table
  have c_law_sure_hard := c_law_sure_hard (P := P) (w := w) (base := base) D_law_sure_hard T c_law_draw
  have c_law_hard_lot := c_law_hard_lot (P := P) (w := w) (base := base) D_law_hard_lot T c_law_draw c_law_crisp c_law_loose c_law_first_kind c_law_sure_hard
  have c_law_any_lot := c_law_any_lot (P := P) (w := w) (base := base) D_law_any_lot T c_law_draw c_law_hard_lot c_law_kind_lot c_law_pick c_law_kinds
  have c_law_try := c_law_try (P := P) (w := w) (base := base) D_law_try Z T c_Ledger_do
  have c_law_real := c_law_real (P := P) (w := w) (base := base) D_law_real Z T c_Table
  have c_law_book_new := c_law_book_new (P := P) (w := w) (base := base) D_law_book_new T
  have c_law_book_copy := c_law_book_copy (P := P) (w := w) (base := base) D_law_book_copy T
  have c_law_book_uses := c_law_book_uses (P := P) (w := w) (base := base) D_law_book_uses T
  have c_law_book_fits := c_law_book_fits (P := P) (w := w) (base := base) D_law_book_fits T
  have c_law_stands := c_law_stands (P := P) (w := w) (base := base) D_law_stands Z T c_Ledger_puzzle c_Lot c_Table c_Lot_eq c_law_book_uses c_Ledger_numbers
  have c_law_book_deed := c_law_book_deed (P := P) (w := w) (base := base) D_law_book_deed Z T c_law_draw c_law_rare c_law_pick c_law_loose c_law_kind_table
  have c_law_book_done := c_law_book_done (P := P) (w := w) (base := base) D_law_book_done Z T c_law_book_copy c_law_book_fits
  have c_Ledger_redo := c_Ledger_redo (P := P) (w := w) (base := base) Z T c_Ledger_go
  have c_Ledger_twin := c_Ledger_twin (P := P) (w := w) (base := base) Z T c_Ledger
  have c_law_step := c_law_step (P := P) (w := w) (base := base) D_law_step Z T c_law_draw c_Ledger_undo c_Ledger_redo c_law_stands c_law_book_deed c_law_book_done c_law_real c_law_try
  have c_law_back_and_forth := c_law_bf (P := P) (w := w) (base := base) D_law_back_and_forth Z T c_Ledger_undo c_Ledger_redo c_law_stands
  exact ok_law F Z T c_law_begin c_law_draw c_law_pick c_law_any_lot c_Table c_Lot c_Ledger c_law_book_new c_law_stands c_law_step c_Ledger_twin c_law_back_and_forth
end L2.KK
open PySem PySem.W PySem.Calls PyProof.Rows
theorem PySem.Challenge.cw_pricedrules_k86_ledger_undo_redo_twin_holds : PySem.Challenge.rw_pricedrules_k86_ledger_undo_redo_twin.Holds := by
  w_on; o_law
  refine HandSHeadRun.head_any (r := OpenLaw.row PySem.Challenge.rw_pricedrules_k86_ledger_undo_redo_twin) (q := view (OpenLaw.row PySem.Challenge.rw_pricedrules_k86_ledger_undo_redo_twin).prog [95]) (H := L2.KK.hkD) (ob := L2.KK.obD) (M := 12000) (loose := L2.KK.looseL) (d := HandSHeadRun.topDef (OpenLaw.row PySem.Challenge.rw_pricedrules_k86_ledger_undo_redo_twin).prog 95) (kwd := []) L2.KK.obD_eq
    (by kernel_rfl) (fun s => by kernel_rfl) L2.KK.runD (by kernel_rfl) (by kernel_rfl) (by kernel_rfl) (by rfl) (by first | assumption | decide +kernel) (by decide +kernel) ⟨rfl, rfl, rfl, rfl, rfl, by decide +kernel⟩ ?hw ?hc
  case hw => w_witness2
  case hc =>
    refine L2.walk_ofE (l := PySem.Challenge.rw_pricedrules_k86_ledger_undo_redo_twin) (n := 63) (k := 13) (x := "script") (CX := L2.CX0) rfl (by decide) (by kernel_rfl) ⟨rfl, by decide, by decide⟩ ?F (fun _ _ _ _ z => z)
    intro w mg fa h Y G hmg0
    obtain ⟨K, KX, c⟩ := Y
    have hmg : mg ("law" : PySem.Str) = some (.ref fa) := by
      have e : (HandSHeadRun.topDef (OpenLaw.row PySem.Challenge.rw_pricedrules_k86_ledger_undo_redo_twin).prog 95).name = ("law" : PySem.Str) := by kernel_rfl
      rw [← e]
      exact hmg0
    obtain ⟨fd, hb, hF⟩ := L2.KK.factsD (P := (PySem.Challenge.rw_pricedrules_k86_ledger_undo_redo_twin).prog) (w := w) KX G hmg c
    exact ⟨K, fd, L2.KK.spLaw K, KX, hb, fun H a ns hl _ hS => ⟨a, ns, rfl, hS, hl, fun _ => rfl⟩, hF⟩
