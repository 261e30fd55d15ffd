import PyProof.Rows.All
import Wide.All
import OpenK.AllK
import Wide.FinOn
import KE.KStateDown
import Lean
import KE.KSortKey
import HandS.ForMost
import HandS.SortInts
import HandS.SortOrd
import HandS.SortRule
import HandS.SortKw
import HandS.Codes
import KE.Datum
import KE.KEqDeep
import HandS.NamedTupSort
import HandS.Strs
import HandS.SetFor
import HandS.Zip
import HandS.Conv
import HandS.IsInst
import HandS.WideBits
import KE.OsArith
import HandS.Defaults
import HandS.Head0
import HandS.Head1
import HandS.Head2
import HandS.HeadEnd
import HandS.HeadHook1
import HandS.HeadHook2
import HandS.TupAny
import HandS.Exc
import HandS.ExcOwn
import HandS.ExcField
import HandS.ExcInit
import HandS.WordsExc
import HandS.ClsMeth
import HandS.Dict
import HandS.Walk
import HandS.Rev
import HandS.ExcIs
import HandS.DeepEq
import HandS.Base
import HandS.Call
import HandS.List
import HandS.Iter
import HandS.Replace
import PyProof.ToksMono
import HandS.Text
import KE.IntTextText
import HandS.More
import PyProof.StrOps2
import PySem.Challenge.RW_pricedrules_k81_telling_refused
set_option Elab.async false
set_option linter.all false
set_option maxRecDepth 100000
set_option maxHeartbeats 0
/-! Masks, least masks, blockers: plain mathematics for law k76 (and k77). -/
namespace MK
/-- a lies within b -/
abbrev sub (a b : Nat) : Prop := a &&& b = a
theorem sub_iff {a b : Nat} : sub a b ↔ ∀ i, a.testBit i = true → b.testBit i = true := by
  constructor
  · intro h i hi
    have e : (a &&& b).testBit i = a.testBit i := by rw [h]
    rw [Nat.testBit_and, hi] at e
    simpa using e
  · intro h
    apply Nat.eq_of_testBit_eq
    intro i
    rw [Nat.testBit_and]
    cases q : a.testBit i with
    | false => rfl
    | true => rw [h i q]; rfl
theorem sub_refl (a : Nat) : sub a a := Nat.and_self a
theorem sub_trans {a b c : Nat} (h : sub a b) (k : sub b c) : sub a c := sub_iff.mpr fun i x => sub_iff.mp k i (sub_iff.mp h i x)
theorem sub_anti {a b : Nat} (h : sub a b) (k : sub b a) : a = b := by
  have k' : b &&& a = b := k
  rw [Nat.and_comm] at k'
  exact h.symm.trans k'
theorem sub_zero (a : Nat) : sub 0 a := Nat.zero_and a
theorem sub_le {a b : Nat} (h : sub a b) : a ≤ b := by
  have e : a &&& b ≤ b := Nat.and_le_right
  rw [h] at e
  exact e
theorem sub_lt {a b n : Nat} (h : sub a b) (k : b < n) : a < n := Nat.lt_of_le_of_lt (sub_le h) k
theorem sub_or_left (a b : Nat) : sub a (a ||| b) := sub_iff.mpr fun i h => by rw [Nat.testBit_or, h]; rfl
theorem sub_or_right (a b : Nat) : sub b (a ||| b) := sub_iff.mpr fun i h => by rw [Nat.testBit_or, h, Bool.or_true]
theorem or_sub {a b c : Nat} (h : sub a c) (k : sub b c) : sub (a ||| b) c := sub_iff.mpr fun i x => by
  rw [Nat.testBit_or, Bool.or_eq_true] at x
  rcases x with x | x
  · exact sub_iff.mp h i x
  · exact sub_iff.mp k i x
theorem bit_sub {i b : Nat} : sub (2 ^ i) b ↔ b.testBit i = true := by
  rw [sub_iff]
  constructor
  · intro h
    exact h i (by rw [Nat.testBit_two_pow]; simp)
  · intro h j hj
    rw [Nat.testBit_two_pow] at hj
    have e : i = j := of_decide_eq_true hj
    rw [← e]; exact h
theorem and_ne {a b : Nat} : a &&& b ≠ 0 ↔ ∃ i, a.testBit i = true ∧ b.testBit i = true := by
  constructor
  · intro h
    obtain ⟨i, hi⟩ := Nat.exists_testBit_of_ne_zero h
    rw [Nat.testBit_and, Bool.and_eq_true] at hi
    exact ⟨i, hi⟩
  · rintro ⟨i, h1, h2⟩ e
    have : (a &&& b).testBit i = true := by rw [Nat.testBit_and, h1, h2]; rfl
    rw [e, Nat.zero_testBit] at this
    cases this
theorem meet_mono {a b m : Nat} (h : sub a b) (k : a &&& m ≠ 0) : b &&& m ≠ 0 := by
  obtain ⟨i, h1, h2⟩ := and_ne.mp k
  exact and_ne.mpr ⟨i, sub_iff.mp h i h1, h2⟩

/-! ### how many bits -/
def pcf : Nat → Nat → Nat
  | 0, _ => 0
  | f + 1, n => n % 2 + pcf f (n / 2)
theorem pcf_eq : ∀ (f n : Nat), n ≤ f → ∀ g, n ≤ g → pcf f n = pcf g n
  | 0, n, h, g, _ => by
    have e : n = 0 := by omega
    subst e
    clear h
    induction g with
    | zero => rfl
    | succ g ih => show 0 = 0 % 2 + pcf g (0 / 2); rw [← ih (Nat.zero_le _)]; rfl
  | f + 1, n, h, g, hg => by
    cases g with
    | zero =>
      have e : n = 0 := by omega
      subst e
      have : ∀ f, pcf f 0 = 0 := fun f => by
        induction f with
        | zero => rfl
        | succ f ih => show 0 % 2 + pcf f (0 / 2) = 0; rw [Nat.zero_div, ih]
      rw [this, this]
    | succ g =>
      show n % 2 + pcf f (n / 2) = n % 2 + pcf g (n / 2)
      rw [pcf_eq f (n / 2) (by omega) g (by omega)]
/-- how many bits are set -/
def pc (n : Nat) : Nat := pcf n n
theorem pc_zero : pc 0 = 0 := rfl
theorem pc_rec (n : Nat) : pc n = n % 2 + pc (n / 2) := by
  cases n with
  | zero => rfl
  | succ n =>
    show (n + 1) % 2 + pcf n ((n + 1) / 2) = (n + 1) % 2 + pcf ((n + 1) / 2) ((n + 1) / 2)
    rw [pcf_eq n ((n + 1) / 2) (by omega) ((n + 1) / 2) (Nat.le_refl _)]
theorem sub_half {a b : Nat} (h : sub a b) : sub (a / 2) (b / 2) ∧ a % 2 ≤ b % 2 := by
  constructor
  · show a / 2 &&& b / 2 = a / 2
    rw [← Nat.and_div_two, h]
  · have k := sub_iff.mp h 0
    rw [Nat.testBit_zero, Nat.testBit_zero, decide_eq_true_eq, decide_eq_true_eq] at k
    omega
theorem pc_mono : ∀ (n a b : Nat), b ≤ n → sub a b → pc a ≤ pc b ∧ (pc a = pc b → a = b)
  | 0, a, b, hn, h => by
    have e : b = 0 := by omega
    have e2 : a = 0 := by have := sub_le h; omega
    subst e; subst e2
    exact ⟨Nat.le_refl _, fun _ => rfl⟩
  | n + 1, a, b, hn, h => by
    by_cases hb : b = 0
    · have e2 : a = 0 := by have := sub_le h; omega
      subst hb; subst e2
      exact ⟨Nat.le_refl _, fun _ => rfl⟩
    · obtain ⟨h1, h2⟩ := sub_half h
      obtain ⟨k1, k2⟩ := pc_mono n (a / 2) (b / 2) (by omega) h1
      rw [pc_rec a, pc_rec b]
      refine ⟨by omega, fun e => ?_⟩
      have e1 : pc (a / 2) = pc (b / 2) := by omega
      have := k2 e1
      omega
theorem pc_le {a b : Nat} (h : sub a b) : pc a ≤ pc b := (pc_mono b a b (Nat.le_refl _) h).1
theorem pc_inj {a b : Nat} (h : sub a b) (e : pc b ≤ pc a) : a = b := (pc_mono b a b (Nat.le_refl _) h).2 (Nat.le_antisymm (pc_le h) e)
theorem clear_low : ∀ (n k : Nat), k ≤ n → 0 < k → pc (k &&& (k - 1)) + 1 = pc k ∧ k &&& (k - 1) < k
  | 0, k, h, h0 => by omega
  | n + 1, k, h, h0 => by
    have lt : k &&& (k - 1) < k := by
      have : k &&& (k - 1) ≤ k - 1 := Nat.and_le_right
      omega
    refine ⟨?_, lt⟩
    rw [pc_rec (k &&& (k - 1)), pc_rec k, Nat.and_div_two]
    by_cases hodd : k % 2 = 1
    · have e1 : (k &&& (k - 1)) % 2 = 0 := by
        have q := @Nat.and_mod_two_eq_one k (k - 1)
        have : ¬ (k - 1) % 2 = 1 := by omega
        omega
      have e2 : (k - 1) / 2 = k / 2 := by omega
      rw [e1, e2, Nat.and_self, hodd]
      omega
    · have e1 : (k &&& (k - 1)) % 2 = 0 := by
        have q := @Nat.and_mod_two_eq_one k (k - 1)
        omega
      have e2 : (k - 1) / 2 = k / 2 - 1 := by omega
      obtain ⟨i1, _⟩ := clear_low n (k / 2) (by omega) (by omega)
      rw [e1, e2]
      omega

/-! ### least ones -/
/-- x is least among S -/
def MinOf (S : Nat → Prop) (x : Nat) : Prop := S x ∧ ∀ k, S k → sub k x → k = x
/-- known first: keep x if none that is kept lies within it -/
def greedy : List Nat → List Nat → List Nat
  | acc, [] => acc
  | acc, x :: xs => if acc.any (fun k => k &&& x == k) then greedy acc xs else greedy (acc ++ [x]) xs
theorem greedy_append : ∀ (xs ys acc : List Nat), greedy acc (xs ++ ys) = greedy (greedy acc xs) ys
  | [], _, _ => rfl
  | x :: xs, ys, acc => by
    show (if _ then _ else _) = greedy (if _ then _ else _) ys
    split <;> exact greedy_append xs ys _
theorem any_sub {acc : List Nat} {x : Nat} : acc.any (fun k => k &&& x == k) = true ↔ ∃ k ∈ acc, sub k x := by
  rw [List.any_eq_true]
  constructor
  · rintro ⟨k, h, e⟩
    exact ⟨k, h, by simpa using e⟩
  · rintro ⟨k, h, e⟩
    exact ⟨k, h, by simpa using e⟩
theorem greedy_spec : ∀ (xs acc : List Nat), (acc ++ xs).Pairwise (fun a b => pc a ≤ pc b) → acc.Pairwise (fun a b => ¬ sub a b) →
    (∀ x ∈ greedy acc xs, x ∈ acc ++ xs) ∧ (∀ x ∈ acc ++ xs, ∃ k ∈ greedy acc xs, sub k x) ∧ (greedy acc xs).Pairwise (fun a b => ¬ sub a b) ∧ (greedy acc xs).Pairwise (fun a b => pc a ≤ pc b)
  | [], acc, h, h2 => by
    rw [List.append_nil] at h ⊢
    exact ⟨fun x hx => hx, fun x hx => ⟨x, hx, sub_refl x⟩, h2, h⟩
  | x :: xs, acc, h, h2 => by
    unfold greedy
    split
    · rename_i hs
      obtain ⟨k, hk, hkx⟩ := any_sub.mp hs
      have h' : (acc ++ xs).Pairwise (fun a b => pc a ≤ pc b) := h.sublist (List.Sublist.append (List.Sublist.refl _) (List.sublist_cons_self _ _))
      obtain ⟨a1, a2, a3, a4⟩ := greedy_spec xs acc h' h2
      refine ⟨fun y hy => ?_, fun y hy => ?_, a3, a4⟩
      · rcases List.mem_append.mp (a1 y hy) with z | z
        · exact List.mem_append_left _ z
        · exact List.mem_append_right _ (List.mem_cons_of_mem _ z)
      · rcases List.mem_append.mp hy with z | z
        · exact a2 y (List.mem_append_left _ z)
        · rcases List.mem_cons.mp z with z | z
          · subst z
            obtain ⟨k', hk', hs'⟩ := a2 k (List.mem_append_left _ hk)
            exact ⟨k', hk', sub_trans hs' hkx⟩
          · exact a2 y (List.mem_append_right _ z)
    · rename_i hs
      have no : ∀ k ∈ acc, ¬ sub k x := fun k hk hkx => hs (any_sub.mpr ⟨k, hk, hkx⟩)
      have e : acc ++ [x] ++ xs = acc ++ x :: xs := by simp
      have h2' : (acc ++ [x]).Pairwise (fun a b => ¬ sub a b) := by
        rw [List.pairwise_append]
        refine ⟨h2, List.pairwise_singleton _ _, fun a ha b hb => ?_⟩
        rw [List.mem_singleton.mp hb]
        exact no a ha
      obtain ⟨a1, a2, a3, a4⟩ := greedy_spec xs (acc ++ [x]) (by rw [e]; exact h) h2'
      rw [e] at a1 a2
      exact ⟨a1, a2, a3, a4⟩
/-- G holds just the least ones of S, smaller ones first, each once -/
structure Least (G : List Nat) (S : Nat → Prop) : Prop where
  nd : G.Nodup
  mem : ∀ x, x ∈ G ↔ MinOf S x
  up : G.Pairwise (fun a b => pc a ≤ pc b)
theorem pairwise_both {R : Nat → Nat → Prop} : ∀ {l : List Nat}, l.Pairwise R → ∀ {i j : Nat} {a b : Nat}, l[i]? = some a → l[j]? = some b → i < j → R a b := by
  intro l h i j a b ha hb hij
  obtain ⟨hi, e1⟩ := List.getElem?_eq_some_iff.mp ha
  obtain ⟨hj, e2⟩ := List.getElem?_eq_some_iff.mp hb
  rw [← e1, ← e2]
  exact List.pairwise_iff_getElem.mp h i j hi hj hij
theorem greedy_least {L : List Nat} (h : L.Pairwise (fun a b => pc a ≤ pc b)) : Least (greedy [] L) (· ∈ L) := by
  obtain ⟨a1, a2, a3, a4⟩ := greedy_spec L [] h List.Pairwise.nil
  have anti : ∀ a ∈ greedy [] L, ∀ b ∈ greedy [] L, sub a b → a = b := fun a ha b hb hs => by
    obtain ⟨i, hi⟩ := List.getElem?_of_mem ha
    obtain ⟨j, hj⟩ := List.getElem?_of_mem hb
    rcases Nat.lt_trichotomy i j with z | z | z
    · exact absurd hs (pairwise_both a3 hi hj z)
    · subst z
      rw [hi] at hj
      exact Option.some.inj hj
    · have := pairwise_both a4 hj hi z
      exact pc_inj hs this
  refine ⟨a3.imp fun {a b} (h : ¬ sub a b) (e : a = b) => h (by rw [e]; exact sub_refl b), fun x => ⟨fun hx => ⟨a1 x hx, fun k hk hs => ?_⟩, fun hx => ?_⟩, a4⟩
  · obtain ⟨k', hk', hs'⟩ := a2 k hk
    have e := anti k' hk' x hx (sub_trans hs' hs)
    subst e
    exact sub_anti hs hs'
  · obtain ⟨k', hk', hs'⟩ := a2 x hx.1
    rw [← hx.2 k' (a1 k' hk') hs']
    exact hk'
theorem Least.perm {G G' : List Nat} {S S' : Nat → Prop} (a : Least G S) (b : Least G' S') (h : ∀ x, MinOf S x ↔ MinOf S' x) : G.Perm G' :=
  (List.perm_ext_iff_of_nodup a.nd b.nd).mpr fun x => by rw [a.mem, b.mem, h]
theorem MinOf.congr {S S' : Nat → Prop} (h : ∀ x, S x ↔ S' x) (x : Nat) : MinOf S x ↔ MinOf S' x := by
  unfold MinOf
  rw [h x]
  exact and_congr_right fun _ => ⟨fun f k hk => f k ((h k).mpr hk), fun f k hk => f k ((h k).mp hk)⟩
/-- A among B, and each of B holds one of A: the least ones are the same -/
theorem MinOf.dense {A B : Nat → Prop} (h : ∀ x, A x → B x) (k : ∀ x, B x → ∃ y, A y ∧ sub y x) (x : Nat) : MinOf A x ↔ MinOf B x := by
  constructor
  · rintro ⟨ax, hx⟩
    refine ⟨h x ax, fun y hy hs => ?_⟩
    obtain ⟨z, az, hz⟩ := k y hy
    have e := hx z az (sub_trans hz hs)
    subst e
    exact sub_anti hs hz
  · rintro ⟨bx, hx⟩
    obtain ⟨z, az, hz⟩ := k x bx
    have e := hx z (h z az) hz
    subst e
    exact ⟨az, fun y hy hs => hx y (h y hy) hs⟩
/-- each holds a least one -/
theorem exists_min {S : Nat → Prop} : ∀ (n x : Nat), x ≤ n → S x → ∃ y, MinOf S y ∧ sub y x
  | n, x, hn, hx => by
    by_cases h : ∃ k, S k ∧ sub k x ∧ k ≠ x
    · obtain ⟨k, hk, hs, ne⟩ := h
      have lt : k < x := by
        have := sub_le hs
        omega
      cases n with
      | zero => omega
      | succ n =>
        obtain ⟨y, hy, hys⟩ := exists_min n k (by omega) hk
        exact ⟨y, hy, sub_trans hys hs⟩
    · refine ⟨x, ⟨hx, fun k hk hs => ?_⟩, sub_refl x⟩
      exact Classical.byContradiction fun ne => h ⟨k, hk, hs, ne⟩
theorem min_min {S : Nat → Prop} (x : Nat) : MinOf (MinOf S) x ↔ MinOf S x := MinOf.dense (fun _ h => h.1) (fun x hx => exists_min x x (Nat.le_refl _) hx) x

/-! ### meeting -/
/-- t meets each of ms, over many numbers -/
def Tr (ms : List Nat) (many : Nat) (t : Nat) : Prop := t < 2 ^ many ∧ ∀ m ∈ ms, t &&& m ≠ 0
def bitsOf (m many : Nat) : List Nat := (List.range many).filter fun i => m.testBit i
theorem mem_bitsOf {m many i : Nat} : i ∈ bitsOf m many ↔ i < many ∧ m.testBit i = true := by
  unfold bitsOf
  rw [List.mem_filter, List.mem_range]
/-- one step: what a known one grows into -/
def grow1 (m many k : Nat) : List Nat := if k &&& m ≠ 0 then [k] else (bitsOf m many).map fun i => k ||| 2 ^ i
def grow (m many : Nat) (found : List Nat) : List Nat := found.flatMap (grow1 m many)
theorem grow_append (m many : Nat) (xs ys : List Nat) : grow m many (xs ++ ys) = grow m many xs ++ grow m many ys := by
  unfold grow
  rw [List.flatMap_append]
theorem bit_of_lt {n many i : Nat} (h : n < 2 ^ many) (k : n.testBit i = true) : i < many := by
  cases Nat.lt_or_ge i many with
  | inl q => exact q
  | inr q =>
    rw [Nat.testBit_lt_two_pow (Nat.lt_of_lt_of_le h (Nat.pow_le_pow_right (by decide) q))] at k
    cases k
theorem grow_min {ms : List Nat} {many m : Nat} {found : List Nat} (hf : ∀ x, x ∈ found ↔ MinOf (Tr ms many) x) (x : Nat) :
    MinOf (· ∈ grow m many found) x ↔ MinOf (Tr (ms ++ [m]) many) x := by
  refine MinOf.dense (fun y hy => ?_) (fun t ht => ?_) x
  · obtain ⟨k, hk, hy⟩ := List.mem_flatMap.mp hy
    have hk' := (hf k).mp hk
    unfold grow1 at hy
    split at hy
    · rename_i hm
      rw [List.mem_singleton] at hy
      subst hy
      refine ⟨hk'.1.1, fun z hz => ?_⟩
      rcases List.mem_append.mp hz with hz | hz
      · exact hk'.1.2 z hz
      · rw [List.mem_singleton.mp hz]
        exact hm
    · obtain ⟨i, hi, rfl⟩ := List.mem_map.mp hy
      obtain ⟨h1, h2⟩ := mem_bitsOf.mp hi
      refine ⟨Nat.or_lt_two_pow hk'.1.1 (Nat.pow_lt_pow_right (by decide) h1), fun z hz => ?_⟩
      rcases List.mem_append.mp hz with hz | hz
      · exact meet_mono (sub_or_left _ _) (hk'.1.2 z hz)
      · rw [List.mem_singleton.mp hz]
        refine and_ne.mpr ⟨i, ?_, h2⟩
        rw [Nat.testBit_or, Nat.testBit_two_pow]
        simp
  · have ht' : Tr ms many t := ⟨ht.1, fun z hz => ht.2 z (List.mem_append_left _ hz)⟩
    obtain ⟨k, hk, hs⟩ := exists_min t t (Nat.le_refl _) ht'
    have hkf := (hf k).mpr hk
    by_cases hm : k &&& m ≠ 0
    · refine ⟨k, List.mem_flatMap.mpr ⟨k, hkf, ?_⟩, hs⟩
      unfold grow1
      rw [if_pos hm]
      exact List.mem_singleton.mpr rfl
    · obtain ⟨i, h1, h2⟩ := and_ne.mp (ht.2 m (List.mem_append_right _ (List.mem_singleton.mpr rfl)))
      refine ⟨k ||| 2 ^ i, List.mem_flatMap.mpr ⟨k, hkf, ?_⟩, or_sub hs (bit_sub.mpr h1)⟩
      unfold grow1
      rw [if_neg hm]
      exact List.mem_map.mpr ⟨i, mem_bitsOf.mpr ⟨bit_of_lt ht.1 h1, h2⟩, rfl⟩
theorem tr_nil (many x : Nat) : x ∈ [0] ↔ MinOf (Tr [] many) x := by
  rw [List.mem_singleton]
  constructor
  · rintro rfl
    exact ⟨⟨Nat.pow_pos (by decide), fun _ h => nomatch h⟩, fun k _ hs => by have := sub_le hs; omega⟩
  · intro h
    exact (h.2 0 ⟨Nat.pow_pos (by decide), fun _ h => nomatch h⟩ (sub_zero x)).symm
/-- the blocker of the blocker -/
theorem tr_tr {ms bs : List Nat} {many : Nat} (hm : ∀ m ∈ ms, m < 2 ^ many) (hb : ∀ x, x ∈ bs ↔ MinOf (Tr ms many) x) (x : Nat) : MinOf (Tr bs many) x ↔ MinOf (· ∈ ms) x := by
  refine (MinOf.dense (A := (· ∈ ms)) (B := Tr bs many) (fun m h => ⟨hm m h, fun b hb' => ?_⟩) (fun t ht => ?_) x).symm
  · have := ((hb b).mp hb').1.2 m h
    rw [Nat.and_comm]
    exact this
  · refine Classical.byContradiction fun no => ?_
    -- the complement of t meets each of ms
    have tr : Tr ms many ((2 ^ many - 1) ^^^ t) := by
      refine ⟨Nat.xor_lt_two_pow (by have := Nat.pow_pos (n := many) (show 0 < 2 by decide); omega) ht.1, fun m h => ?_⟩
      have : ¬ sub m t := fun hs => no ⟨m, h, hs⟩
      rw [sub_iff] at this
      obtain ⟨i, hi⟩ := Classical.not_forall.mp this
      obtain ⟨h1, h2⟩ := Classical.not_imp.mp hi
      refine and_ne.mpr ⟨i, ?_, h1⟩
      rw [Nat.testBit_xor, Nat.testBit_two_pow_sub_one, decide_eq_true (bit_of_lt (hm m h) h1)]
      simpa using h2
    obtain ⟨y, hy, hs⟩ := exists_min _ _ (Nat.le_refl _) tr
    obtain ⟨i, h1, h2⟩ := and_ne.mp (ht.2 y ((hb y).mpr hy))
    have h3 := sub_iff.mp hs i h2
    rw [Nat.testBit_xor, h1] at h3
    rw [Nat.testBit_two_pow_sub_one, decide_eq_true (bit_of_lt ht.1 h1)] at h3
    cases h3

/-! ### how many masks lie within one -/
def subs : Nat → Nat → List Nat
  | 0, _ => [0]
  | f + 1, n => if n % 2 = 1 then (subs f (n / 2)).flatMap fun x => [2 * x, 2 * x + 1] else (subs f (n / 2)).map fun x => 2 * x
theorem flat2_len (l : List Nat) : (l.flatMap fun x => [2 * x, 2 * x + 1]).length = 2 * l.length := by
  induction l with
  | nil => rfl
  | cons a l ih => rw [List.flatMap_cons, List.length_append, ih, List.length_cons]; simp only [List.length_cons, List.length_nil]; omega
theorem subs_len : ∀ (f n : Nat), (subs f n).length = 2 ^ pcf f n
  | 0, _ => rfl
  | f + 1, n => by
    unfold subs
    show _ = 2 ^ (n % 2 + pcf f (n / 2))
    split
    · rename_i h
      rw [flat2_len, subs_len f, h, Nat.pow_add]
    · rename_i h
      have e : n % 2 = 0 := by omega
      rw [List.length_map, subs_len f, e, Nat.zero_add]
theorem mem_subs : ∀ (f n x : Nat), n ≤ f → sub x n → x ∈ subs f n
  | 0, n, x, h, hs => by
    have e : x = 0 := by have := sub_le hs; omega
    subst e
    exact List.mem_singleton.mpr rfl
  | f + 1, n, x, h, hs => by
    obtain ⟨h1, h2⟩ := sub_half hs
    have ih := mem_subs f (n / 2) (x / 2) (by omega) h1
    unfold subs
    split
    · refine List.mem_flatMap.mpr ⟨x / 2, ih, ?_⟩
      have : x % 2 = 0 ∨ x % 2 = 1 := by omega
      rcases this with e | e
      · have : x = 2 * (x / 2) := by omega
        rw [this]
        simp
      · have : x = 2 * (x / 2) + 1 := by omega
        rw [this]
        simp
        omega
    · exact List.mem_map.mpr ⟨x / 2, ih, by omega⟩
theorem within_len {l : List Nat} {U : Nat} (h : l.Nodup) (k : ∀ x ∈ l, sub x U) : l.length ≤ 2 ^ pc U := by
  have := h.length_le_of_subset (l₂ := subs U U) fun x hx => mem_subs U U x (Nat.le_refl _) (k x hx)
  rw [subs_len] at this
  exact this
theorem min_within {ms : List Nat} {U many : Nat} (h : ∀ m ∈ ms, sub m U) (hU : U < 2 ^ many) {x : Nat} (hx : MinOf (Tr ms many) x) : sub x U := by
  have tr : Tr ms many (x &&& U) := by
    refine ⟨Nat.lt_of_le_of_lt Nat.and_le_right hU, fun m hm => ?_⟩
    obtain ⟨i, h1, h2⟩ := and_ne.mp (hx.1.2 m hm)
    refine and_ne.mpr ⟨i, ?_, h2⟩
    rw [Nat.testBit_and, h1, sub_iff.mp (h m hm) i h2]
    rfl
  have e := hx.2 (x &&& U) tr (sub_iff.mpr fun i hi => by
    rw [Nat.testBit_and, Bool.and_eq_true] at hi
    exact hi.1)
  exact e
theorem grow1_len (m many k : Nat) : (grow1 m many k).length ≤ many + 1 := by
  unfold grow1
  split
  · show 1 ≤ many + 1
    omega
  · rw [List.length_map]
    unfold bitsOf
    have := List.length_filter_le (fun i => m.testBit i) (List.range many)
    rw [List.length_range] at this
    omega
theorem grow_len (m many : Nat) : ∀ found : List Nat, (grow m many found).length ≤ found.length * (many + 1)
  | [] => by
    show 0 ≤ _
    omega
  | k :: l => by
    show (grow1 m many k ++ grow m many l).length ≤ (l.length + 1) * (many + 1)
    rw [List.length_append, Nat.succ_mul]
    have h1 := grow1_len m many k
    have h2 := grow_len m many l
    omega

/-! ### groups that have no number in common -/
theorem half_or_pow (k i : Nat) : (k ||| 2 ^ (i + 1)) / 2 = k / 2 ||| 2 ^ i ∧ (k ||| 2 ^ (i + 1)) % 2 = k % 2 := by
  constructor
  · apply Nat.eq_of_testBit_eq
    intro j
    rw [← Nat.testBit_add_one, Nat.testBit_or, Nat.testBit_or, Nat.testBit_two_pow, Nat.testBit_two_pow, ← Nat.testBit_add_one]
    congr 1
    simp
  · have e : (k ||| 2 ^ (i + 1)).testBit 0 = k.testBit 0 := by
      rw [Nat.testBit_or, Nat.testBit_two_pow]
      simp
    rw [Nat.testBit_zero, Nat.testBit_zero] at e
    have : (k ||| 2 ^ (i + 1)) % 2 = 1 ↔ k % 2 = 1 := by
      rw [← decide_eq_true_eq (p := (k ||| 2 ^ (i + 1)) % 2 = 1), e, decide_eq_true_eq]
    omega
theorem half_or_one (k : Nat) : (k ||| 2 ^ 0) / 2 = k / 2 ∧ (k ||| 2 ^ 0) % 2 = 1 := by
  constructor
  · apply Nat.eq_of_testBit_eq
    intro j
    rw [← Nat.testBit_add_one, Nat.testBit_or, Nat.testBit_two_pow, ← Nat.testBit_add_one]
    simp
  · have e : (k ||| 2 ^ 0).testBit 0 = true := by
      rw [Nat.testBit_or, Nat.testBit_two_pow]
      simp
    rw [Nat.testBit_zero] at e
    exact of_decide_eq_true e
theorem pc_set : ∀ (i k : Nat), k.testBit i = false → pc (k ||| 2 ^ i) = pc k + 1
  | 0, k, h => by
    obtain ⟨e1, e2⟩ := half_or_one k
    rw [Nat.testBit_zero] at h
    have h' := of_decide_eq_false h
    rw [pc_rec (k ||| 2 ^ 0), e1, e2, pc_rec k]
    omega
  | i + 1, k, h => by
    obtain ⟨e1, e2⟩ := half_or_pow k i
    rw [Nat.testBit_add_one] at h
    rw [pc_rec (k ||| 2 ^ (i + 1)), e1, e2, pc_set i (k / 2) h, pc_rec k]
    omega
theorem pc_or_pow (i k : Nat) : pc (k ||| 2 ^ i) ≤ pc k + 1 := by
  cases h : k.testBit i with
  | false => rw [pc_set i k h]; exact Nat.le_refl _
  | true =>
    have e : k ||| 2 ^ i = k := by
      apply Nat.eq_of_testBit_eq
      intro j
      rw [Nat.testBit_or, Nat.testBit_two_pow]
      by_cases hj : i = j
      · subst hj; rw [h]; rfl
      · rw [decide_eq_false hj, Bool.or_false]
    rw [e]
    omega
/-- the mask of numbers -/
def maskOf (g : List Nat) : Nat := g.foldl (fun m i => m ||| 2 ^ i) 0
theorem foldl_or_bit : ∀ (g : List Nat) (m i : Nat), (g.foldl (fun m i => m ||| 2 ^ i) m).testBit i = (m.testBit i || decide (i ∈ g))
  | [], m, i => by simp
  | a :: g, m, i => by
    rw [List.foldl_cons, foldl_or_bit g, Nat.testBit_or, Nat.testBit_two_pow, Bool.or_assoc]
    congr 1
    rw [← Bool.decide_or]
    apply decide_eq_decide.mpr
    rw [List.mem_cons, eq_comm]
theorem maskOf_bit (g : List Nat) (i : Nat) : (maskOf g).testBit i = decide (i ∈ g) := by
  unfold maskOf
  rw [foldl_or_bit, Nat.zero_testBit, Bool.false_or]
theorem foldl_pc : ∀ (g : List Nat) (m : Nat), pc (g.foldl (fun m i => m ||| 2 ^ i) m) ≤ pc m + g.length
  | [], m => Nat.le_refl _
  | a :: g, m => by
    rw [List.foldl_cons, List.length_cons]
    have h1 := foldl_pc g (m ||| 2 ^ a)
    have h2 := pc_or_pow a m
    omega
theorem maskOf_pc (g : List Nat) : pc (maskOf g) ≤ g.length := by
  have := foldl_pc g 0
  rw [pc_zero] at this
  unfold maskOf
  omega
theorem foldl_or_lt : ∀ (g : List Nat) (m n : Nat), m < 2 ^ n → (∀ i ∈ g, i < n) → g.foldl (fun m i => m ||| 2 ^ i) m < 2 ^ n
  | [], m, n, h, _ => h
  | a :: g, m, n, h, k => foldl_or_lt g _ n (Nat.or_lt_two_pow h (Nat.pow_lt_pow_right (by decide) (k a List.mem_cons_self))) fun i hi => k i (List.mem_cons_of_mem _ hi)
theorem maskOf_lt {g : List Nat} {n : Nat} (h : ∀ i ∈ g, i < n) : maskOf g < 2 ^ n := foldl_or_lt g 0 n (Nat.pow_pos (by decide)) h
theorem or_add : ∀ (a b n : Nat), a ≤ n → a &&& b = 0 → a ||| b = a + b
  | a, b, 0, h, _ => by
    have e : a = 0 := by omega
    subst e
    rw [Nat.zero_or, Nat.zero_add]
  | a, b, n + 1, h, e => by
    by_cases h0 : a = 0
    · subst h0
      rw [Nat.zero_or, Nat.zero_add]
    have e1 : a / 2 &&& b / 2 = 0 := by rw [← Nat.and_div_two, e]
    have ih := or_add (a / 2) (b / 2) n (by omega) e1
    have e2 : (a ||| b) / 2 = a / 2 ||| b / 2 := by
      apply Nat.eq_of_testBit_eq
      intro j
      rw [← Nat.testBit_add_one, Nat.testBit_or, Nat.testBit_or, Nat.testBit_add_one, Nat.testBit_add_one]
    have e3 : ¬ (a % 2 = 1 ∧ b % 2 = 1) := fun z => by
      have := Nat.and_mod_two_eq_one.mpr z
      omega
    have e4 : (a ||| b).testBit 0 = (a.testBit 0 || b.testBit 0) := Nat.testBit_or a b 0
    rw [Nat.testBit_zero, Nat.testBit_zero, Nat.testBit_zero, ← Bool.decide_or, decide_eq_decide] at e4
    omega
theorem or_and_xor (a b : Nat) : a ||| b = (a ^^^ b) + (a &&& b) := by
  rw [← or_add (a ^^^ b) (a &&& b) _ (Nat.le_refl _)]
  · apply Nat.eq_of_testBit_eq
    intro i
    rw [Nat.testBit_or, Nat.testBit_or, Nat.testBit_xor, Nat.testBit_and]
    cases a.testBit i <;> cases b.testBit i <;> rfl
  · apply Nat.eq_of_testBit_eq
    intro i
    rw [Nat.testBit_and, Nat.testBit_xor, Nat.testBit_and, Nat.zero_testBit]
    cases a.testBit i <;> cases b.testBit i <;> rfl
theorem or_disj {a b : Nat} (h : ∀ i, a.testBit i = true → b.testBit i = true → False) : a ||| b = a + b := by
  have e : a &&& b = 0 := Classical.byContradiction fun ne => by
    obtain ⟨i, h1, h2⟩ := and_ne.mp ne
    exact h i h1 h2
  exact or_add a b a (Nat.le_refl _) e
theorem foldl_or_sum : ∀ (g : List Nat) (m : Nat), g.Nodup → (∀ i ∈ g, m.testBit i = false) → g.foldl (fun m i => m ||| 2 ^ i) m = m + (g.map (2 ^ ·)).sum
  | [], m, _, _ => by simp
  | a :: g, m, hn, h => by
    obtain ⟨h1, h2⟩ := List.nodup_cons.mp hn
    have e : m ||| 2 ^ a = m + 2 ^ a := or_disj fun i x y => by
      rw [Nat.testBit_two_pow] at y
      have := of_decide_eq_true y
      subst this
      rw [h a List.mem_cons_self] at x
      cases x
    rw [List.foldl_cons, foldl_or_sum g _ h2 (fun i hi => ?_), e, List.map_cons, List.sum_cons]
    · omega
    · rw [Nat.testBit_or, h i (List.mem_cons_of_mem _ hi), Nat.testBit_two_pow, Bool.false_or, decide_eq_false]
      rintro rfl
      exact h1 hi
theorem maskOf_sum {g : List Nat} (h : g.Nodup) : (g.map (2 ^ ·)).sum = maskOf g := by
  unfold maskOf
  rw [foldl_or_sum g 0 h fun i _ => Nat.zero_testBit i]
  omega
/-- one of each group -/
def due1 (due g : List Nat) : List Nat := due.flatMap fun m => g.map fun i => m ||| 2 ^ i
def dueOf (gs : List (List Nat)) : List Nat := gs.foldl due1 [0]
structure Due (gs : List (List Nat)) (n many : Nat) (due : List Nat) : Prop where
  nd : due.Nodup
  pcs : ∀ x ∈ due, pc x = n
  inn : ∀ x ∈ due, ∀ i, x.testBit i = true → i ∈ gs.flatten
  mem : ∀ x, x ∈ due ↔ MinOf (Tr (gs.map maskOf) many) x
theorem due_step {gs : List (List Nat)} {n many : Nat} {due g : List Nat} (D : Due gs n many due) (hg : g.Nodup) (hd : ∀ i ∈ g, i ∉ gs.flatten) (hl : ∀ i ∈ g, i < many) : Due (gs ++ [g]) (n + 1) many (due1 due g) := by
  have off : ∀ x ∈ due, ∀ i ∈ g, x.testBit i = false := fun x hx i hi => by
    cases h : x.testBit i with
    | false => rfl
    | true => exact absurd (D.inn x hx i h) (hd i hi)
  have pcs : ∀ x ∈ due1 due g, pc x = n + 1 := fun x hx => by
    obtain ⟨k, hk, hx⟩ := List.mem_flatMap.mp hx
    obtain ⟨i, hi, rfl⟩ := List.mem_map.mp hx
    rw [pc_set i k (off k hk i hi), D.pcs k hk]
  refine ⟨?_, pcs, fun x hx i hb => ?_, fun x => ?_⟩
  · show (due.flatMap _).Pairwise _
    rw [List.pairwise_flatMap]
    refine ⟨fun k hk => ?_, D.nd.imp_of_mem fun {a b} ha hb ne x hx y hy e => ?_⟩
    · rw [List.pairwise_map]
      refine hg.imp_of_mem fun {i j} hi hj ne e => ?_
      have h1 : (k ||| 2 ^ i).testBit i = true := by rw [Nat.testBit_or, Nat.testBit_two_pow]; simp
      rw [e, Nat.testBit_or, off k hk i hi, Bool.false_or, Nat.testBit_two_pow] at h1
      exact ne (of_decide_eq_true h1).symm
    · obtain ⟨i, hi, rfl⟩ := List.mem_map.mp hx
      obtain ⟨j, hj, rfl⟩ := List.mem_map.mp hy
      apply ne
      apply Nat.eq_of_testBit_eq
      intro l
      by_cases hl : l ∈ g
      · rw [off a ha l hl, off b hb l hl]
      · have h1 : (a ||| 2 ^ i).testBit l = (b ||| 2 ^ j).testBit l := by rw [e]
        rw [Nat.testBit_or, Nat.testBit_or, Nat.testBit_two_pow, Nat.testBit_two_pow, decide_eq_false (fun (z : i = l) => hl (z ▸ hi)), decide_eq_false (fun (z : j = l) => hl (z ▸ hj)), Bool.or_false, Bool.or_false] at h1
        exact h1
  · obtain ⟨k, hk, hx⟩ := List.mem_flatMap.mp hx
    obtain ⟨j, hj, rfl⟩ := List.mem_map.mp hx
    rw [Nat.testBit_or, Bool.or_eq_true, Nat.testBit_two_pow, decide_eq_true_eq] at hb
    rw [List.flatten_append, List.mem_append]
    rcases hb with hb | hb
    · exact .inl (D.inn k hk i hb)
    · subst hb
      exact .inr (by simpa using hj)
  · have key : ∀ y, y ∈ due1 due g ↔ y ∈ grow (maskOf g) many due := fun y => by
      unfold due1 grow
      rw [List.mem_flatMap, List.mem_flatMap]
      refine exists_congr fun k => and_congr_right fun hk => ?_
      unfold grow1
      have z : k &&& maskOf g = 0 := Classical.byContradiction fun ne => by
        obtain ⟨i, h1, h2⟩ := and_ne.mp ne
        rw [maskOf_bit, decide_eq_true_eq] at h2
        rw [off k hk i h2] at h1
        cases h1
      rw [if_neg (fun ne => ne z), List.mem_map, List.mem_map]
      refine exists_congr fun i => and_congr_left fun _ => ?_
      rw [mem_bitsOf, maskOf_bit, decide_eq_true_eq]
      exact ⟨fun h => ⟨hl i h, h⟩, fun h => h.2⟩
    rw [List.map_append]
    have := grow_min (m := maskOf g) D.mem x
    rw [List.map_singleton, ← this, ← MinOf.congr key x]
    constructor
    · intro hx
      exact ⟨hx, fun k hk hs => pc_inj hs (by rw [pcs k hk, pcs x hx]; exact Nat.le_refl _)⟩
    · exact fun h => h.1
theorem due_nil (many : Nat) : Due [] 0 many [0] := by
  refine ⟨List.pairwise_singleton _ _, fun x hx => ?_, fun x hx i hi => ?_, fun x => tr_nil many x⟩
  · rw [List.mem_singleton.mp hx]; rfl
  · rw [List.mem_singleton.mp hx, Nat.zero_testBit] at hi
    cases hi
/-- the masks of the groups are apart -/
theorem mask_anti {gs : List (List Nat)} (hn : gs.flatten.Nodup) (h0 : ∀ g ∈ gs, g ≠ []) : (gs.map maskOf).Nodup ∧ ∀ x, MinOf (· ∈ gs.map maskOf) x ↔ x ∈ gs.map maskOf := by
  have fl : ∀ gs : List (List Nat), gs.flatten.Nodup → (∀ g ∈ gs, g ≠ []) → gs.Pairwise (fun a b => ∀ i, i ∈ a → i ∉ b) := by
    intro gs
    induction gs with
    | nil => intro _ _; exact List.Pairwise.nil
    | cons g gs ih =>
      intro h h0
      rw [List.flatten_cons] at h
      obtain ⟨h1, h2, h3⟩ := List.nodup_append.mp h
      refine List.pairwise_cons.mpr ⟨fun b hb i hi hib => ?_, ih h2 fun x hx => h0 x (List.mem_cons_of_mem _ hx)⟩
      exact h3 i hi i (List.mem_flatten.mpr ⟨b, hb, hib⟩) rfl
  have pw := fl gs hn h0
  have sub_no : ∀ a b : List Nat, a ≠ [] → (∀ i, i ∈ a → i ∉ b) → ¬ sub (maskOf a) (maskOf b) := fun a b ha hab hs => by
    obtain ⟨i, hi⟩ := List.exists_mem_of_ne_nil a ha
    have h1 := sub_iff.mp hs i (by rw [maskOf_bit, decide_eq_true_eq]; exact hi)
    rw [maskOf_bit, decide_eq_true_eq] at h1
    exact hab i hi h1
  constructor
  · show (gs.map maskOf).Pairwise _
    rw [List.pairwise_map]
    refine pw.imp_of_mem fun {a b} ha hb hab e => sub_no a b (h0 a ha) hab ?_
    rw [e]
    exact sub_refl _
  · intro x
    refine ⟨fun h => h.1, fun h => ⟨h, fun k hk hs => ?_⟩⟩
    obtain ⟨b, hb, rfl⟩ := List.mem_map.mp h
    obtain ⟨a, ha, rfl⟩ := List.mem_map.mp hk
    obtain ⟨i, hi⟩ := List.getElem?_of_mem ha
    obtain ⟨j, hj⟩ := List.getElem?_of_mem hb
    have at_ : ∀ {i j : Nat} {a b : List Nat}, gs[i]? = some a → gs[j]? = some b → i < j → ∀ l, l ∈ a → l ∉ b := fun {i j a b} hi hj hij => by
      obtain ⟨hi', e1⟩ := List.getElem?_eq_some_iff.mp hi
      obtain ⟨hj', e2⟩ := List.getElem?_eq_some_iff.mp hj
      rw [← e1, ← e2]
      exact List.pairwise_iff_getElem.mp pw i j hi' hj' hij
    rcases Nat.lt_trichotomy i j with z | z | z
    · exact absurd hs (sub_no a b (h0 a ha) (at_ hi hj z))
    · subst z
      rw [hi] at hj
      rw [Option.some.inj hj]
    · exact absurd hs (sub_no a b (h0 a ha) fun l hl hlb => at_ hj hi z l hlb hl)
/-- supersets of masks that stand there add nothing -/
theorem tr_more {ms more : List Nat} {many : Nat} (h : ∀ m ∈ more, ∃ k ∈ ms, sub k m) (t : Nat) : Tr (ms ++ more) many t ↔ Tr ms many t := by
  constructor
  · exact fun a => ⟨a.1, fun m hm => a.2 m (List.mem_append_left _ hm)⟩
  · refine fun a => ⟨a.1, fun m hm => ?_⟩
    rcases List.mem_append.mp hm with hm | hm
    · exact a.2 m hm
    · obtain ⟨k, hk, hs⟩ := h m hm
      rw [Nat.and_comm]
      refine meet_mono hs ?_
      rw [Nat.and_comm]
      exact a.2 k hk
theorem tr_perm {ms ns : List Nat} {many : Nat} (h : ∀ x, x ∈ ms ↔ x ∈ ns) (t : Nat) : Tr ms many t ↔ Tr ns many t := by
  unfold Tr
  refine and_congr_right fun _ => ⟨fun f m hm => f m ((h m).mpr hm), fun f m hm => f m ((h m).mp hm)⟩
end MK
/-! KBase: rules of our own beside the hand layer: sorted by a def as key, the items of a list op=. -/
namespace L2.KK
open PySem PySem.Spec PyProof.Rows
section
variable {X : Cx} {pins : List (Addr × Obj)} {σ : St} {H H' : Hp} {s : Shared} {h' : Heap} {a : Addr} {o : HO}
/-- an object of ours that nobody tracked is changed and tracked from now on -/
theorem adopt {t' : Nat} (I : Inv X pins σ H s) (f : FpOk X pins H a) (k : ∀ b u, b ≠ a → s.heap.get? b = some u → h'.get? b = some u) (new : ObjOk X.prog X.w (upd H a o) h' a o) :
    Inv X pins σ (upd H a o) { s with heap := h', toks := t' } := by
  obtain ⟨f0, f1, f2, f3, f4, f5⟩ := f
  have nb : ∀ b u, H b = some u → b ≠ a := fun b u e => ne_of_none e f0
  refine I.step (g' := s.gens) (d' := s.drawn) (ch := [a]) (fun b hb => ?_) (fun b u _ _ hc e _ => k b u (fun z => hc (by rw [z]; exact List.mem_singleton.mpr rfl)) e)
    (fun b u _ _ hc e _ => ⟨u.slots, k b u (fun z => hc (by rw [z]; exact List.mem_singleton.mpr rfl)) e⟩) (fun b u hc e n => ?_) (fun b u hc e => ⟨u, k b u (fun z => hc (by rw [z]; exact List.mem_singleton.mpr rfl)) e⟩)
    (fun b xs e => by rw [upd_ne (nb b _ e)]; exact e) (fun b u xs e => by rw [upd_ne (nb b _ e)]; exact e) (fun b ps e => ⟨#[], by rw [upd_ne (nb b _ e), e]; simp⟩) (fun m hm => ?_) (fun b u e => ?_) I.bare
  · rw [List.mem_singleton.mp hb]
    exact ⟨f3, f1, f4, f5⟩
  · rw [upd_ne (fun z => hc (by rw [z]; exact List.mem_singleton.mpr rfl))]
    exact n
  · obtain ⟨u, es, ep, ho, r⟩ := hm
    exact ⟨u, es, ep, k _ u f1.symm ho, r⟩
  · by_cases hb : b = a
    · subst hb
      rw [upd_same] at e
      cases e
      exact new
    · rw [upd_ne hb] at e
      refine (I.hok b u e).stay (fun c v hc q => k c v ?_ q) (fun c q => by rw [upd_ne (nb c _ q)]; exact q) fun c xs q => by rw [upd_ne (nb c _ q)]; exact q
      rcases hc with z | z
      · rw [z]; exact hb
      · exact nb c _ z
variable {k : Nat} {f : Addr} {fd : FuncData} {ps : List Str} {sp : Sp}
/-- a def called from within the frames of a built-in -/
theorem run_in {A : Around} {Q : VK} {E : Value → Shared → Prop} {us : List Value} {vs : List V} (F : FnOk X.prog X.w X.K X.mg X.base CX0 k f fd ps sp) (hA : A.frames = some X.stack) (hr : Room k A) (hb : Binds X.K fd ps [])
    (I : Inv X pins σ H s) (r : Vals vs us) (h : sp vs H Q E0) : wpAny (model X.prog X.w) A (call (.ref f) us) (fun u s' => CE X.stack X.prog X.w H s Q u s') E s := by
  have hl : us.length = ps.length := by
    rw [← r.length]
    exact F.len _ _ _ _ h
  have e := I.env0
  have bt := hb s us I.kIn (by simpa using hl)
  rw [List.append_nil] at bt
  refine wpAny_call (codeAny_mono (F.run A X.stack s H ⟨us, []⟩ us vs Q E0 hr ⟨by rw [hA], e.mod, e.bs, e.bsz, e.funs, e.frf, e.hok, e.bare⟩ bt r h) fun q s' hq => ?_)
  cases q with
  | error e => exact hq.elim
  | ok fl =>
    cases fl with
    | ret u => exact hq
    | next => exact hq.elim
    | brk => exact hq.elim
    | cont => exact hq.elim
theorem ce_inv {Q : VK} {u : Value} {s' : Shared} (I : Inv X pins σ H s) (h : CE X.stack X.prog X.w H s Q u s') :
    ∃ v H', Inv X pins σ H' s' ∧ RelV v u ∧ Q v H' ∧ Un (frs X.stack) [] H H' s.heap s'.heap := by
  obtain ⟨v, H', os, bare, un, hok, r, q⟩ := h
  exact ⟨v, H', I.call' os un hok bare (fun b hb => nomatch hb), r, q, un⟩
theorem notStk {b : Addr} (I : Inv X pins σ H s) (f : FpOk X pins H b) : b ∉ frs X.stack := fun hb => by
  rcases List.mem_cons.mp (I.stkSub b hb) with z | z
  · exact f.2.1 z
  · exact f.2.2.1 z

/-! ### sorted(xs, key=f), f a def of the program -/

theorem paired_append {α β : Type} {F : α → β → Prop} : ∀ {a c : List α} {b d : List β}, Paired F a b → Paired F c d → Paired F (a ++ c) (b ++ d)
  | _, _, _, _, .nil, h => h
  | _, _, _, _, .cons r t, h => .cons r (paired_append t h)
theorem paired_left {α β : Type} {F : α → β → Prop} : ∀ {a : List α} {b : List β}, Paired F a b → ∀ y ∈ a, ∃ x, F y x
  | _, _, .cons r t, y, h => by
    rcases List.mem_cons.mp h with h | h
    · exact ⟨_, h ▸ r⟩
    · exact paired_left t y h
theorem paired_zip {α β : Type} {F : α → β → Prop} : ∀ {a : List α} {b : List β}, Paired F a b → ∀ p ∈ a.zip b, F p.1 p.2
  | _, _, .nil, p, h => by simp at h
  | _, _, .cons r t, p, h => by
    rw [List.zip_cons_cons] at h
    rcases List.mem_cons.mp h with h | h
    · rw [h]; exact r
    · exact paired_zip t p h
instance : Nonempty V := ⟨.non⟩
/-- the value of the machine, as the layer has it -/
def vOf (u : Value) : V := (absV u).getD .non
theorem vOf_eq {x : V} {u : Value} (r : RelV x u) : vOf u = x := by
  unfold vOf
  rw [r.abs]
  rfl
theorem vals_vOf : ∀ {xs : List V} {us : List Value}, Vals xs us → us.map vOf = xs
  | _, _, .nil => rfl
  | _, _, .cons r t => by rw [List.map_cons, vOf_eq r, vals_vOf t]
theorem rel_vOf : ∀ {xs : List V} {us : List Value}, Vals xs us → ∀ u ∈ us, RelV (vOf u) u
  | _, _, .cons r t, u, h => by
    rcases List.mem_cons.mp h with h | h
    · rw [h, vOf_eq r]; exact r
    · exact rel_vOf t u h
theorem vals_of_rel : ∀ {us : List Value}, (∀ u ∈ us, RelV (vOf u) u) → Vals (us.map vOf) us
  | [], _ => .nil
  | u :: us, h => .cons (h u List.mem_cons_self) (vals_of_rel fun v hv => h v (List.mem_cons_of_mem _ hv))
/-- how keys compare: kv x y H: y is the key of x; rk x: its rank -/
structure KeyKind (X : Cx) {R : Type} (rk : V → R) (kv : V → V → Hp → Prop) (ltr : R → R → Bool) : Prop where
  grow : ∀ x y H H', Same H H' → kv x y H → kv x y H'
  one : ∀ x x' y H, kv x y H → kv x' y H → rk x = rk x'
  swo : SrtO.Swo ltr
  cmp : ∀ (pins : List (Addr × Obj)) (σ : St) (H : Hp) (s : Shared) (A : Around) (us : List Value) (ρ : V → R), Room 6 A → Inv X pins σ H s → 2 ≤ us.length → (∀ u ∈ us, RelV (vOf u) u ∧ ∃ x, kv x (vOf u) H ∧ rk x = ρ (vOf u)) →
    ∃ κ, (∀ (Q : SortKind → Shared → Prop) (E : Value → Shared → Prop), Q κ s → wpAny (model X.prog X.w) A (keyKind' us.toArray) Q E s) ∧
      SrtO.Cmp X.prog X.w A s κ (fun p => p.1 ∈ us) (fun p q => ltr (ρ (vOf p.1)) (ρ (vOf q.1)))
theorem zip_toList (k : Array Value) (vs : List Value) : (k.zip vs.toArray).toList = k.toList.zip vs := by simp
theorem pw_map {α β : Type} {R : β → β → Prop} {S : α → α → Prop} {g : α → β} {l : List α} (h : l.Pairwise S) (k : ∀ a b, S a b → R (g a) (g b)) : (l.map g).Pairwise R := by
  rw [List.pairwise_map]
  exact h.imp fun {a b} => k a b
variable {kS a : Addr} {e1 : Nat} {xs : List V} {vs : List Value} {R : Type} {rk : V → R} {kv : V → V → Hp → Prop} {ltr : R → R → Bool} {P : PySem.Fin → Shared → Prop} {E : Value → Shared → Prop}
theorem key_end {A : Around} {kA : Array Value} {e : Nat} {ks : List V} (K : KeyKind X rk kv ltr) (hr : Room 6 A) (I : Inv X pins σ H' s) (h1 : s.heap.get? kS = some (seqObj "list" kA e)) (h2 : s.heap.get? a = some (seqObj "list" #[] e1)) (hne : kS ≠ a)
    (f1 : FpOk X pins H' kS) (f2 : FpOk X pins H' a) (rv : Vals ks kA.toList) (rx : Vals xs vs) (hl : ks.length = xs.length) (hz : xs.length ≤ sizeLine) (ρ : V → R) (hk : ∀ y ∈ ks, ∃ x, kv x y H' ∧ rk x = ρ y)
    (h : ∀ (qs : List (V × V)) (s' : Shared), qs.Perm (ks.zip xs) → qs.Pairwise (fun p q => ltr (ρ q.1) (ρ p.1) = false) → Inv X pins σ (upd H' a (.lst (qs.map Prod.snd))) s' → P (.done (.ret .none)) s') :
    wpAny (model X.prog X.w) A (ksk_end a false vs.toArray e1 (.ref kS) kA) P E s := by
  have lk : kA.size = ks.length := by
    have := rv.length
    rw [Array.length_toList] at this
    exact this.symm
  have lv : vs.length = xs.length := rx.length.symm
  have zs : (kA.zip vs.toArray).size = xs.length := by rw [Array.size_zip, lk, List.size_toArray, lv, hl, Nat.min_self]
  -- what is left to do once the items are in order
  have fin : ∀ st : SortSt, SrtO.Srtd (fun p q : Keyed => ltr (ρ (vOf p.1)) (ρ (vOf q.1))) (arrOf st).toList → (arrOf st).toList.Perm (kA.toList.zip vs) → failedOf st = none →
      wpAny (model X.prog X.w) A (ksk_tail a false e1 (.ref kS) st) P E s := fun st hs hp hf => by
    have hp2 : ((arrOf st).toList.map fun p : Keyed => (vOf p.1, vOf p.2)).Perm (ks.zip xs) := by
      have q := hp.map fun p : Keyed => (vOf p.1, vOf p.2)
      have ez : (kA.toList.zip vs).map (fun p : Keyed => (vOf p.1, vOf p.2)) = ks.zip xs := by
        rw [← vals_vOf rv, ← vals_vOf rx, List.zip_map]
        rfl
      rw [ez] at q
      exact q
    have so : (((arrOf st).map (·.2)).toList) = (arrOf st).toList.map Prod.snd := by rw [Array.toList_map]
    have ln : ((arrOf st).map (·.2)).size = xs.length := by
      have q := hp.length_eq
      rw [Array.length_toList, List.length_zip, Array.length_toList, lk, lv, hl, Nat.min_self] at q
      rw [Array.size_map, q]
    obtain ⟨c1, g1⟩ : ∃ c, (s.heap.update kS (Obj.mapSeq fun _ => (#[] : Array Value))).get? kS = some (seqObj "list" #[] c) := ⟨_, get?_update_seq h1 fun _ => #[]⟩
    have s1 := Heap.SameBut.update s.heap kS (Obj.mapSeq fun _ => (#[] : Array Value))
    have g2 : (s.heap.update kS (Obj.mapSeq fun _ => (#[] : Array Value))).get? a = some (seqObj "list" #[] e1) := (s1.2 a hne.symm).trans h2
    have I1 : Inv X pins σ H' { s with heap := s.heap.update kS (Obj.mapSeq fun _ => (#[] : Array Value)) } :=
      I.turned (t' := s.toks) (fun b u hb e => (s1.2 b hb).trans e) f1.1 f1.2.1 f1.2.2.2.1 f1.2.2.2.2.1 f1.2.2.2.2.2
    have s2 := Heap.SameBut.update (s.heap.update kS (Obj.mapSeq fun _ => (#[] : Array Value))) a (Obj.mapSeq fun _ => (arrOf st).map (·.2))
    obtain ⟨c2, g3⟩ : ∃ c, ((s.heap.update kS (Obj.mapSeq fun _ => (#[] : Array Value))).update a (Obj.mapSeq fun _ => (arrOf st).map (·.2))).get? a = some (seqObj "list" ((arrOf st).map (·.2)) c) :=
      ⟨_, get?_update_seq g2 fun _ => (arrOf st).map (·.2)⟩
    unfold ksk_tail
    try dsimp only
    refine wpAny_bind (listUpdate_at h1 rfl ?_ (by rw [lk, hl]; exact hz) (Nat.zero_le _))
    refine wpAny_bind (wpAny_letGo ?_)
    refine wpAny_bind (seqEpoch_at g2 rfl ?_)
    simp only [Bool.false_eq_true, if_false]
    refine wpAny_bind (listUpdate_at g2 rfl ?_ (Nat.zero_le _) (Nat.le_succ_of_le (by rw [ln]; exact hz)))
    rw [hf]
    simp only [bne_self_eq_false, Bool.false_eq_true, if_false]
    have rel2 : ∀ u ∈ (arrOf st).toList.map Prod.snd, RelV (vOf u) u := fun u hu => by
      obtain ⟨p, hp', rfl⟩ := List.mem_map.mp hu
      exact rel_vOf rx _ (List.of_mem_zip (hp.mem_iff.mp hp')).2
    have em : ((arrOf st).toList.map fun p : Keyed => (vOf p.1, vOf p.2)).map Prod.snd = ((arrOf st).toList.map Prod.snd).map vOf := by
      rw [List.map_map, List.map_map]
      rfl
    refine wpAny_pure (h ((arrOf st).toList.map fun p : Keyed => (vOf p.1, vOf p.2)) _ hp2 (pw_map hs fun p q z => z) ?_)
    refine adopt (o := .lst (((arrOf st).toList.map fun p : Keyed => (vOf p.1, vOf p.2)).map Prod.snd)) (h' := (s.heap.update kS (Obj.mapSeq fun _ => (#[] : Array Value))).update a (Obj.mapSeq fun _ => (arrOf st).map (·.2))) (t' := s.toks) I1 f2 (fun b u hb e => (s2.2 b hb).trans e) ⟨?_, (arrOf st).toList.map Prod.snd, c2, ?_, ?_⟩
    · rw [List.length_map, hp2.length_eq, List.length_zip, hl, Nat.min_self]
      exact hz
    · rw [em]
      exact vals_of_rel rel2
    · rw [← so, Array.toArray_toList]
      exact g3
  unfold ksk_end
  try dsimp only
  simp only [Bool.false_eq_true, if_false]
  by_cases h2' : vs.toArray.size < 2
  · rw [if_pos h2', if_pos h2']
    refine wpAny_bind (wpAny_pure ?_)
    rw [StateT.run_pure]
    refine wpAny_bind (wpAny_pure ?_)
    try dsimp only
    refine fin (SortSt.mk' general' (kA.zip vs.toArray) #[] 7 none) ?_ (by show (kA.zip vs.toArray).toList.Perm _; rw [zip_toList]) rfl
    show List.Pairwise _ (kA.zip vs.toArray).toList
    have : (kA.zip vs.toArray).toList.length < 2 := by
      rw [Array.length_toList, zs, ← lv, ← List.size_toArray]
      exact h2'
    match (kA.zip vs.toArray).toList, this with
    | [], _ => exact List.Pairwise.nil
    | [p], _ => exact List.pairwise_singleton _ _
  · rw [if_neg h2', if_neg h2']
    rw [List.size_toArray] at h2'
    have rk' := rel_vOf rv
    obtain ⟨κ, hkind, hT⟩ := K.cmp pins σ H' s A kA.toList ρ hr I (by rw [Array.length_toList, lk, hl, ← lv]; omega) (fun u hu => ⟨rk' u hu, hk _ (by rw [← vals_vOf rv]; exact List.mem_map.mpr ⟨u, hu, rfl⟩)⟩)
    rw [Array.toArray_toList] at hkind
    refine wpAny_bind (hkind _ _ ?_)
    have swo : SrtO.Swo (fun p q : Keyed => ltr (ρ (vOf p.1)) (ρ (vOf q.1))) := ⟨fun x y => K.swo.asym _ _, fun x y z => K.swo.tr _ _ _⟩
    refine wpAny_bind (wpAny_mono (SrtO.wpS_sortO (st0 := SortSt.mk' κ (kA.zip vs.toArray) #[] 7 none)
      (Q := fun _ st' => SrtO.Srtd (fun p q : Keyed => ltr (ρ (vOf p.1)) (ρ (vOf q.1))) (arrOf st').toList ∧ (arrOf st').toList.Perm (kA.toList.zip vs) ∧ failedOf st' = none) swo hT rfl (fun p hp => ?_) rfl rfl fun st' a1 a2 a3 => ⟨a1, ?_, a3⟩) ?_ fun _ _ e => e)
    · have hp' : p ∈ (kA.zip vs.toArray).toList := hp
      rw [zip_toList] at hp'
      obtain ⟨u, v⟩ := p
      exact (List.of_mem_zip hp').1
    · have q : (arrOf st').toList.Perm (kA.zip vs.toArray).toList := a2.perm
      rw [zip_toList] at q
      exact q
    · rintro ⟨⟨⟩, st'⟩ s' ⟨rfl, q1, q2, q3⟩
      try dsimp only
      exact fin st' q1 q2 q3
theorem key_rest {A : Around} {f : Addr} {fd : FuncData} {ps : List Str} {sp : Sp} {k : Nat} (F : FnOk X.prog X.w X.K X.mg X.base CX0 k f fd ps sp) (hA : A.frames = some X.stack) (hrk : Room k A) (hb : Binds X.K fd ps []) (K : KeyKind X rk kv ltr) (hr : Room 6 A)
    (I : Inv X pins σ H s) (h1 : s.heap.get? kS = some (seqObj "list" #[] 0)) (h2 : s.heap.get? a = some (seqObj "list" #[] e1)) (hne : kS ≠ a) (f1 : ∀ H', H' kS = none → FpOk X pins H' kS) (f2 : ∀ H', H' a = none → FpOk X pins H' a) (n1 : H kS = none) (n2 : H a = none)
    (rx : Vals xs vs) (hz : xs.length ≤ sizeLine) (hsp : ∀ x ∈ xs, ∀ H', Same H H' → ∀ Q : VK, (∀ y H'', Same H' H'' → kv x y H'' → Q y H'') → sp [x] H' Q E0)
    (h : ∀ (ys : List V) (H' : Hp) (s' : Shared), Same H H' → H' a = none → ys.Perm xs → ys.Pairwise (fun x y => ltr (rk y) (rk x) = false) → Inv X pins σ (upd H' a (.lst ys)) s' → P (.done (.ret .none)) s') :
    wpAny (model X.prog X.w) A (ksk_rest a (.ref f) false vs.toArray e1 (.ref kS)) P E s := by
  have lv : vs.length = xs.length := rx.length.symm
  unfold ksk_rest
  refine wpAny_bind (wpAny_rule ?_)
  rw [List.forIn_toArray]
  refine wpAny_bind (ksk_fold (fun i s' => ∃ (H' : Hp) (kA : Array Value) (e : Nat) (ks : List V), Inv X pins σ H' s' ∧ Same H H' ∧ s'.heap.get? kS = some (seqObj "list" kA e) ∧ s'.heap.get? a = some (seqObj "list" #[] e1) ∧
    H' kS = none ∧ H' a = none ∧ Vals ks kA.toList ∧ Paired (fun y x => kv x y H') ks (xs.take i)) vs 0 s ⟨H, #[], 0, [], I, Same.refl H, h1, h2, n1, n2, .nil, by rw [List.take_zero]; exact .nil⟩ ?step ?done)
  case step =>
    rintro j u s1 hu ⟨H1, kA, e, ks, I1, sm, g1, g2, m1, m2, rv, pk⟩
    rw [Nat.zero_add] at pk ⊢
    obtain ⟨hj, _⟩ := List.getElem?_eq_some_iff.mp hu
    have hjx : j < xs.length := by rw [← lv]; exact hj
    obtain ⟨u', hu', ru⟩ := rx.get (List.getElem?_eq_getElem hjx)
    rw [hu] at hu'
    cases hu'
    have lks : ks.length = j := by
      have q := pk.length
      rw [List.length_take] at q
      omega
    refine wpAny_bind (wpAny_attempt (wpAny_mono (run_in F hA hrk hb I1 (.cons ru .nil) (hsp _ (List.getElem_mem hjx) H1 sm (fun y H'' => Same H1 H'' ∧ kv xs[j] y H'') fun y H'' a b => ⟨a, b⟩)) (fun v s2 hc => ?_) fun _ _ z => z))
    obtain ⟨y, H2, I2, ry, ⟨sm2, ky⟩, un⟩ := ce_inv I1 hc
    try dsimp only
    have k1 := un.keep kS _ g1 m1 (notStk I1 (f1 _ m1)) (fun z => nomatch z)
    have k2 := un.keep a _ g2 m2 (notStk I1 (f2 _ m2)) (fun z => nomatch z)
    have p1 := un.free kS _ g1 m1 (fun z => nomatch z)
    have p2 := un.free a _ g2 m2 (fun z => nomatch z)
    have sk : kA.size = j := by
      have q : ks.length = kA.toList.length := Paired.length rv
      rw [Array.length_toList] at q
      exact q.symm.trans lks
    have sb := Heap.SameBut.update s2.heap kS (Obj.mapSeq (·.push v))
    obtain ⟨c, hc⟩ : ∃ c, (s2.heap.update kS (Obj.mapSeq (·.push v))).get? kS = some (seqObj "list" (kA.push v) c) := ⟨_, get?_update_seq k1 (·.push v)⟩
    have fk := f1 _ p1
    refine wpAny_bind (listUpdate_at k1 rfl ?_ (by rw [sk]; omega) (by rw [Array.size_push, sk]; omega))
    refine wpAny_pure ⟨rfl, H2, kA.push v, c, ks ++ [y], I2.turned (t' := s2.toks) (fun b o hb e => (sb.2 b hb).trans e) p1 fk.2.1 fk.2.2.2.1 fk.2.2.2.2.1 fk.2.2.2.2.2, sm.trans sm2, hc, (sb.2 a hne.symm).trans k2, p1, p2, ?_, ?_⟩
    · rw [Array.toList_push]
      exact rv.append (.cons ry .nil)
    · rw [List.take_add_one, List.getElem?_eq_getElem hjx]
      exact paired_append (Paired.mapP pk fun a b z => K.grow _ _ _ _ sm2 z) (.cons ky .nil)
  case done =>
    rintro s1 ⟨H1, kA, e, ks, I1, sm, g1, g2, m1, m2, rv, pk⟩
    have et : xs.take (0 + vs.length) = xs := List.take_of_length_le (by omega)
    rw [et] at pk
    try dsimp only
    refine wpAny_bind (listItems_at g1 rfl ?_)
    have rho : ∀ y x, kv x y H1 → rk x = rk (Classical.epsilon fun x => kv x y H1) := fun y x hx => K.one _ _ _ _ hx (Classical.epsilon_spec (p := fun x => kv x y H1) ⟨x, hx⟩)
    refine key_end K hr I1 g1 g2 hne (f1 _ m1) (f2 _ m2) rv rx pk.length hz (fun y => rk (Classical.epsilon fun x => kv x y H1)) (fun y hy => ?_) fun qs s' a1 a2 a3 => h (qs.map Prod.snd) H1 s' sm m2 ?_ ?_ a3
    · obtain ⟨x, hx⟩ := paired_left pk y hy
      exact ⟨x, hx, rho y x hx⟩
    · have q := a1.map Prod.snd
      rw [List.map_snd_zip (by rw [pk.length]; exact Nat.le_refl _)] at q
      exact q
    · rw [List.pairwise_map]
      refine a2.imp_of_mem fun {p q} hp hq z => ?_
      rw [rho _ _ (paired_zip pk _ (a1.mem_iff.mp hp)), rho _ _ (paired_zip pk _ (a1.mem_iff.mp hq))]
      exact z
/-- sorted(xs, key=f) -/
def rSortedF (K : PySem.W.Frag) (f : Addr) (sp : Sp) {R : Type} (rk : V → R) (kv : V → V → Hp → Prop) (ltr : R → R → Bool) : List V → List V → Hp → VK → Prop := fun vs zs H Q => ∃ (a : Addr) (xs : List V), vs = [.ref a] ∧ zs = [.ref f] ∧ SqL K H a xs ∧
  (∀ x ∈ xs, ∀ H', Same H H' → ∀ Q : VK, (∀ y H'', Same H' H'' → kv x y H'' → Q y H'') → sp [x] H' Q E0) ∧
  ∀ (ys : List V) (p : Addr) (H' : Hp), Same H H' → H' p = none → ys.Perm xs → ys.Pairwise (fun x y => ltr (rk y) (rk x) = false) → Q (.ref p) (upd H' p (.lst ys))
theorem cr_sortedF {f : Addr} {fd : FuncData} {ps : List Str} {sp : Sp} {k : Nat} (F : FnOk X.prog X.w X.K X.mg X.base CX0 k f fd ps sp) (hb : Binds X.K fd ps []) (hr : Room (k + 8) X.A) (K : KeyKind X rk kv ltr) : CallRK X (.builtin "sorted") [Str.ofString "key"] (rSortedF X.K f sp rk kv ltr) := by
  intro pins s σ H ws zs us ts Q I r rz h
  obtain ⟨l, xs, rfl, rfl, hl, hsp, q⟩ := h
  obtain rfl := Vals.ref1 r
  obtain ⟨w1, rfl, ew⟩ := vals1 rz
  obtain rfl : w1 = Value.ref f := ew
  obtain ⟨vs, rx, pl, hz⟩ := I.list hl
  have lv : vs.length = xs.length := rx.length.symm
  have r2 : Room (k + 6) X.A.in1.in1 := (show Room (k + 6 + 1) X.A.in1 from Room.in1 hr).in1
  refine call_function_entry_kw kind_sorted plain_sorted entry_sorted (ksk_s1 _ _) ?_
  unfold Builtin.«sorted»
  refine wpAny_bind (m := checkCount "sorted" 1 1 _) (wpAny_pure ?_)
  refine wpAny_bind (collect_list pl.isList ?_ (by rw [lv]; exact hz))
  refine wpAny_bind (wpAny_newList ?_ (by rw [lv]; exact hz))
  generalize hg : (s.heap.push (seqObj "list" #[] 0)).update s.heap.objs.size (Obj.mapSeq (· ++ vs.toArray)) = g
  have gs : g.objs.size = s.heap.objs.size + 1 := by rw [← hg, Heap.size_update, size_push']
  have keep : ∀ b o, s.heap.get? b = some o → g.get? b = some o := fun b o e => by
    rw [← hg, Heap.get?_update_ne _ _ _ _ (Nat.ne_of_lt (Heap.lt_size e))]
    exact Heap.get?_push_of_some _ e
  have I1 : Inv X pins σ H { s with heap := g } := I.kept (t' := s.toks) keep
  have ho : (g.push (seqObj "list" vs.toArray 0)).get? g.objs.size = some (seqObj "list" vs.toArray 0) := Heap.get?_push_size _ rfl
  have I2 : Inv X pins σ H { s with heap := g.push (seqObj "list" vs.toArray 0) } := I1.kept (t' := s.toks) fun b o e => Heap.get?_push_of_some _ e
  have f2 : ∀ H', H' g.objs.size = none → FpOk X pins H' g.objs.size := fun H' n => I1.fpOk (s := { s with heap := g }) (Nat.le_refl _) n
  have n2 : H g.objs.size = none := I1.hok.fresh (Nat.le_refl _)
  refine wpAny_bind (wpAny_holding (wpAny_call_entry_kw (T := "list") (s := { s with heap := g.push (seqObj "list" vs.toArray 0) }) slot_list_sort ⟨_, ho, rfl⟩ entry_list_sort ?body (ksk_l1 _ _)))
  case body =>
    show wpAny _ X.A.in1.in1 (Builtin.«list.sort» ⟨[.ref g.objs.size], [(Str.ofString "key", .ref f)]⟩) _ _ _
    rw [ksk_t1]
    unfold ksk_tree
    have s1 := Heap.SameBut.update (g.push (seqObj "list" vs.toArray 0)) g.objs.size (Obj.mapSeq fun _ => (#[] : Array Value))
    obtain ⟨e1, g1⟩ : ∃ e1, ((g.push (seqObj "list" vs.toArray 0)).update g.objs.size (Obj.mapSeq fun _ => (#[] : Array Value))).get? g.objs.size = some (seqObj "list" #[] e1) := ⟨_, get?_update_seq ho fun _ => #[]⟩
    generalize hg2 : (g.push (seqObj "list" vs.toArray 0)).update g.objs.size (Obj.mapSeq fun _ => (#[] : Array Value)) = g2 at s1 g1
    have gs2 : g2.objs.size = g.objs.size + 1 := by rw [← hg2, Heap.size_update, size_push']
    have fa := f2 H n2
    have I3 : Inv X pins σ H { s with heap := g2 } := I2.turned (t' := s.toks) (fun b o hb e => (s1.2 b hb).trans e) fa.1 fa.2.1 fa.2.2.2.1 fa.2.2.2.2.1 fa.2.2.2.2.2
    refine wpAny_bind (listItems_at ho rfl ?_)
    refine wpAny_bind (listUpdate_at ho rfl ?_ (by rw [List.size_toArray, lv]; exact hz) (Nat.zero_le _))
    rw [hg2]
    refine wpAny_bind (seqEpoch_at g1 rfl ?_)
    refine wpAny_bind (wpAny_newTuple ?_ (by show vs.length ≤ _; rw [lv]; exact hz))
    have I4 : Inv X pins σ H { s with heap := g2.push (seqObj "tuple" vs.toArray 0) } := I3.kept (t' := s.toks) fun b o e => Heap.get?_push_of_some _ e
    generalize hg3 : g2.push (seqObj "tuple" vs.toArray 0) = g3 at I4
    have gs3 : g3.objs.size = g2.objs.size + 1 := by rw [← hg3, size_push']
    have e3 : g3.get? g.objs.size = some (seqObj "list" #[] e1) := by rw [← hg3]; exact Heap.get?_push_of_some _ g1
    refine wpAny_bind (wpAny_newList ?_ (Nat.zero_le _))
    refine wpAny_holding ?_
    have I5 : Inv X pins σ H { s with heap := g3.push (seqObj "list" #[] 0) } := I4.kept (t' := s.toks) fun b o e => Heap.get?_push_of_some _ e
    have f1 : ∀ H', H' g3.objs.size = none → FpOk X pins H' g3.objs.size := fun H' n => I4.fpOk (s := { s with heap := g3 }) (Nat.le_refl _) n
    have hX := I.ok.frames
    refine key_rest F (by rw [← hX]) (r2.mono (by omega)) hb K (r2.mono (by omega)) I5 (Heap.get?_push_size _ rfl) (Heap.get?_push_of_some _ e3) (fun z => by have z' : (g3.objs.size : Nat) = g.objs.size := z; omega) f1 f2 (I4.hok.fresh (Nat.le_refl _)) n2 rx hz hsp fun ys H' s' a1 a2 a3 a4 a5 => ?_
    refine ⟨_, rfl, ?_⟩
    exact wpAny_pure ⟨_, rfl, .ref g.objs.size, _, a5, rfl, q ys _ H' a1 a2 a3 a4⟩
end
end L2.KK
namespace L2.KK
open PySem PySem.Spec PyProof.Rows
section
variable {X : Cx}
/-! ### o[i] of a list, for o[i] op= e -/
/-- o[j], 0 ≤ j, of a list -/
def rGetL (K : PySem.W.Frag) : V → V → Hp → VK → Prop := fun x y H Q => ∃ (p : Addr) (xs : List V) (j : Nat) (v : V), x = .ref p ∧ y = .int (j : Int) ∧ SqL K H p xs ∧ xs[j]? = some v ∧ j < 1000 ∧ Q v H
theorem get_list : PGet X (rGetL X.K) := by
  intro pins s σ H o i ov iv Q I ro ri h
  obtain ⟨p, xs, j, v, rfl, rfl, hl, hj, hb, q⟩ := h
  obtain rfl : ov = Value.ref p := ro
  obtain ⟨t, rfl⟩ := ri
  obtain ⟨its, rv, pl, hz⟩ := I.list hl
  obtain ⟨u, hu, ru⟩ := rv.get hj
  have hlt : j < its.length := (List.getElem?_eq_some_iff.mp hu).1
  refine wpAny_getItem_list (x := u) pl.isList (by omega) (by omega) ?_ ?_ 
  all_goals first
    | exact ⟨v, H, I, ru, q⟩
    | (simp; omega)
    | simpa using hu
/-! ### keys that are ints -/
def kInt (g : V → Int) : V → V → Hp → Prop := fun x y _ => y = .int (g x)
theorem key_int (g : V → Int) : KeyKind X g (kInt g) (fun i j => decide (i < j)) where
  grow := fun _ _ _ _ _ h => h
  one := fun x x' y H h h' => by
    have a : y = .int (g x) := h
    have b : y = .int (g x') := h'
    rw [a] at b
    injection b
  swo := ⟨fun x y h => by
    have := of_decide_eq_true h
    exact decide_eq_false (by omega), fun x y z h1 h2 => by
    have a := of_decide_eq_false h1
    have b := of_decide_eq_false h2
    exact decide_eq_false (by omega)⟩
  cmp := fun pins σ H s A us ρ hr I h2 hu => by
    have ex : ∀ u ∈ us, ∃ t, u = .int (ρ (vOf u)) t := fun u m => by
      obtain ⟨r, x, hx, e⟩ := hu u m
      have e2 : vOf u = .int (g x) := hx
      rw [e2] at r
      obtain ⟨t, et⟩ := r
      exact ⟨t, by rw [← e]; exact et⟩
    have all : ∀ l : List Value, (∀ u ∈ l, ∃ t, u = .int (ρ (vOf u)) t) → IntsAre l (l.map fun u => ρ (vOf u)) := by
      intro l
      induction l with
      | nil => intro _; exact .nil
      | cons u l ih =>
        intro h
        rw [List.map_cons]
        obtain ⟨t, e⟩ := h u List.mem_cons_self
        have q : IntsAre (.int (ρ (vOf u)) t :: l) (ρ (vOf u) :: l.map fun u => ρ (vOf u)) := .cons _ _ (ih fun v hv => h v (List.mem_cons_of_mem _ hv))
        rw [← e] at q
        exact q
    obtain ⟨κ, k1, k2⟩ := SrtO.ints_sortable (prog := X.prog) (w := X.w) (A := A) (s := s) (a := 0) (all us ex) h2 s.heap fun _ _ _ e => e
    refine ⟨κ, k1, fun p q hp hq => ?_⟩
    have q1 := k2 p q hp hq
    have ip : ∀ u ∈ us, SrtO.iv u = ρ (vOf u) := fun u m => by
      obtain ⟨t, e⟩ := ex u m
      have q : SrtO.iv (.int (ρ (vOf u)) t) = ρ (vOf u) := rfl
      rw [← e] at q
      exact q
    have el : SrtO.lt2 SrtO.ltIv p q = decide (ρ (vOf p.1) < ρ (vOf q.1)) := by
      show decide (SrtO.iv p.1 < SrtO.iv q.1) = _
      rw [ip _ hp, ip _ hq]
    rw [el] at q1
    exact q1

/-! ### keys (len(lot), lot), lot a tuple of ints -/
def ltLot (a b : List Int) : Bool := if a.length = b.length then HT.lexLt a b else decide (a.length < b.length)
def kLot (K : PySem.W.Frag) (rk : V → List Int) : V → V → Hp → Prop := fun x y H => ∃ t p, x = .ref t ∧ y = .ref p ∧ SqT K H t ((rk x).map V.int) ∧ H p = some (.tup [.int ((rk x).length : Int), .ref t])
theorem lexLt_self : ∀ l : List Int, HT.lexLt l l = false
  | [] => rfl
  | x :: l => by rw [HT.lexLt_cons, if_pos rfl, lexLt_self l]
theorem same_seqT {K : PySem.W.Frag} {H H' : Hp} {a : Addr} {xs : List V} (e : Same H H') (h : SqT K H a xs) : SqT K H' a xs := by
  rcases h with (h | ⟨o, h⟩) | h
  · exact .inl (.inl (e _ _ h))
  · exact .inl (.inr ⟨o, e _ _ h⟩)
  · exact .inr h
theorem swo_lot : SrtO.Swo ltLot := by
  refine ⟨fun x y h => ?_, fun x y z h1 h2 => ?_⟩
  · unfold ltLot at h ⊢
    by_cases e : x.length = y.length
    · rw [if_pos e] at h
      rw [if_pos e.symm]
      exact NtL.lex_asym _ _ h
    · rw [if_neg e] at h
      rw [if_neg (Ne.symm e)]
      have := of_decide_eq_true h
      exact decide_eq_false (by omega)
  · unfold ltLot at h1 h2 ⊢
    by_cases e1 : y.length = x.length
    · rw [if_pos e1] at h1
      by_cases e2 : z.length = y.length
      · rw [if_pos e2] at h2
        rw [if_pos (e2.trans e1)]
        exact NtL.lex_tr _ _ _ h1 h2
      · rw [if_neg e2] at h2
        have := of_decide_eq_false h2
        rw [if_neg (by omega)]
        exact decide_eq_false (by omega)
    · rw [if_neg e1] at h1
      have := of_decide_eq_false h1
      by_cases e2 : z.length = y.length
      · rw [if_neg (by omega)]
        exact decide_eq_false (by omega)
      · rw [if_neg e2] at h2
        have := of_decide_eq_false h2
        rw [if_neg (by omega)]
        exact decide_eq_false (by omega)
theorem ltLot_anti {a b : List Int} (h1 : ltLot a b = false) (h2 : ltLot b a = false) : a = b := by
  have key : ∀ a b : List Int, a.length = b.length → HT.lexLt a b = false → HT.lexLt b a = false → a = b := by
    intro a
    induction a with
    | nil => intro b h _ _; cases b with
      | nil => rfl
      | cons _ _ => simp at h
    | cons x a ih =>
      intro b h h1 h2
      cases b with
      | nil => simp at h
      | cons y b =>
        rw [HT.lexLt_cons] at h1 h2
        by_cases e : x = y
        · subst e
          rw [if_pos rfl] at h1 h2
          rw [ih b (by simpa using h) h1 h2]
        · rw [if_neg e] at h1
          rw [if_neg (Ne.symm e)] at h2
          have := of_decide_eq_false h1
          have := of_decide_eq_false h2
          exact absurd (by omega) e
  unfold ltLot at h1 h2
  by_cases e : a.length = b.length
  · rw [if_pos e] at h1
    rw [if_pos e.symm] at h2
    exact key a b e h1 h2
  · rw [if_neg e] at h1
    rw [if_neg (Ne.symm e)] at h2
    have := of_decide_eq_false h1
    have := of_decide_eq_false h2
    omega
theorem readsAll_ints {h : Heap} : ∀ {its : List Value} {ns : List Int}, IntsAre its ns → ∃ as, ReadsAll h its (ns.map PyData.int) as
  | _, _, .nil => ⟨_, .nil⟩
  | _, _, .cons n t r => by
    obtain ⟨as, q⟩ := readsAll_ints (h := h) r
    exact ⟨_, .cons (.int n t) q⟩
theorem shaped_ints (ns : List Int) : SeqAt.shaped (.tuple (ns.map PyData.int)) = true := by
  have h := PySem.W.plainAll_map (α := Int) ns
  have d := PySem.W.depthAll_map (α := Int) ns
  have c : PyData.canLayAll0 (ns.map PyData.int) = true := by
    induction ns with
    | nil => rfl
    | cons n ns ih =>
      rw [List.map_cons]
      unfold PyData.canLayAll0
      rw [ih (PySem.W.plainAll_map (α := Int) ns) (PySem.W.depthAll_map (α := Int) ns)]
      rfl
  unfold SeqAt.shaped
  rw [Bool.and_eq_true]
  refine ⟨?_, decide_eq_true ?_⟩
  · unfold PyData.canLay0
    exact c
  · unfold PyData.depth
    have e : PySem.W.Datum.depth Int = 0 := rfl
    rw [e] at d
    have d' : PyData.depthAll (ns.map PyData.int) ≤ 0 := d
    omega
theorem key_lot (rk : V → List Int) : KeyKind X rk (kLot X.K rk) ltLot where
  grow := fun x y H H' e ⟨t, p, h1, h2, h3, h4⟩ => ⟨t, p, h1, h2, same_seqT e h3, e _ _ h4⟩
  one := fun x x' y H ⟨t, p, h1, h2, h3, h4⟩ ⟨t', p', k1, k2, k3, k4⟩ => by
    subst h2
    injection k2 with e
    subst e
    rw [h4] at k4
    injection k4 with e
    injection e with e
    injection e with _ e
    injection e with e _
    rw [h1, k1, e]
  swo := swo_lot
  cmp := fun pins σ H s A us ρ hr I h2 hu => by
    -- what each key is
    have at_ : ∀ u ∈ us, ∃ (p : Addr) (o : Obj) (t : Addr) (tk : Tok) (n : Nat) (its : List Value), u = .ref p ∧ s.heap.get? p = some o ∧ o.cls = .type "tuple" ∧ o.data = .seq (List.toArray [.int ((ρ (vOf u)).length : Int) tk, .ref t]) n ∧
        IsTup s.heap t its.toArray ∧ IntsAre its (ρ (vOf u)) := fun u m => by
      obtain ⟨r, x, ⟨t, p, e1, e2, h3, h4⟩, e⟩ := hu u m
      rw [e2] at r
      obtain ⟨its, rv, pt, _⟩ := I.tuple h3
      obtain ⟨_, its2, rv2, o, ho, hc, n, hd⟩ := I.hok _ _ h4
      obtain ⟨u1, u2, rfl, r1, r2⟩ := vals2 rv2
      obtain ⟨tk, rfl⟩ := r1
      obtain rfl : u2 = Value.ref t := r2
      have er : u = Value.ref p := r
      refine ⟨p, o, t, tk, n, its, er, ho, hc, ?_, pt, ?_⟩
      · rw [← e]
        exact hd
      · rw [← e]
        have q := intsAre_of rv
        simpa using q
    have firsts : ∀ l : List Value, (∀ u ∈ l, u ∈ us) → ∃ fs : List Value, PySem.W.KatTups s.heap l fs ∧ fs.length = l.length ∧ ∀ f ∈ fs, ∃ i t, f = Value.int i t := by
      intro l
      induction l with
      | nil => intro _; exact ⟨[], PySem.W.KatTups.nil, rfl, fun _ h => nomatch h⟩
      | cons u l ih =>
        intro h
        obtain ⟨fs, k1, k2, k3⟩ := ih fun v hv => h v (List.mem_cons_of_mem _ hv)
        obtain ⟨p, o, t, tk, n, its, rfl, ho, hc, hd, _, _⟩ := at_ u (h u List.mem_cons_self)
        refine ⟨_ :: fs, PySem.W.KatTups.cons ho hc hd rfl k1, by rw [List.length_cons, List.length_cons, k2], fun f hf => ?_⟩
        rcases List.mem_cons.mp hf with hf | hf
        · exact ⟨_, _, hf⟩
        · exact k3 f hf
    obtain ⟨fs, k1, k2, k3⟩ := firsts us fun _ h => h
    refine ⟨tuples' true, fun Q E hq => ?_, fun p q hp hq => ?_⟩
    · refine PySem.W.kat_kind (T := .type "int") k1 (by omega) (fun f hm => ?_) (by rfl) ?_
      · obtain ⟨x, t, rfl⟩ := k3 f hm
        exact PySem.W.Looks.now
      · have e : (Value.type "int" != Value.type "tuple") = true := by first | decide +kernel | rfl | decide
        rw [e]
        exact hq
    · obtain ⟨p1, o1, t1, tk1, n1, its1, e1, ho1, hc1, hd1, pt1, ia1⟩ := at_ _ hp
      obtain ⟨p2, o2, t2, tk2, n2, its2, e2, ho2, hc2, hd2, pt2, ia2⟩ := at_ _ hq
      show wpAny _ _ (keyLt' (tuples' true) p.1 q.1) (fun r s' => s' = s ∧ r = ltLot (ρ (vOf p.1)) (ρ (vOf q.1))) _ s
      generalize ρ (vOf p.1) = a at *
      generalize ρ (vOf q.1) = b at *
      rw [e1, e2]
      have un := hr.un
      refine PySem.W.kat_lt ho1 hd1 ho2 hd2 ?_
      show PySem.W.KatLex X.prog X.w A true (decide (2 < 2)) _ [(.int (a.length : Int) tk1, .int (b.length : Int) tk2), (.ref t1, .ref t2)] 0 s
      refine PySem.W.kat_cons (SeqAt.EqAt.int_int _ tk1 _ tk2 X.prog X.w _ _ ?_)
      refine PySem.W.kat_go (fun x1 => ?_) (fun x1 => ?_)
      · have el : a.length = b.length := by
          have := eq_of_beq x1
          omega
        refine PySem.W.kat_yes (PySem.W.kat_cons ?_)
        obtain ⟨as, ra⟩ := readsAll_ints (h := s.heap) ia1
        obtain ⟨bs, rb⟩ := readsAll_ints (h := s.heap) ia2
        obtain ⟨o3, g3, c3, m3, d3⟩ := id pt1
        obtain ⟨o4, g4, c4, m4, d4⟩ := id pt2
        have R1 : Reads s.heap (.ref t1) (.tuple (a.map PyData.int)) as := .tuple g3 c3 d3 (by simpa using ra)
        have R2 : Reads s.heap (.ref t2) (.tuple (b.map PyData.int)) bs := .tuple g4 c4 d4 (by simpa using rb)
        refine SeqAt.eqAt_reads _ _ A s _ _ _ _ R1 R2 (SeqAt.canLay_of_shaped (shaped_ints a)) (SeqAt.canLay_of_shaped (shaped_ints b)) (SeqAt.room_of_shaped (shaped_ints a) (by omega)) X.prog X.w _ _ ?_
        have ev : PyData.eqv (.tuple (a.map PyData.int)) (.tuple (b.map PyData.int)) = decide (a = b) := by
          show PyData.eqvAll _ _ = _
          exact PySem.W.ked_eqvAll a b
        rw [ev]
        refine PySem.W.kat_go (fun x2 => ?_) (fun x2 => ?_)
        · have eab : a = b := of_decide_eq_true x2
          refine PySem.W.kat_yes (PySem.W.kat_nil ⟨rfl, ?_⟩)
          unfold ltLot
          rw [if_pos el, eab, lexLt_self]
          rfl
        · refine PySem.W.kat_no (PySem.W.kat_one _ _ ?_)
          refine HT.lt_tupInts pt1 pt2 (by simpa using ia1) (by simpa using ia2) (by omega) ⟨rfl, ?_⟩
          unfold ltLot
          rw [if_pos el]
      · have el : ¬ a.length = b.length := fun z => by
          have : ¬ ((a.length : Int) == (b.length : Int)) = true := by rw [x1]; exact Bool.false_ne_true
          exact this (by rw [z]; exact beq_self_eq_true _)
        refine PySem.W.kat_no ?_
        show wpAny _ _ (oneLt' true _ _) _ _ _
        refine oneLt_int ⟨rfl, ?_⟩
        unfold ltLot
        rw [if_neg el]
        exact decide_eq_decide.mpr (by omega)
end
end L2.KK
namespace L2.KK
open PySem PySem.Spec PyProof.Rows
abbrev emptySet (w : World) : Obj := { cls := .type "set", dict := none, data := .set #[] 0 (.fresh 0 0 (!w.params.followText "set-order")) }
section
variable {P : Program} {w : World} {A : Around} {E : Value → Shared → Prop} {s : Shared}
/-- set(xs), xs a list of ints -/
theorem set_of_ints {l : Addr} {items : Array Value} (ns : List Int) {Q : Value → Shared → Prop} (hh : A.handled = none) (hl : s.heap.IsList l items) (hit : IntsAre items.toList ns) (hb : ns.length + 1 < scanBound)
    (h : ∀ (h' : Heap) (tk c : Nat), SetR w h' s.heap.objs.size (fun j => decide (j ∈ ns)) c → c ≤ ns.length → (∀ b o, s.heap.get? b = some o → h'.get? b = some o) → Q (.ref s.heap.objs.size) { s with heap := h', toks := tk }) :
    wpAny (model P w) A (call (.type "set") [.ref l]) Q E s := by
  have hisz : items.size = ns.length := by
    have q := IntsAre.length hit
    rw [Array.length_toList] at q
    exact q
  obtain ⟨c, tl, hmro⟩ := PySem.F.called_set.mro
  have hmade := PySem.F.called_set.made
  have hsub := PySem.F.called_set.sub
  refine wpAny_call (codeAny_of_tree ?_)
  show wpAny _ _ (callAny (.type "set") _) _ _ _
  refine wpAny_pure ⟨Code.quiet_builtin _ (by decide +kernel), codeAny_builtin PySem.F.entry_type_call ?_⟩
  rw [Around.under_plain (weight_type_call_type "set" [.ref l] []) rfl]
  have h1 := PySem.F.called_set.notType
  have h2 := PySem.F.called_set.canCreate
  have hct := PySem.F.typeCall_set_1 (.ref l)
  repeat (any_goals (first | assumption | wp_step))
  refine codeAny_mono (code_set_led1 (.ref l) (E := E) (Q₁ := fun obj s₁ => obj = .ref s.heap.objs.size ∧ s₁ = { s with heap := s.heap.push (emptySet w) }) ⟨rfl, rfl⟩) fun r s₁ hr => ?_
  cases r with
  | error e => exact hr
  | ok fl =>
    cases fl with
    | ret obj =>
      obtain ⟨rfl, rfl⟩ := hr
      have hS : (s.heap.push (emptySet w)).get? s.heap.objs.size = some (emptySet w) := Heap.get?_push_size _ rfl
      have hT : Shared.TypeIs { s with heap := s.heap.push (emptySet w) } (.ref s.heap.objs.size) "set" := ⟨_, hS, rfl⟩
      have hli := PySem.F.called_set.init.lookup
      have hbi := PySem.F.called_set.init.bind (.ref s.heap.objs.size)
      repeat (any_goals (first | assumption | wp_step))
      refine codeAny_mono (codeAny_call_builtin (R := wants (fun r s₂ => r = .none ∧ ∃ h' tk c, s₂ = { s with heap := h', toks := tk } ∧ SetR w h' s.heap.objs.size (fun j => decide (j ∈ ns)) c ∧ c ≤ ns.length ∧
          (∀ b o, s.heap.get? b = some o → h'.get? b = some o)) E) PySem.F.called_set.init.plain PySem.F.entry_set_init (PySem.check_set_init_1 hT ?_)) fun r₂ s₂ hr₂ => ?_
      · obtain ⟨ol, hol, hcl, nl, hdl⟩ := id hl
        obtain ⟨ocls, odict, odata, oslots⟩ := ol
        simp only at hcl hdl
        subst hcl; subst hdl
        have hol' : (s.heap.push (emptySet w)).get? l = some { cls := .type "list", dict := odict, data := .seq items nl, slots := oslots } := Heap.get?_push_of_some _ hol
        have hsls := PySem.F.sub_list_set
        have hslf := PySem.F.sub_list_frozenset
        have hne : (Value.type "list" == Value.type "dict") = false := by decide
        have hl1 : (s.heap.push (emptySet w)).IsList l items := hl.push _
        unfold Builtin.«set.__init__» noKeywords Builtin.Frozenset.updateFrom
        generalize hPI : pyIter = PI
        wp_walk
        subst hPI
        refine wpAny_pyIter_list hl1 ?_
        refine wpAny_bind (wpAny_runValue ?_)
        have hlS : l < s.heap.objs.size := Heap.lt_size hol
        have hh3 : A.in1.in1.in1.handled = none := by simp [hh]
        have hz1 : (s.heap.push (emptySet w)).objs.size = s.heap.objs.size + 1 := Heap.size_push ..
        have hneI : l ≠ (s.heap.push (emptySet w)).objs.size := by
          rw [hz1]; exact Nat.ne_of_lt (Nat.lt_succ_of_lt hlS)
        have hSf : s.heap.objs.size ∉ [(s.heap.push (emptySet w)).objs.size, l] := by
          rw [hz1]; simp only [List.mem_cons, List.not_mem_nil, or_false, not_or]
          exact ⟨Nat.ne_of_lt (Nat.lt_succ_self _), Nat.ne_of_gt hlS⟩
        have hval : ∀ (i : Nat) (v : Value), items[i]? = some v → ∃ k t, ns[i]? = some k ∧ v = .int k t := fun i v hv => by
          have hi : i < ns.length := by rw [← hisz]; exact (Array.getElem?_eq_some_iff.mp hv).1
          obtain ⟨t, e⟩ := IntsAre.int_at hit i v (by rw [Array.getElem?_toList]; exact hv)
          exact ⟨ns[i], t, List.getElem?_eq_getElem hi, by rw [e, List.getD_eq_getElem?_getD, List.getElem?_eq_getElem hi]; rfl⟩
        refine set_update_ints ((Walks.list hh3 _ l hneI items).toS) s.heap.objs.size hSf ns hisz hb hval (items.size - 0) 0 _ (by omega) (Nat.zero_le _) ⟨⟨_, Heap.get?_push_size _ rfl, rfl, rfl⟩, (hl1.push _)⟩ ?hS0 ?hR
        case hS0 => exact ⟨0, Nat.le_refl 0, setR_new_at (Heap.get?_push_of_some _ hS)⟩
        case hR =>
          intro s' c' hm hc' hS'
          obtain ⟨h', g2, d', tk', os'⟩ := s'
          have eg : g2 = s.gens := hm.gens
          have ed : d' = s.drawn := hm.drawn
          have eo : os' = s.os := hm.os
          subst eg; subst ed; subst eo
          show wpAny _ _ _ _ _ _
          refine wpAny_pure ?_
          show wpAny _ _ (ret Value.none) _ _ _
          rw [hisz] at hc'
          refine wpAny_pure ⟨rfl, h', tk', c', rfl, hS', hc', fun b o e => ?_⟩
          have hb0 : b < s.heap.objs.size := Heap.lt_size e
          refine hm.heap b o (fun hmem => ?_) (Heap.get?_push_of_some _ (Heap.get?_push_of_some _ e))
          rcases List.mem_cons.mp hmem with z | z
          · exact Nat.ne_of_lt hb0 z
          · have e1 : b = s.heap.objs.size + 1 := (List.mem_singleton.mp z).trans hz1
            exact absurd hb0 (by rw [e1]; exact Nat.not_lt.mpr (Nat.le_succ _))
      · cases r₂ with
        | error e => exact hr₂
        | ok fl₂ =>
          cases fl₂ with
          | ret r =>
            obtain ⟨rfl, h', tk, c', rfl, hS', hc', hk'⟩ := hr₂
            repeat (any_goals (first | assumption | wp_step))
            exact h _ _ _ hS' hc' hk'
          | _ => exact hr₂.elim
    | _ => exact hr.elim
end
section
variable {X : Cx}
def rSetL (K : PySem.W.Frag) (w : World) : List V → Hp → VK → Prop := fun vs H Q => ∃ (a : Addr) (ns : List Int), vs = [.ref a] ∧ SqL K H a (ns.map V.int) ∧ ns.length ≤ 4000 ∧
  ∀ (p : Addr) (c : Nat), H p = none → c ≤ ns.length → Q (.ref p) (upd H p (SetO w p (fun j => decide (j ∈ ns)) c))
theorem cr_setL (hc : X.calm = true) : CallR X (.type "set") (rSetL X.K X.w) := by
  intro pins s σ H vs us Q I r h
  obtain ⟨a, ns, rfl, hs, hz, q⟩ := h
  obtain rfl := Vals.ref1 r
  obtain ⟨its, rv, pl, _⟩ := I.list hs
  have hi : IntsAre its ns := rv.ints
  have hn : H s.heap.objs.size = none := I.hok.fresh (Nat.le_refl _)
  refine set_of_ints (P := X.prog) ns (I.ok.hd hc) pl.isList (by simpa using hi) (Nat.lt_of_le_of_lt (Nat.succ_le_succ hz) (by decide)) fun h' tk c R hcl k => ?_
  exact ⟨.ref s.heap.objs.size, _, I.laid (t' := tk) k (Nat.le_refl _) (setO_new R), rfl, q _ c hn hcl⟩
end
end L2.KK
/-! whole numbers that are not negative; lists made by a comprehension; sorted by a def, two ways -/
namespace L2.KK
open PySem PySem.Spec PyProof.Rows
abbrev nV (n : Nat) : V := .int (n : Int)
def rN (g : Nat → Nat → V) : R2 := fun x y H Q => ∃ a b : Nat, x = nV a ∧ y = nV b ∧ Q (g a b) H
def rNC (C : Nat → Nat → Prop) (g : Nat → Nat → V) : R2 := fun x y H Q => ∃ a b : Nat, x = nV a ∧ y = nV b ∧ C a b ∧ Q (g a b) H
section
variable {X : Cx}
theorem op_andN : OpR X (binaryOp .BitAnd) (rN fun a b => nV (a &&& b)) := by
  intro pins s σ H x y v u Q I rx ry ⟨a, b, e1, e2, q⟩
  refine op_and pins s σ H x y v u Q I rx ry ⟨_, _, e1, e2, ?_⟩
  show Q (V.int (Builtin.bitAnd (a : Int) (b : Int))) H
  rw [PySem.W.os_band]
  exact q
theorem op_orN : OpR X (binaryOp .BitOr) (rN fun a b => nV (a ||| b)) := by
  intro pins s σ H x y v u Q I rx ry ⟨a, b, e1, e2, q⟩
  refine op_or pins s σ H x y v u Q I rx ry ⟨_, _, e1, e2, ?_⟩
  show Q (V.int (Builtin.bitOr (a : Int) (b : Int))) H
  rw [bitOr_nn (Int.natCast_nonneg a) (Int.natCast_nonneg b), Int.toNat_natCast, Int.toNat_natCast]
  exact q
theorem op_xorN : OpR X (binaryOp .BitXor) (rN fun a b => nV (a ^^^ b)) := by
  intro pins s σ H x y v u Q I rx ry ⟨a, b, e1, e2, q⟩
  refine op_xor pins s σ H x y v u Q I rx ry ⟨_, _, e1, e2, ?_⟩
  have e : Builtin.bitXor (a : Int) (b : Int) = ((a ^^^ b : Nat) : Int) := by
    show Builtin.bitOr (a : Int) (b : Int) - Builtin.bitAnd (a : Int) (b : Int) = _
    rw [bitOr_nn (Int.natCast_nonneg a) (Int.natCast_nonneg b), Int.toNat_natCast, Int.toNat_natCast, PySem.W.os_band]
    have := MK.or_and_xor a b
    omega
  show Q (V.int (Builtin.bitXor (a : Int) (b : Int))) H
  rw [e]
  exact q
theorem op_addNN : OpR X (binaryOp .Add) (rN fun a b => nV (a + b)) := by
  intro pins s σ H x y v u Q I rx ry ⟨a, b, e1, e2, q⟩
  refine op_add pins s σ H x y v u Q I rx ry ⟨_, _, e1, e2, ?_⟩
  show Q (V.int ((a : Int) + (b : Int))) H
  rw [← Int.natCast_add]
  exact q
theorem op_subNN : OpR X (binaryOp .Sub) (rNC (fun a b => b ≤ a) fun a b => nV (a - b)) := by
  intro pins s σ H x y v u Q I rx ry ⟨a, b, e1, e2, c, q⟩
  refine op_sub pins s σ H x y v u Q I rx ry ⟨_, _, e1, e2, ?_⟩
  show Q (V.int ((a : Int) - (b : Int))) H
  rw [show (a : Int) - (b : Int) = ((a - b : Nat) : Int) by omega]
  exact q
theorem op_shrNN : OpR X (binaryOp .RShift) (rN fun a b => nV (a >>> b)) := by
  intro pins s σ H x y v u Q I rx ry ⟨a, b, e1, e2, q⟩
  refine op_shr pins s σ H x y v u Q I rx ry ⟨_, _, e1, e2, Int.natCast_nonneg b, ?_⟩
  show Q (V.int ((a : Int) / (2 : Int) ^ (b : Int).toNat)) H
  rw [Int.toNat_natCast, show (a : Int) / (2 : Int) ^ b = ((a >>> b : Nat) : Int) by rw [Nat.shiftRight_eq_div_pow, Int.natCast_ediv, Int.natCast_pow]; rfl]
  exact q
/-- 1 << k -/
theorem op_shlNN : OpR X (binaryOp .LShift) (rNC (fun a b => b ≤ 1000000 ∧ a < 18446744073709551616) fun a b => nV (a * 2 ^ b)) := by
  intro pins s σ H x y v u Q I rx ry ⟨a, b, e1, e2, ⟨c1, c2⟩, q⟩
  refine op_shl pins s σ H x y v u Q I rx ry ⟨_, _, e1, e2, ⟨Int.natCast_nonneg b, by omega, by omega⟩, ?_⟩
  show Q (V.int ((a : Int) * (2 : Int) ^ (b : Int).toNat)) H
  rw [Int.toNat_natCast, show (a : Int) * (2 : Int) ^ b = ((a * 2 ^ b : Nat) : Int) by rw [Int.natCast_mul, Int.natCast_pow]; rfl]
  exact q

/-! ### comprehensions whose turns change nothing that stood -/
variable {K : PySem.W.Frag} {H H1 : Hp} {D : Addr} {σ : St} {k : Nat} {tt : TT} {te : TE} {Qd : Hp → Prop}
theorem paired_snoc {α β : Type} {F : α → β → Prop} {a : List α} {b : List β} {x : α} {y : β} (h : Paired F a b) (r : F x y) : Paired F (a ++ [x]) (b ++ [y]) := paired_append h (.cons r .nil)
theorem same_fresh {H H' : Hp} {p : Addr} {o : HO} (e : Same H H') (h : H p = none) : Same H (upd H' p o) := fun b u q => by
  rw [upd_ne (ne_of_none q h)]
  exact e b u q
theorem same_new {H : Hp} {p : Addr} {o : HO} (h : H p = none) : Same H (upd H p o) := same_fresh (Same.refl H) h
def NotL : HO → Prop
  | .lst _ => False
  | _ => True
/-- all but lists is as it was -/
def SameT (H H' : Hp) : Prop := ∀ b o, H b = some o → NotL o → H' b = some o
theorem sameT_of {H H' : Hp} (e : Same H H') : SameT H H' := fun b o q _ => e b o q
theorem sameT_lst {H : Hp} {D : Addr} {xs ys : List V} (h : H D = some (.lst xs)) : SameT H (upd H D (.lst ys)) := fun b o q n => by
  have nb : b ≠ D := fun z => by
    rw [z, h] at q
    cases q
    exact n
  rw [upd_ne nb]
  exact q
/-- the turns of a comprehension: sel: which are kept; P i y H: y is what turn i makes -/
structure Turns (H : Hp) (σ : St) (k : Nat) (item : Nat → V) (n : Nat) (tt : TT) (te : TE) (sel : Nat → Bool) (P : Nat → V → Hp → Prop) : Prop where
  mono : ∀ i y H H', SameT H H' → P i y H → P i y H'
  test : ∀ i H', i < n → Same H H' → ∀ Q : Bool → Hp → Prop, (∀ H'', Same H' H'' → Q (sel i) H'') → tt ((σ.set k none).set k (some (item i))) H' Q
  elt : ∀ i H', i < n → sel i = true → Same H H' → ∀ Q : VK, (∀ y H'', Same H' H'' → P i y H'' → Q y H'') → te ((σ.set k none).set k (some (item i))) H' Q
variable {item : Nat → V} {n : Nat} {sel : Nat → Bool} {P : Nat → V → Hp → Prop}
def Made (H : Hp) (D : Addr) (sel : Nat → Bool) (P : Nat → V → Hp → Prop) (i : Nat) (H' : Hp) : Prop := Same H H' ∧ ∃ ys, H' D = some (.lst ys) ∧ ys.length ≤ i ∧ Paired (fun y j => P j y H') ys ((List.range i).filter sel)
theorem Turns.go (T : Turns H σ k item n tt te sel P) (hD : H D = none) (hz : n ≤ sizeLine) {i : Nat} {H' : Hp} (hi : i < n) (M : Made H D sel P i H') :
    gName k (item i) (wipe σ [k]) H' fun σ2 H2 => wipe σ2 [k] = wipe σ [k] ∧ tt σ2 H2 fun b H3 =>
      if b = true then te σ2 H3 fun y H4 => ∃ acc, H4 D = some (.lst acc) ∧ acc.length < sizeLine ∧ Made H D sel P (i + 1) (upd H4 D (.lst (acc ++ [y]))) else Made H D sel P (i + 1) H3 := by
  obtain ⟨sm, ys, hd, hl, pr⟩ := M
  show wipe ((σ.set k none).set k (some (item i))) [k] = wipe σ [k] ∧ tt ((σ.set k none).set k (some (item i))) H' _
  refine ⟨by show ((σ.set k none).set k (some (item i))).set k none = σ.set k none; rw [List.set_set, List.set_set], ?_⟩
  refine T.test i H' hi sm _ fun H3 s3 => ?_
  have rs : (List.range (i + 1)).filter sel = (List.range i).filter sel ++ (if sel i = true then [i] else []) := by
    rw [List.range_succ, List.filter_append]
    rw [List.filter_cons, List.filter_nil]
  cases hsel : sel i with
  | true =>
    refine iteT ?_
    refine T.elt i H3 hi hsel (sm.trans s3) _ fun y H4 s4 p => ?_
    refine ⟨ys, s4 _ _ (s3 _ _ hd), by omega, same_fresh ((sm.trans s3).trans s4) hD, ys ++ [y], upd_same, by rw [List.length_append]; show ys.length + 1 ≤ i + 1; omega, ?_⟩
    rw [rs, hsel, if_pos rfl]
    have s5 := sameT_lst (ys := ys ++ [y]) (s4 _ _ (s3 _ _ hd))
    exact paired_snoc (Paired.mapP pr fun y j q => T.mono _ _ _ _ s5 (T.mono _ _ _ _ (sameT_of (s3.trans s4)) q)) (T.mono _ _ _ _ s5 p)
  | false =>
    refine iteF ?_
    exact ⟨sm.trans s3, ys, s3 _ _ hd, by omega, by rw [rs, hsel, if_neg Bool.false_ne_true, List.append_nil]; exact Paired.mapP pr fun y j q => T.mono _ _ _ _ (sameT_of s3) q⟩
theorem Turns.start (hD : H D = none) : Made H D sel P 0 (upd H D (.lst [])) := ⟨same_new hD, [], upd_same, Nat.zero_le _, .nil⟩
theorem lc_rangeT {lo : Int} (T : Turns H σ k (fun i => .int (lo + i)) n tt te sel P) (hD : H D = none) (hz : n ≤ sizeLine) (hd : ∀ H' ys, Same H H' → H' D = some (.lst ys) → ys.length ≤ n → Paired (fun y j => P j y H') ys ((List.range n).filter sel) → Qd H') :
    ∃ W : Nat → Nat → Hp → Prop, (∃ m, W 0 m (upd H D (.lst []))) ∧ ∀ i m H, W i m H →
      ((Itr lo n).stop i H ∧ Qd H) ∨ ((Itr lo n).go i H ∧ ∃ Nx : Hp → Prop, (∀ H', Nx H' → ∃ m', m' < m ∧ W (i + 1) m' H') ∧ ∀ x H', (Itr lo n).yld i H x H' → gName k x (wipe σ [k]) H' fun σ2 H2 => wipe σ2 [k] = wipe σ [k] ∧ tt σ2 H2 fun b H3 =>
        if b = true then te σ2 H3 fun y H4 => ∃ acc, H4 D = some (.lst acc) ∧ acc.length < sizeLine ∧ Nx (upd H4 D (.lst (acc ++ [y]))) else Nx H3) :=
  lc_range (lo := lo) (n := n) (Made H D sel P) (Turns.start hD) (fun i H' hi M => T.go hD hz hi M) fun H' ⟨a, ys, b, c, d⟩ => hd H' ys a b c d
theorem lc_listT {a : Addr} {xs : List V} (hx : SqL K H a xs) (T : Turns H σ k (fun i => xs.getD i .non) xs.length tt te sel P) (hD : H D = none) (hz : xs.length ≤ sizeLine)
    (hd : ∀ H' ys, Same H H' → H' D = some (.lst ys) → ys.length ≤ xs.length → Paired (fun y j => P j y H') ys ((List.range xs.length).filter sel) → Qd H') :
    ∃ W : Nat → Nat → Hp → Prop, (∃ m, W 0 m (upd H D (.lst []))) ∧ ∀ i m H, W i m H →
      ((Itl K a).stop i H ∧ Qd H) ∨ ((Itl K a).go i H ∧ ∃ Nx : Hp → Prop, (∀ H', Nx H' → ∃ m', m' < m ∧ W (i + 1) m' H') ∧ ∀ x H', (Itl K a).yld i H x H' → gName k x (wipe σ [k]) H' fun σ2 H2 => wipe σ2 [k] = wipe σ [k] ∧ tt σ2 H2 fun b H3 =>
        if b = true then te σ2 H3 fun y H4 => ∃ acc, H4 D = some (.lst acc) ∧ acc.length < sizeLine ∧ Nx (upd H4 D (.lst (acc ++ [y]))) else Nx H3) :=
  lc_list (K := K) (a := a) (xs := xs) (Made H D sel P) (Turns.start hD) (fun i H' _ M => M.1.seq hx) (fun i x H' hi M => by
    obtain ⟨hl, e⟩ := List.getElem?_eq_some_iff.mp hi
    have q := T.go hD hz hl M
    rw [List.getD_eq_getElem?_getD, hi] at q
    exact q) fun H' ⟨a, ys, b, c, d⟩ => hd H' ys a b c d
theorem paired_map_eq {α β : Type} {g : β → α} : ∀ {ys : List α} {l : List β}, Paired (fun y j => y = g j) ys l → ys = l.map g
  | _, _, .nil => rfl
  | _, _, .cons r t => by rw [List.map_cons, ← r, ← paired_map_eq t]
theorem filter_yes (n : Nat) : (List.range n).filter (fun _ => true) = List.range n := List.filter_eq_self.mpr fun _ _ => rfl
theorem map_range_get {α : Type} (xs : List α) (d : α) : (List.range xs.length).map (fun i => xs.getD i d) = xs := by
  apply List.ext_getElem
  · rw [List.length_map, List.length_range]
  · intro i h1 h2
    rw [List.getElem_map, List.getElem_range, List.getD_eq_getElem?_getD, List.getElem?_eq_getElem h2]
    rfl
/-! ### sorted by a def, whatever the ranks -/
variable {f : Addr} {fd : FuncData} {ps : List Str} {sp : Sp} {j : Nat}
def rSortedI (K : PySem.W.Frag) (f : Addr) (sp : Sp) : List V → List V → Hp → VK → Prop := fun vs zs H Q => ∃ g : V → Int, rSortedF K f sp g (kInt g) (fun i j => decide (i < j)) vs zs H Q
def rSortedLot (K : PySem.W.Frag) (f : Addr) (sp : Sp) : List V → List V → Hp → VK → Prop := fun vs zs H Q => ∃ g : V → List Int, rSortedF K f sp g (kLot K g) ltLot vs zs H Q
theorem cr_sortedBy (F : FnOk X.prog X.w X.K X.mg X.base CX0 j f fd ps sp) (hb : Binds X.K fd ps []) (hr : Room (j + 8) X.A) : CallRK X (.builtin "sorted") [Str.ofString "key"] (rSortedI X.K f sp) :=
  fun pins s σ H xs zs us ws Q I r rz ⟨g, h⟩ => cr_sortedF F hb hr (key_int g) pins s σ H xs zs us ws Q I r rz h
theorem cr_sortedLot (F : FnOk X.prog X.w X.K X.mg X.base CX0 j f fd ps sp) (hb : Binds X.K fd ps []) (hr : Room (j + 8) X.A) : CallRK X (.builtin "sorted") [Str.ofString "key"] (rSortedLot X.K f sp) :=
  fun pins s σ H xs zs us ws Q I r rz ⟨g, h⟩ => cr_sortedF F hb hr (key_lot g) pins s σ H xs zs us ws Q I r rz h
/-! ### the state that the law's draws hang on -/
structure Dr (H : Hp) (d c : Addr) : Prop where
  ex : ∃ (ns : List Int) (i r z : Int), H d = some (.lst [.ref c, .int i, .int r, .int z]) ∧ H c = some (.lst (ns.map V.int)) ∧ 0 ≤ i ∧ ns.length ≤ 1000
/-- all but the object at d is as it was -/
def Kp (d : Addr) (H H' : Hp) : Prop := ∀ b o, H b = some o → b ≠ d → H' b = some o
theorem Kp.refl (d : Addr) (H : Hp) : Kp d H H := fun _ _ h _ => h
theorem Kp.trans {d : Addr} {H H1 H2 : Hp} (a : Kp d H H1) (b : Kp d H1 H2) : Kp d H H2 := fun c o h n => b c o (a c o h n) n
theorem Kp.of {d : Addr} {H H' : Hp} (e : Same H H') : Kp d H H' := fun b o h _ => e b o h
theorem Kp.new {d p : Addr} {H H' : Hp} {o : HO} (e : Kp d H H') (h : H p = none) : Kp d H (upd H' p o) := fun b u q n => by
  rw [upd_ne (ne_of_none q h)]
  exact e b u q n
theorem Dr.keep {H H' : Hp} {d c : Addr} (D : Dr H d c) (k : Same H H') : Dr H' d c := by
  obtain ⟨ns, i, r, z, h1, h2, h3, h4⟩ := D.ex
  exact ⟨ns, i, r, z, k _ _ h1, k _ _ h2, h3, h4⟩
theorem Dr.ne {H : Hp} {d c p : Addr} (D : Dr H d c) (h : H p = none) : p ≠ d ∧ p ≠ c := by
  obtain ⟨ns, i, r, z, h1, h2, h3, h4⟩ := D.ex
  exact ⟨(ne_of_none h1 h).symm, (ne_of_none h2 h).symm⟩
/-- another object changes -/
theorem Dr.put {H : Hp} {d c p : Addr} {o : HO} (D : Dr H d c) (h1 : p ≠ d) (h2 : p ≠ c) : Dr (upd H p o) d c := by
  obtain ⟨ns, i, r, z, e1, e2, e3, e4⟩ := D.ex
  exact ⟨ns, i, r, z, by rw [upd_ne h1.symm]; exact e1, by rw [upd_ne h2.symm]; exact e2, e3, e4⟩
theorem Dr.cd {H : Hp} {d c : Addr} (D : Dr H d c) : c ≠ d := by
  obtain ⟨ns, i, r, z, hd, hc, _, _⟩ := D.ex
  rintro rfl
  rw [hd] at hc
  injection hc with e
  injection e with e
  cases ns with
  | nil => cases e
  | cons x l => injection e with e _; cases e
end
end L2.KK
namespace L2.KK
open PySem PySem.Spec PyProof.Rows C8
section
variable {P : Program} {w : World} {K : PySem.W.Frag} {mg : Str → Option Value} {base : Heap}
abbrev FnP (K : PySem.W.Frag) (x qual : Str) (st : Stmt) (f : Addr) (fd : FuncData) : Prop := FunD K x qual (defArgs st) (defBody st) (defScope st) [] [] f fd
/-- the def st stands in the module under its name -/
structure FnAt (K : PySem.W.Frag) (mg : Str → Option Value) (x : Str) (st : Stmt) : Prop where
  ex : ∃ f fd, FnP K x x st f fd ∧ mg x = some (.ref f)
theorem calOf {x : Str} {st : Stmt} {N ps : List Str} {sp : Sp} {k : Nat} (D : FnAt K mg x st) (S : FnScope N ps (defScope st))
    (bn : ∀ (kV doc pm : Value) (an : Option Addr) (cdv ct : Value) (us : List Value), us.length = ps.length → bindArgs (PySem.W.fnOf x x (defArgs st) (defBody st) (defScope st) .none kV doc pm an cdv ct) ⟨us, []⟩ = pure (ps.zip us))
    (len : ∀ vs H Q E, sp vs H Q E → vs.length = ps.length)
    (body : ∀ (f : Addr) (cdv : Value) (A : Around) (outer : List Env) (s : Shared) (H : Hp) (vs : List V) (Q : VK) (E : XK), Room k (A.deeper (envOfC x (defScope st) s.heap.objs.size f cdv)) → sp vs H Q E →
      ∃ t, PSs (cxOf CX0 P w K mg base N x (defScope st) f cdv A outer s H E).nox (defBody st) t ∧ t { nx := fun _ H' => Q .non H', rt := Q } (start N vs) H) : Cal P w K mg base (k + 1) x sp [] := by
  obtain ⟨f, fd, F, m⟩ := D.ex
  refine ⟨f, fd, ps, [], ?_, m, F.kp, F.bindsN bn, .nil⟩
  refine F.ok S len fun cdv A outer s H vs Q E hr hsp => ?_
  obtain ⟨t, h, q⟩ := body f cdv A outer s H vs Q E hr hsp
  exact ⟨t, h.nox, q⟩
/-- the parts of a def that is handed on as a key -/
theorem cal_parts {k : Nat} {x : Str} {sp : Sp} (c : Cal P w K mg base k x sp []) : ∃ (f : Addr) (fd : FuncData) (ps : List Str), FnOk P w K mg base CX0 k f fd ps sp ∧ mg x = some (.ref f) ∧ Binds K fd ps [] := by
  obtain ⟨f, fd, ps, ds, F, m, _, b, d⟩ := c.ex
  cases d
  exact ⟨f, fd, ps, F, m, b⟩
end
end L2.KK
/-! rules whose reading names the written part by a letter: they stand within comprehensions too -/
namespace L2.KK
open PySem PySem.Spec PyProof.Rows C8
section
variable (K : PySem.W.Frag) {X : Cx}
def rLenQ (K : PySem.W.Frag) : List V → Hp → VK → Prop := fun xs H Q => ∃ p ys, xs = [.ref p] ∧ (SqL K H p ys ∨ SqT K H p ys) ∧ Q (.int ys.length) H
def rListQ (K : PySem.W.Frag) : List V → Hp → VK → Prop := fun xs H Q => ∃ p ys, xs = [.ref p] ∧ (SqL K H p ys ∨ SqT K H p ys) ∧ ∀ l, H l = none → Q (.ref l) (upd H l (.lst ys))
def rTupQ (K : PySem.W.Frag) : List V → Hp → VK → Prop := fun xs H Q => ∃ p ys, xs = [.ref p] ∧ ((SqL K H p ys ∧ ∀ l, H l = none → Q (.ref l) (upd H l (.tup ys))) ∨ (SqT K H p ys ∧ Q (.ref p) H))
def tTruQ (K : PySem.W.Frag) (ta : TE) : TT := fun σ H Q => ta σ H fun x H' => ∃ k, TruV K x H' k ∧ Q k H'
theorem ixL (h : X.K = K := by rfl) : IxR X (rIxL K) := by subst h; exact ix_list
theorem ixT (h : X.K = K := by rfl) : IxR X (rIxT K) := by subst h; exact ix_tup
theorem eqD (hu : X.A.units + 64 < cLine) (h : X.K = K := by rfl) : OpR X (compareOp .Eq) (rEqD K) := by subst h; exact op_eqD hu
theorem neD (hu : X.A.units + 64 < cLine) (h : X.K = K := by rfl) : OpR X (compareOp .NotEq) (rNeD K) := by subst h; exact op_neD hu
theorem inSeq (h : X.K = K := by rfl) : OpR X (compareOp .In) (rIn K false) := by subst h; exact op_in_seq
theorem notInSeq (h : X.K = K := by rfl) : OpR X (compareOp .NotIn) (rIn K true) := by subst h; exact op_notIn_seq
theorem catA (h : X.K = K := by rfl) : OpR X (binaryOp .Add) (rCatA K) := by subst h; exact op_catA
theorem slL (h : X.K = K := by rfl) : SlR X (rSlL K) := by subst h; exact sl_list
theorem slT (h : X.K = K := by rfl) : SlR X (rSlA K) := by subst h; exact sl_tupA
theorem crLen (h : X.K = K := by rfl) : CallR X (.builtin "len") (rLenQ K) := by subst h; exact call_len_seq
theorem crList (h : X.K = K := by rfl) : CallR X (.type "list") (rListQ K) := by subst h; exact call_list_of
theorem crTup (h : X.K = K := by rfl) : CallR X (.type "tuple") (rTupQ K) := by subst h; exact call_tuple_of
theorem crSum (h : X.K = K := by rfl) (hc : X.calm = true := by rfl) : CallR X (.builtin "sum") (rSum K) := by subst h; exact cr_sum hc
theorem crMax (h : X.K = K := by rfl) (hc : X.calm = true := by rfl) : CallR X (.builtin "max") (rMax K) := by subst h; exact cr_max hc
theorem crMin (h : X.K = K := by rfl) (hc : X.calm = true := by rfl) : CallR X (.builtin "min") (rMin K) := by subst h; exact cr_min hc
theorem crAny (h : X.K = K := by rfl) (hc : X.calm = true := by rfl) : CallR X (.builtin "any") (rAny K) := by subst h; exact cr_any hc
theorem crAll (h : X.K = K := by rfl) (hc : X.calm = true := by rfl) : CallR X (.builtin "all") (rAll K) := by subst h; exact cr_all hc
theorem crSortI (h : X.K = K := by rfl) : CallR X (.builtin "sorted") (L2.rSortedI K) := by subst h; exact cr_sortedI
theorem crSortP (h : X.K = K := by rfl) : CallR X (.builtin "sorted") (rSortedPO K) := by subst h; exact cr_sortedPO
theorem crIsi (h : X.K = K := by rfl) : CallR X (.builtin "isinstance") (rIsi K) := by subst h; exact call_isi
theorem crSetL (h : X.K = K := by rfl) (hc : X.calm = true := by rfl) : CallR X (.type "set") (rSetL K X.w) := by subst h; exact cr_setL hc
variable {f : Addr} {fd : FuncData} {ps : List Str} {sp : Sp} {j : Nat}
theorem crSortBy (F : FnOk X.prog X.w X.K X.mg X.base CX0 j f fd ps sp) (hb : Binds X.K fd ps []) (hr : Room (j + 8) X.A) (h : X.K = K := by rfl) : CallRK X (.builtin "sorted") [Str.ofString "key"] (rSortedI K f sp) := by subst h; exact cr_sortedBy F hb hr
theorem crSortLot (F : FnOk X.prog X.w X.K X.mg X.base CX0 j f fd ps sp) (hb : Binds X.K fd ps []) (hr : Room (j + 8) X.A) (h : X.K = K := by rfl) : CallRK X (.builtin "sorted") [Str.ofString "key"] (rSortedLot K f sp) := by subst h; exact cr_sortedLot F hb hr
variable {e o : Expr} {es : List Expr} {ta to : TE} {t : TA} {pos apos cpos p : Pos} {name : Str} {T id : String} {r : V → List V → Hp → VK → Prop}
theorem ptTru (ha : PE X e ta) (he : ∀ whole, isTrue e X.env whole = (do let v ← whole; standAt e.pos; holding [v] (truthy v)) := by intro _; rfl) (h : X.K = K := by rfl) : PT X e (tTruQ K ta) := by subst h; exact pt_truth ha he
theorem peFld (ha : PE X e ta) {f : Str} (hb : attributeBase e f X.env (eval e X.env) = eval e X.env := by rfl) (h : X.K = K := by rfl) : PE X (.Attribute e f pos) (tFld K ta f) := by subst h; exact pe_fld ha hb
theorem peBm (pa : PlainAttrs T) (slot : Slot T name id) (hty : typeOf (.builtin id) = pure (.type "method_descriptor")) (hm : MtR X id r) (ho : PE X o to) (ha : PA X (e :: es) t)
    (hx : PA X (e :: es) t → PE X o to → PE X (.Call (.Attribute o name apos) (e :: es) [] cpos) (tBM X.K T r to t)) (h : X.K = K := by rfl) : PE X (.Call (.Attribute o name apos) (e :: es) [] cpos) (tBM K T r to t) := by
  subst h
  exact hx ha ho
theorem piList (ha : PE X e ta) {tg : Expr} (h : X.K = K := by rfl) : PI X tg e (iList K ta) := by subst h; exact pi_list ha
theorem piTup (ha : PE X e ta) {tg : Expr} (h : X.K = K := by rfl) : PI X tg e (iTup K ta) := by subst h; exact pi_tup ha
theorem pgTup {es : List Expr} {k : Nat} {t : TGs} {n : Nat} (hc : X.calm = true) (hp : PGs X es t) (hn : (assignEach es X.env).length = n := by rfl) (hst : (assignEach es X.env).findIdx? (·.1) = none := by rfl) (h : X.K = K := by rfl) : PG X (.Tuple es k pos) (gTup K n t) := by
  subst h
  exact pg_tup hc hp hn hst
theorem getL (h : X.K = K := by rfl) : PGet X (rGetL K) := by subst h; exact get_list
end
end L2.KK
namespace L2.KK
open PySem PySem.Spec PyProof.Rows C8
section
variable {P : Program} {w : World} {K : PySem.W.Frag} {mg : Str → Option Value} {base : Heap}
/-- calOf for the def that the statement calls: its function object is known -/
theorem okOf {x : Str} {st : Stmt} {N ps : List Str} {sp : Sp} {k : Nat} {f : Addr} {fd : FuncData} (F : FnP K x x st f fd) (S : FnScope N ps (defScope st))
    (len : ∀ vs H Q E, sp vs H Q E → vs.length = ps.length)
    (body : ∀ (f : Addr) (cdv : Value) (A : Around) (outer : List Env) (s : Shared) (H : Hp) (vs : List V) (Q : VK) (E : XK), Room k (A.deeper (envOfC x (defScope st) s.heap.objs.size f cdv)) → sp vs H Q E →
      ∃ t, PSs (cxOf CX0 P w K mg base N x (defScope st) f cdv A outer s H E).nox (defBody st) t ∧ t { nx := fun _ H' => Q .non H', rt := Q } (start N vs) H) : FnOk P w K mg base CX0 (k + 1) f fd ps sp := by
  refine F.ok S len fun cdv A outer s H vs Q E hr hsp => ?_
  obtain ⟨t, h, q⟩ := body f cdv A outer s H vs Q E hr hsp
  exact ⟨t, h.nox, q⟩
end
end L2.KK
/-! own exceptions with an own __init__ that calls its base's; own == of instances; facts of one's own in the head -/
namespace L2.KK
open PySem PySem.Spec PyProof.Rows C8
section
variable {P : Program} {w : World} {K : PySem.W.Frag} {mg : Str → Option Value} {base : Heap}
/-! ### defs that may let an exception out -/
structure CalX (P : Program) (w : World) (K : PySem.W.Frag) (mg : Str → Option Value) (base : Heap) (k : Nat) (x : Str) (sp : Sp) : Prop where
  ex : ∃ (f : Addr) (fd : FuncData) (ps : List Str), FnOk P w K mg base (L2.CX P w) k f fd ps sp ∧ mg x = some (.ref f) ∧ PySem.W.keepIn K (.ref f) = true ∧ Binds K fd ps []
theorem fnok_calm {k : Nat} {f : Addr} {fd : FuncData} {ps : List Str} {sp : Sp} (F : FnOk P w K mg base (L2.CX P w) k f fd ps sp) : FnOk P w K mg base CX0 k f fd ps (fun vs H Q _ => sp vs H Q E0) :=
  ⟨fun vs H Q E h => F.len vs H Q E0 h, fun A outer s H args us vs Q E hr he hb hv hs => codeAny_mono (F.run A outer s H args us vs Q E0 hr he hb hv hs) fun r s' h => by
    cases r with
    | ok fl => cases fl <;> exact h
    | error e =>
      obtain ⟨_, _, _, _, _, _, _, _, _, _, _, _, z⟩ := h
      exact z.elim⟩
theorem CalX.calm {k : Nat} {x : Str} {sp : Sp} (c : CalX P w K mg base k x sp) : Cal P w K mg base k x (fun vs H Q _ => sp vs H Q E0) [] := by
  obtain ⟨f, fd, ps, F, m, kp, b⟩ := c.ex
  exact ⟨f, fd, ps, [], fnok_calm F, m, kp, b, .nil⟩
theorem Cal.weak {k : Nat} {x : Str} {sp sp' : Sp} (c : Cal P w K mg base k x sp []) (h : ∀ vs H Q E, sp' vs H Q E → sp vs H Q E) : Cal P w K mg base k x sp' [] := by
  obtain ⟨f, fd, ps, ds, F, m, kp, b, d⟩ := c.ex
  exact ⟨f, fd, ps, ds, F.imp h, m, kp, b, d⟩
theorem calOfX {x : Str} {st : Stmt} {N ps : List Str} {sp : Sp} {k : Nat} (D : FnAt K mg x st) (S : FnScope N ps (defScope st))
    (bn : ∀ (kV doc pm : Value) (an : Option Addr) (cdv ct : Value) (us : List Value), us.length = ps.length → bindArgs (PySem.W.fnOf x x (defArgs st) (defBody st) (defScope st) .none kV doc pm an cdv ct) ⟨us, []⟩ = pure (ps.zip us))
    (len : ∀ vs H Q E, sp vs H Q E → vs.length = ps.length)
    (body : ∀ (f : Addr) (cdv : Value) (A : Around) (outer : List Env) (s : Shared) (H : Hp) (vs : List V) (Q : VK) (E : XK), Room k (A.deeper (envOfC x (defScope st) s.heap.objs.size f cdv)) → sp vs H Q E →
      ∃ t, PSs (cxOf (L2.CX P w) P w K mg base N x (defScope st) f cdv A outer s H E) (defBody st) t ∧ t { nx := fun _ H' => Q .non H', rt := Q } (start N vs) H) : CalX P w K mg base (k + 1) x sp := by
  obtain ⟨f, fd, F, m⟩ := D.ex
  refine ⟨f, fd, ps, ?_, m, F.kp, F.bindsN bn⟩
  exact F.ok S len fun cdv A outer s H vs Q E hr hsp => body f cdv A outer s H vs Q E hr hsp
/-! ### methods -/
/-- the method m of the class named c stands under its qualified name -/
structure MtAt (K : PySem.W.Frag) (C : Addr) (m q : Str) (st : Stmt) : Prop where
  ex : ∃ f fd, FnP K m q st f fd ∧ Meth K C m f
structure InAt (K : PySem.W.Frag) (C : Addr) (q : Str) (st : Stmt) : Prop where
  ex : ∃ f fd, FnP K "__init__" q st f fd ∧ Mk K C f
theorem metOf {m q : Str} {C : Addr} {st : Stmt} {N ps : List Str} {sp : Sp} {k : Nat} (c : Cls K C) (D : MtAt K C m q st) (S : FnScope N ps (defScope st))
    (bn : ∀ (kV doc pm : Value) (an : Option Addr) (cdv ct : Value) (us : List Value), us.length = ps.length → bindArgs (PySem.W.fnOf m q (defArgs st) (defBody st) (defScope st) .none kV doc pm an cdv ct) ⟨us, []⟩ = pure (ps.zip us))
    (len : ∀ vs H Q E, sp vs H Q E → vs.length = ps.length)
    (body : ∀ (f : Addr) (cdv : Value) (A : Around) (outer : List Env) (s : Shared) (H : Hp) (vs : List V) (Q : VK) (E : XK), Room k (A.deeper (envOfC q (defScope st) s.heap.objs.size f cdv)) → sp vs H Q E →
      ∃ t, PSs (cxOf CX0 P w K mg base N q (defScope st) f cdv A outer s H E).nox (defBody st) t ∧ t { nx := fun _ H' => Q .non H', rt := Q } (start N vs) H) : Met P w K mg base (k + 1) C m sp [] := by
  obtain ⟨f, fd, F, me⟩ := D.ex
  refine ⟨f, fd, ps, [], c, me, ?_, F.bindsN bn, .nil⟩
  refine F.ok S len fun cdv A outer s H vs Q E hr hsp => ?_
  obtain ⟨t, h, q⟩ := body f cdv A outer s H vs Q E hr hsp
  exact ⟨t, h.nox, q⟩
theorem makOf {x q : Str} {C : Addr} {st : Stmt} {N ps : List Str} {sp : Sp} {k : Nat} (hm : mg x = some (.ref C)) (D : InAt K C q st) (S : FnScope N ps (defScope st))
    (bn : ∀ (kV doc pm : Value) (an : Option Addr) (cdv ct : Value) (us : List Value), us.length = ps.length → bindArgs (PySem.W.fnOf "__init__" q (defArgs st) (defBody st) (defScope st) .none kV doc pm an cdv ct) ⟨us, []⟩ = pure (ps.zip us))
    (len : ∀ vs H Q E, sp vs H Q E → vs.length = ps.length)
    (body : ∀ (f : Addr) (cdv : Value) (A : Around) (outer : List Env) (s : Shared) (H : Hp) (vs : List V) (Q : VK) (E : XK), Room k (A.deeper (envOfC q (defScope st) s.heap.objs.size f cdv)) → sp vs H Q E →
      ∃ t, PSs (cxOf CX0 P w K mg base N q (defScope st) f cdv A outer s H E).nox (defBody st) t ∧ t { nx := fun _ H' => Q .non H', rt := Q } (start N vs) H) : Mak P w K mg base (k + 1) x C sp [] := by
  obtain ⟨f, fd, F, me⟩ := D.ex
  refine ⟨f, fd, ps, [], me, ?_, hm, F.bindsN bn, .nil⟩
  refine F.ok S len fun cdv A outer s H vs Q E hr hsp => ?_
  obtain ⟨t, h, q⟩ := body f cdv A outer s H vs Q E hr hsp
  exact ⟨t, h.nox, q⟩
/-! ### own exceptions -/
/-- what the written part says of an own exception class with an own __init__ (its def at fI) -/
structure OwnX (K : PySem.W.Frag) (C fI : Addr) : Prop where
  oex : OexC K C
  init : PySem.W.findIn K (.ref C) "__init__" = some (some (.ref fI))
  ty : PySem.W.typeIn K (.ref fI) = some (.type "function")
  xf : XfC K C
/-- a base whose __init__ is ValueError's -/
structure BaseX (K : PySem.W.Frag) (C : Addr) : Prop where
  rd : ClX.CRead K C (.type "type")
  at_ : PySem.W.findCls K (.ref C) (.type "type") "__init__" = some (.val (.builtin "ValueError.__init__"))
end
section
variable {X : Cx} {e : Expr} {es : List Expr} {ta : TA} {p1 p2 pos : Pos} {B x : Str} {C0 C fI : Addr}
/-- Base.__init__(self, ..), Base an own class over ValueError -/
theorem pe_pinit {pl : Sem Bool} (T : BaseX X.K C0) (hm : X.mg B = some (.ref C0)) (hg : Gl X B) (ha : PA X (e :: es) ta)
    (hc : eval (.Call (.Attribute (.Name B p1) "__init__" p2) (e :: es) [] pos) X.env = (do
      let ov ← eval (.Name B p1) X.env
      standAt p2.atName
      let (f, first) ← holding [ov] (getMethod ov "__init__" pl)
      callWith pos f first (backTo pos (starEach (e :: es) X.env)) (backToKw pos (keywordEach [] X.env))) := by rfl) (hdb : (B == ("__debug__" : Str)) = false := by decide)
    (he : starEach (e :: es) X.env = (false, eval e X.env) :: starEach es X.env := by rfl) (hpl : (backTo pos (starEach es X.env)).any (·.1) = false := by rfl) :
    PE X (.Call (.Attribute (.Name B p1) "__init__" p2) (e :: es) [] pos) (tVeI X.K ta) := by
  refine ⟨fun pins s σ H Q I h => ?_⟩
  refine PySem.W.methodCall_KW (ld_glob I hg hm ?_ hdb) hc
  refine PySem.W.method_cls I.kIn T.rd.ga (PySem.W.cls_value I.kIn T.rd.rd T.at_ (by decide +kernel) ?_)
  show wpAny _ _ (callWith pos (Value.builtin "ValueError.__init__") [] (backTo pos (starEach (e :: es) X.env)) []) _ _ _
  refine PyProof.Rows.callWith_method1 (thn (ha.run pos pins _ σ H _ (I.tok _) h) fun us s1 ⟨vs, H1, I1, r1, a, C, ws, ev, hl, T, ea, q⟩ => ?_) he hpl
  subst ev
  cases r1 with
  | @cons _ u0 _ ur ra rw' =>
    obtain rfl : u0 = Value.ref a := ra
    have hlen : ur.length ≤ sizeLine := by
      rw [← Paired.length rw', sizeLine_eq]
      omega
    exact oinit_ok T I1 ea hlen fun s' J => ⟨.non, H1, J, rfl, q⟩
/-- a call that may let an exception out -/
theorem pe_cx {k j : Nat} {sp : Sp} {W : WX} (c : CalX X.prog X.w X.K X.mg X.base k x sp) (hr : Room j X.A) (hk : k ≤ j) (hg : Gl X x) (tk : Takes X W) (ha : PA X (e :: es) ta)
    (hdb : (x == ("__debug__" : Str)) = false := by decide) (he : starEach (e :: es) X.env = (false, eval e X.env) :: starEach es X.env := by rfl) (hpl : (backTo pos (starEach es X.env)).any (·.1) = false := by rfl) :
    PE X (.Call (.Name x p1) (e :: es) [] pos) (tCallS sp (WE W) ta) := by
  obtain ⟨f, fd, ps, F, m, kp, b⟩ := c.ex
  exact pe_callS F (hr.mono hk) hg m kp b (fun σ => passAt tk σ) ha hdb he hpl
/-- an own exception made: its __init__ keeps sp -/
structure MakX (P : Program) (w : World) (K : PySem.W.Frag) (mg : Str → Option Value) (base : Heap) (k : Nat) (x : Str) (C : Addr) (sp : Sp) : Prop where
  ex : ∃ (f : Addr) (fd : FuncData) (ps : List Str), OwnX K C f ∧ FnOk P w K mg base CX0 k f fd ps sp ∧ mg x = some (.ref C) ∧ Binds K fd ps []
theorem pmk_x {k j : Nat} {sp : Sp} (M : MakX X.prog X.w X.K X.mg X.base k x C sp) (hr : Room j X.A) (hk : k + 1 ≤ j) (hg : Gl X x) (ha : PA X (e :: es) ta)
    (hdb : (x == ("__debug__" : Str)) = false := by decide) (he : starEach (e :: es) X.env = (false, eval e X.env) :: starEach es X.env := by rfl) (hpl : (backTo pos (starEach es X.env)).any (·.1) = false := by rfl) :
    PMk X (.Call (.Name x p1) (e :: es) [] pos) (tMkO C sp [] ta) := by
  obtain ⟨f, fd, ps, T, F, m, b⟩ := M.ex
  exact pmk_oex T.oex T.init T.ty F (hr.mono hk) b .nil pass0 hg m ha hdb he hpl
/-- raise Own(..), out of the def -/
theorem ps_rx {k j : Nat} {sp : Sp} {W : WX} (M : MakX X.prog X.w X.K X.mg X.base k x C sp) (hr : Room j X.A) (hk : k + 1 ≤ j) (hg : Gl X x) (hc : X.calm = true) (tk : Takes X W) (ha : PA X (e :: es) ta)
    (hdb : (x == ("__debug__" : Str)) = false := by decide) (he : starEach (e :: es) X.env = (false, eval e X.env) :: starEach es X.env := by rfl) (hpl : (backTo pos (starEach es X.env)).any (·.1) = false := by rfl) :
    PS X (.Raise (some (.Call (.Name x p1) (e :: es) [] pos)) none p2) (fun _ σ H => tMkO C sp [] ta σ H fun cls d H' => W cls d σ H') :=
  ps_raise hc tk (pmk_x M hr hk hg ha hdb he hpl)
end
section
variable {P : Program} {w : World} {K : PySem.W.Frag} {mg : Str → Option Value} {base : Heap}
theorem makXOf {x q : Str} {C f : Addr} {st : Stmt} {N ps : List Str} {sp : Sp} {k : Nat} (hm : mg x = some (.ref C)) (O : OwnX K C f) (D : ∃ fd, FnP K "__init__" q st f fd) (S : FnScope N ps (defScope st))
    (bn : ∀ (kV doc pm : Value) (an : Option Addr) (cdv ct : Value) (us : List Value), us.length = ps.length → bindArgs (PySem.W.fnOf "__init__" q (defArgs st) (defBody st) (defScope st) .none kV doc pm an cdv ct) ⟨us, []⟩ = pure (ps.zip us))
    (len : ∀ vs H Q E, sp vs H Q E → vs.length = ps.length)
    (body : ∀ (f : Addr) (cdv : Value) (A : Around) (outer : List Env) (s : Shared) (H : Hp) (vs : List V) (Q : VK) (E : XK), Room k (A.deeper (envOfC q (defScope st) s.heap.objs.size f cdv)) → sp vs H Q E →
      ∃ t, PSs (cxOf CX0 P w K mg base N q (defScope st) f cdv A outer s H E).nox (defBody st) t ∧ t { nx := fun _ H' => Q .non H', rt := Q } (start N vs) H) : MakX P w K mg base (k + 1) x C sp := by
  obtain ⟨fd, F⟩ := D
  refine ⟨f, fd, ps, O, ?_, hm, F.bindsN bn⟩
  refine F.ok S len fun cdv A outer s H vs Q E hr hsp => ?_
  obtain ⟨t, h, q⟩ := body f cdv A outer s H vs Q E hr hsp
  exact ⟨t, h.nox, q⟩
/-- __init__(self, x): the base's, then one field -/
def spX1 (K : PySem.W.Frag) (C : Addr) (fld : Str) : Sp := fun vs H Q _ => ∃ (a : Addr) (v : V), vs = [.ref a, v] ∧ H a = some (exo a C none) ∧ ∀ dx, H dx = none → dx ≠ a → Q .non (upd (upd H dx (exd dx [(fld, v)])) a (exo a C (some dx)))
/-- what such an exception leaves -/
theorem mkO_1 {C : Addr} {fld : Str} {H : Hp} {v : V} {Q : XK} (k : ∀ (d : Addr) (H' : Hp), Same H H' → H d = none → H' d = some (.xd [(fld, v)]) → Q (.ref C) (some d) H') : ∀ a, H a = none → spX1 K C fld (.ref a :: ([v] ++ [])) (upd H a (exo a C none))
    (fun u H2 => u = .non ∧ ∃ (d : Addr) (fs : List (Str × V)), H2 a = some (exo a C (some d)) ∧ H2 d = some (exd d fs) ∧ H d = none ∧ Q (.ref C) (some d) (upd (del H2 a) d (.xd fs))) (fun _ _ _ => False) := fun a ha => by
  refine ⟨a, v, rfl, upd_same, fun dx hd ne => ⟨rfl, dx, [(fld, v)], upd_same, by rw [upd_ne ne, upd_same], ?_, ?_⟩⟩
  · rw [upd_ne ne] at hd
    exact hd
  · rw [upd_ne ne] at hd
    refine k dx _ (fun b o e => ?_) hd upd_same
    have n1 : b ≠ dx := ne_of_none e hd
    have n2 : b ≠ a := ne_of_none e ha
    rw [upd_ne n1, del_ne n2, upd_ne n2, upd_ne n1, upd_ne n2]
    exact e
end
section
variable {X : Cx} {e : Expr} {es : List Expr} {ta : TA} {p1 p2 pos : Pos} {B x : Str} {C0 C fI : Addr}
/-! ### own == -/
theorem rel_bl {v : V} {u : Value} {k : Bool} (e : v = .bl k) (r : RelV v u) : u = .bool k := by
  subst e
  exact r
theorem op_eqOwn {n : Nat} {f : Addr} {fd : FuncData} {ps : List Str} {sp : Sp} (F : FnOk X.prog X.w X.K X.mg X.base CX0 n f fd ps sp) (me : Meth X.K C "__eq__" f) (hb : Binds X.K fd ps []) (hr : Room n X.A) (hu : X.A.units < cLine) :
    OpR X (compareOp .Eq) (fun x y H Q => ∃ a b dx dy fs gs, x = .ref a ∧ y = .ref b ∧ H a = some (.ins C dx fs) ∧ H b = some (.ins C dy gs) ∧ sp [.ref a, .ref b] H (fun v H' => ∃ k, v = .bl k ∧ Q v H') E0) := by
  intro pins s σ H x y v u Q I rx ry h
  obtain ⟨a, b, dx, dy, fs, gs, rfl, rfl, ha, hb', hsp⟩ := h
  cases rx
  cases ry
  obtain ⟨mA, J, _⟩ := ins_get I.hok ha
  obtain ⟨mB, J', _⟩ := ins_get I.hok hb'
  obtain ⟨od, J, _⟩ := J.look
  obtain ⟨od', J', _⟩ := J'.look
  obtain ⟨m, hF⟩ := I.fr
  show wpAny (model X.prog X.w) X.A (richCompare .Eq (.ref a) (.ref b)) (EP X pins σ Q) X.xe s
  refine PySem.W.cmp_K (op := .Eq) (tb := .ref C) hu hF I.ok.mod.kin J J'.type (by simp [PySem.W.notFirst]) me.at_ me.fn ?_
  have hl := F.len _ _ _ _ hsp
  have r2 : Vals [V.ref a, V.ref b] [Value.ref a, Value.ref b] := .cons rfl (.cons rfl .nil)
  have z := run_fn (Q := fun v H' => ∃ k, v = V.bl k ∧ Q v H') F hr hb (dvs := []) Paired.nil (E := E0) pass0 I r2 (by simpa using hsp)
  refine wpAny_mono z (fun r s' q => ?_) fun _ _ x => x
  obtain ⟨v, H', I', rv, k, ev, q⟩ := q
  subst ev
  have er : r = .bool k := rv
  subst er
  exact ⟨.bl k, H', I', rfl, q⟩
end
/-! ### facts of one's own -/
def eqOV (a b : Option (Option Value)) : Bool := decide (a = b)
def oexB (K : PySem.W.Frag) (C : Addr) : Bool := (match K.lookup C with
  | some ⟨.type t, _, .cls cd, ⟨[_, _, _, _, some (.builtin n), _]⟩⟩ => decide (t = "type") && (decide (n = "ValueError.__new__") && (cd.hasDict && (!cd.hasDel && (match cd.mro with
    | .ref C' :: bm => decide (C' = C) && PySem.HandSPX.refsVE bm
    | _ => false))))
  | _ => false) && (eqOV (PySem.W.findIn K (.ref C) "__setattr__") (some (some (.builtin "object.__setattr__"))) && (decide (PySem.W.subIn K (.ref C) (.type "BaseException") = some true) && (decide (PySem.W.typeIn K (.ref C) = some (.type "type")) && PySem.W.keepIn K (.ref C))))
theorem oexB_ok {K : PySem.W.Frag} {C : Addr} (h : oexB K C = true) : OexC K C := by
  obtain ⟨h1, h⟩ := He.ba h
  obtain ⟨h2, h⟩ := He.ba h
  obtain ⟨h3, h⟩ := He.ba h
  obtain ⟨h4, h5⟩ := He.ba h
  refine ⟨?_, of_decide_eq_true h2, of_decide_eq_true h3, of_decide_eq_true h4, h5⟩
  split at h1
  · rename_i t dd cd k0 k1 k2 k3 n k5 e
    obtain ⟨g1, h1⟩ := He.ba h1
    obtain ⟨g2, h1⟩ := He.ba h1
    obtain ⟨g3, h1⟩ := He.ba h1
    obtain ⟨g4, h1⟩ := He.ba h1
    obtain ⟨nm, bs, mro, ns, qn, hd, sn, sub, ab, col, del⟩ := cd
    dsimp only at g3 g4 h1
    cases mro with
    | nil => cases h1
    | cons c0 bm =>
      cases c0 with
      | ref C' =>
        obtain ⟨g5, g6⟩ := He.ba h1
        have a1 : t = "type" := of_decide_eq_true g1
        have a2 : n = "ValueError.__new__" := of_decide_eq_true g2
        have a3 : C' = C := of_decide_eq_true g5
        have a4 : del = false := by simpa using g4
        subst a1 a2 a3 a4 g3
        exact ⟨nm, qn, ns, bs, bm, sn, sub, ab, col, dd, k0, k1, k2, k3, k5, e, g6⟩
      | _ => cases h1
  · cases h1
def ownB (x : Str) (K : PySem.W.Frag) : Bool := oexB K (He.ga K x) && (eqOV (PySem.W.findIn K (.ref (He.ga K x)) "__init__") (some (some (.ref (He.ma K (He.ga K x) "__init__")))) && (decide (PySem.W.typeIn K (.ref (He.ma K (He.ga K x) "__init__")) = some (.type "function")) && xfB K (He.ga K x)))
theorem ownB_ok {K : PySem.W.Frag} {x : Str} (h : ownB x K = true) : OwnX K (He.ga K x) (He.ma K (He.ga K x) "__init__") := by
  obtain ⟨h1, h⟩ := He.ba h
  obtain ⟨h2, h⟩ := He.ba h
  obtain ⟨h3, h4⟩ := He.ba h
  exact ⟨oexB_ok h1, of_decide_eq_true h2, of_decide_eq_true h3, xfB_ok h4⟩
def basB (x : Str) (K : PySem.W.Frag) : Bool := PySem.W.readsIn K (He.ga K x) (.type "type") && (eqOV (PySem.W.specialIn K (.ref (He.ga K x)) "__getattribute__") (some (some (.builtin "type.__getattribute__"))) && (match PySem.W.findCls K (.ref (He.ga K x)) (.type "type") "__init__" with
  | some (.val (.builtin n)) => decide (n = "ValueError.__init__")
  | _ => false))
theorem basB_ok {K : PySem.W.Frag} {x : Str} (h : basB x K = true) : BaseX K (He.ga K x) := by
  obtain ⟨h1, h⟩ := He.ba h
  obtain ⟨h2, h3⟩ := He.ba h
  refine ⟨⟨h1, of_decide_eq_true h2⟩, ?_⟩
  split at h3
  · rename_i n e
    have a : n = "ValueError.__init__" := of_decide_eq_true h3
    rw [e, a]
  · cases h3
/-- isinstance(instance of x, y) -/
def isiB (x y : Str) (b : Bool) (K : PySem.W.Frag) : Bool := decide (PySem.W.kitOne K (.ref (He.ga K x)) (.ref (He.ga K y)) = some b)
def tyiB (t : String) (y : Str) (b : Bool) (K : PySem.W.Frag) : Bool := decide (PySem.W.kitOne K (.type t) (.ref (He.ga K y)) = some b)
def frK (n : Nat) (g : Addr → Option Obj) : PySem.W.Frag := He.frG g (cStatics :: He.asD g n)
abbrev AlK : Type := He.AlD × List Bool
def obsK (n : Nat) (fa : List He.Fa) (fn : List He.DefD) (my : List (PySem.W.Frag → Bool)) (g : Addr → Option Obj) : AlK := (He.obsD fa fn (frK n g), my.map fun f => f (frK n g))
def SaysK (fa : List He.Fa) (fn : List He.DefD) (my : List (PySem.W.Frag → Bool)) (K : PySem.W.Frag) : Prop := He.SaysD fa fn K ∧ my.map (fun f => f K) = my.map fun _ => true
theorem SaysK.own {fa : List He.Fa} {fn : List He.DefD} {my : List (PySem.W.Frag → Bool)} {K : PySem.W.Frag} (c : SaysK fa fn my K) (i : Nat) {f : PySem.W.Frag → Bool} (h : my[i]? = some f := by rfl) : f K = true := by
  have q : (my.map fun f => f K)[i]? = (my.map fun _ => true)[i]? := by rw [c.2]
  rw [List.getElem?_map, List.getElem?_map, h] at q
  exact Option.some.inj q
def hookK (n : Nat) (fa : List He.Fa) (fn : List He.DefD) (my : List (PySem.W.Frag → Bool)) : PySem.W.Hook where
  α := AlK
  obs := fun s => obsK n fa fn my s.heap.get?
  val := fun _ => (He.valD fn, my.map fun _ => true)
  says := fun _ h => ∃ K : PySem.W.Frag, K.In h ∧ SaysK fa fn my K
  of := fun _ s e => ⟨frK n s.heap.get?, He.frG_in, congrArg Prod.fst e, congrArg Prod.snd e⟩
  keeps := fun _ _ _ ⟨K, hK, c⟩ k => ⟨K, PySem.W.Frag.In.keeps hK k, c⟩
theorem obsK_eq {n : Nat} {fa : List He.Fa} {fn : List He.DefD} {my : List (PySem.W.Frag → Bool)} {g : Addr → Option Obj} {s : Shared} (h : ∀ a, g a = s.heap.get? a) : obsK n fa fn my g = (hookK n fa fn my).obs s := by
  have e : g = s.heap.get? := funext h
  rw [e]
  rfl
end L2.KK
/-! tuple.index of flat values -/
namespace L2.KK
open PySem PySem.Spec PyProof.Rows C8
def rTupIdx (K : PySem.W.Frag) : V → List V → Hp → VK → Prop := fun x xs H Q => ∃ (p : Addr) (ys : List V) (y : V) (j : Nat) (z : V), x = V.ref p ∧ xs = [y] ∧ SqT K H p ys ∧ flatV y = true ∧ ys.all flatV = true ∧ ys[j]? = some z ∧ eqV z y = true ∧
  (∀ (m : Nat) (z' : V), m < j → ys[m]? = some z' → eqV z' y = false) ∧ Q (.int (j : Nat)) H
theorem mtTupIdx {X : Cx} (K : PySem.W.Frag) (hK : X.K = K := by rfl) : MtR X "tuple.index" (rTupIdx K) := by
  subst hK
  intro pins s σ H x xs v us Q I rx rxs h
  obtain ⟨p, ys, y, j, z, rfl, rfl, hs, fy, fys, hz, hzj, hno, q⟩ := h
  cases rx
  cases rxs with
  | cons ry rt =>
    rename_i uy ut
    cases rt
    obtain ⟨its, rv, pl, hlen⟩ := I.tuple hs
    obtain ⟨⟨cls, dd, dt, sl⟩, ho, hc, n, hd⟩ := pl
    simp only at hc hd
    subst hc hd
    have all : ∀ (m : Nat) (hm : m < its.toArray.size), ∃ z', ys[m]? = some z' ∧ eqU y its.toArray[m] = eqV z' y := fun m hm => by
      have hml : m < its.length := by simpa using hm
      have hmy : m < ys.length := by rw [rv.length]; exact hml
      obtain ⟨u2, hu2, ru2⟩ := rv.get (List.getElem?_eq_getElem hmy)
      refine ⟨ys[m], List.getElem?_eq_getElem hmy, ?_⟩
      have e1 : its.toArray[m] = u2 := by simpa using (List.getElem?_eq_some_iff.mp hu2).2
      rw [e1]
      exact eqU_of ru2 (flat_at fys (List.getElem?_eq_getElem hmy))
    have hj : j < its.toArray.size := by
      have := (List.getElem?_eq_some_iff.mp hz).1
      rw [rv.length] at this
      simpa using this
    refine call_meets PySem.F.slot_tuple_index ⟨_, ho, rfl⟩ PySem.F.entry_tuple_index (PySem.F.args_tuple_index_2 _ _) (TI.tuple_indexAt p its.toArray n dd sl uy (eqU y) j hj ?_ ?_)
      ⟨ho, fun u' hu' => mem_eqAt ry fy rv fys u' (by simpa using hu'), ⟨.int (j : Nat), H, I.tok _, ⟨_, rfl⟩, q⟩⟩
    · obtain ⟨z', h1, h2⟩ := all j hj
      rw [hz] at h1
      cases h1
      rw [h2]
      exact hzj
    · intro m hm hmj
      obtain ⟨z', h1, h2⟩ := all m hm
      rw [h2]
      exact hno m z' hmj h1
/-- a tuple whose object is known to be a bare one -/
def BareT (H : Hp) (p : Addr) (xs : List V) : Prop := ∃ o : Obj, H p = some (.frz o (.tup xs)) ∧ o.cls = .type "tuple" ∧ o.dict = none
theorem BareT.seq {K : PySem.W.Frag} {H : Hp} {p : Addr} {xs : List V} (h : BareT H p xs) : SqT K H p xs := by
  obtain ⟨o, h, _⟩ := h
  exact .inl (.inr ⟨o, h⟩)
theorem BareT.grow {H H' : Hp} {p : Addr} {xs : List V} (h : BareT H p xs) (e : Same H H') : BareT H' p xs := by
  obtain ⟨o, h, c⟩ := h
  exact ⟨o, e _ _ h, c⟩
section
variable {X : Cx} {K : PySem.W.Frag}
/-- tuple(a list): a new bare tuple -/
theorem crTupF (K : PySem.W.Frag) (hK : X.K = K := by rfl) : CallR X (.type "tuple") (fun xs H Q => ∃ p ys, xs = [.ref p] ∧ SqL K H p ys ∧ ∀ l H', H l = none → Same H H' → BareT H' l ys → Q (.ref l) H') := by
  subst hK
  intro pins s σ H xs us Q I r h
  obtain ⟨p, ys, rfl, hq, q⟩ := h
  obtain ⟨u, rfl, rx⟩ := vals1 r
  cases rx
  obtain ⟨its, r', pl, hz⟩ := I.list hq
  have hlen := r'.length
  refine call_tuple_list pl.isList (fun h' kp => ?_) (by simp only [List.size_toArray] <;> omega)
  have I1 : Inv X pins σ H { s with heap := h' } := I.kept (t' := s.toks) kp
  have n0 : H h'.objs.size = none := I1.hok.fresh (Nat.le_refl _)
  have I2 : Inv X pins σ (upd H h'.objs.size (.frz { cls := .type "tuple", data := .seq its.toArray } (.tup ys))) { s with heap := h'.push { cls := .type "tuple", data := .seq its.toArray } } :=
    I1.laid (t' := s.toks) (fun b o e => Heap.get?_push_of_some _ e) (Nat.le_refl _) ⟨Heap.get?_push_size _ rfl, hz, its, r', IsTup.new _ _⟩
  exact ⟨.ref h'.objs.size, _, I2, rfl, q _ _ n0 (same_new n0) ⟨_, upd_same, rfl, rfl⟩⟩
variable {o e : Expr} {es : List Expr} {to : TE} {t : TA} {apos cpos : Pos}
def tTidx (K : PySem.W.Frag) (to : TE) (t : TA) : TE := fun σ H Q => to σ H fun x H1 => (∃ p xs, x = .ref p ∧ BareT H1 p xs) ∧ t σ H1 fun vs H2 => rTupIdx K x vs H2 Q
/-- t.index(x), t a bare tuple -/
theorem pe_tidx (hm : MtR X "tuple.index" (rTupIdx K)) (ho : PE X o to) (ha : PA X (e :: es) t) (hbase : attributeBase o "index" X.env (eval o X.env) = eval o X.env := by rfl)
    (hfew : ((backTo cpos (starEach (e :: es) X.env)).all (fun x => !x.1) && (backToKw cpos (keywordEach [] X.env)).all (fun x => x.1.isSome) && decide ((e :: es).length + ([] : List Keyword).length + (if ([] : List Keyword).isEmpty then 0 else 1) < 30)) = true := by rfl)
    (hline : (apos.endLine == cpos.line) = true := by rfl) (hs : starEach (e :: es) X.env = (false, eval e X.env) :: starEach es X.env := by rfl) (hplain : (backTo cpos (starEach es X.env)).any (·.1) = false := by rfl) :
    PE X (.Call (.Attribute o "index" apos) (e :: es) [] cpos) (tTidx K to t) := by
  refine ⟨fun pins s σ H Q I h => ?_⟩
  refine wpAny_Call_method_late hbase hfew hline rfl (thn (ho.run pins s σ H _ I h) fun v s1 ⟨x, H1, I1, r1, ⟨p, xs, ex, ob, hb, hc, hd⟩, q1⟩ => ?_)
  subst ex
  obtain rfl : v = Value.ref p := r1
  have g : s1.heap.get? p = some ob := (show ObjOk X.prog X.w H1 s1.heap p (.frz ob (.tup xs)) from I1.hok p _ hb).1
  refine ⟨"tuple", "tuple.index", PySem.F.plainAttrs_tuple, PySem.F.slot_tuple_index, PySem.F.type_tuple_index, ⟨ob, g, hc⟩, fun a z => ⟨ob, by cases z; exact g, hd⟩, ?_⟩
  have hA := ha.run cpos pins s1 σ H1 _ I1 q1
  rw [hs] at hA ⊢
  refine Calls.callWith_builtin (by show (false || (backTo cpos (starEach es X.env)).any (·.1)) = false; rw [hplain] <;> rfl) (Calls.evalArgs_plain ?_)
  exact thn hA fun us s2 ⟨vs, H2, I2, r2, q2⟩ => hm pins s2 σ H2 (V.ref p) vs (Value.ref p) us Q I2 rfl r2 q2
end
end L2.KK
/-! more of numbers and of comprehensions -/
namespace L2.KK
open PySem PySem.Spec PyProof.Rows C8
section
variable {X : Cx}
theorem op_mulNN : OpR X (binaryOp .Mult) (rNC (fun a b => a < 18446744073709551616 ∨ b < 18446744073709551616) fun a b => nV (a * b)) := by
  intro pins s σ H x y v u Q I rx ry ⟨a, b, e1, e2, c, q⟩
  refine op_mul pins s σ H x y v u Q I rx ry ⟨_, _, e1, e2, ?_, ?_⟩
  · rcases c with c | c
    · exact .inl ⟨by omega, by omega⟩
    · exact .inr ⟨by omega, by omega⟩
  · show Q (V.int ((a : Int) * (b : Int))) H
    rw [← Int.natCast_mul]
    exact q
variable {K : PySem.W.Frag} {H H1 : Hp} {D : Addr} {σ : St} {k : Nat} {tt : TT} {te : TE} {Qd : Hp → Prop} {item : Nat → V} {n : Nat} {sel : Nat → Bool} {P : Nat → V → Hp → Prop} {J : It} {G : Hp → Prop} {Y : Nat → Hp → V → Hp → Prop}
/-- a comprehension over any walk that hands on what stands, its turns changing nothing that stood -/
theorem lc_itT (w : Walk J n G Y) (hY : ∀ i H x H', i < n → Y i H x H' → H' = H ∧ x = item i) (hG : ∀ H', Same H H' → G H') (T : Turns H σ k item n tt te sel P) (hD : H D = none) (hz : n ≤ sizeLine)
    (hd : ∀ H' ys, Same H H' → H' D = some (.lst ys) → ys.length ≤ n → Paired (fun y j => P j y H') ys ((List.range n).filter sel) → Qd H') :
    ∃ W : Nat → Nat → Hp → Prop, (∃ m, W 0 m (upd H D (.lst []))) ∧ ∀ i m H, W i m H →
      (J.stop i H ∧ Qd H) ∨ (J.go i H ∧ ∃ Nx : Hp → Prop, (∀ H', Nx H' → ∃ m', m' < m ∧ W (i + 1) m' H') ∧ ∀ x H', J.yld i H x H' → gName k x (wipe σ [k]) H' fun σ2 H2 => wipe σ2 [k] = wipe σ [k] ∧ tt σ2 H2 fun b H3 =>
        if b = true then te σ2 H3 fun y H4 => ∃ acc, H4 D = some (.lst acc) ∧ acc.length < sizeLine ∧ Nx (upd H4 D (.lst (acc ++ [y]))) else Nx H3) :=
  lc_it w (Made H D sel P) (Turns.start hD) (fun _ _ _ M => hG _ M.1) (fun i x H0 H' hi M y => by
    obtain ⟨rfl, rfl⟩ := hY i H0 x H' hi y
    exact T.go hD hz hi M) fun H' ⟨a, ys, b, c, d⟩ => hd H' ys a b c d
theorem yAt_item {xs : List V} {i : Nat} {H H' : Hp} {x : V} (y : YAt xs i H x H') : H' = H ∧ x = xs.getD i .non := ⟨y.1, by rw [List.getD_eq_getElem?_getD, y.2]; rfl⟩
theorem lc_tupT {a : Addr} {xs : List V} (hx : SqT K H a xs) (T : Turns H σ k (fun i => xs.getD i .non) xs.length tt te sel P) (hD : H D = none) (hz : xs.length ≤ sizeLine)
    (hd : ∀ H' ys, Same H H' → H' D = some (.lst ys) → ys.length ≤ xs.length → Paired (fun y j => P j y H') ys ((List.range xs.length).filter sel) → Qd H') :
    ∃ W : Nat → Nat → Hp → Prop, (∃ m, W 0 m (upd H D (.lst []))) ∧ ∀ i m H, W i m H →
      ((Itt K a).stop i H ∧ Qd H) ∨ ((Itt K a).go i H ∧ ∃ Nx : Hp → Prop, (∀ H', Nx H' → ∃ m', m' < m ∧ W (i + 1) m' H') ∧ ∀ x H', (Itt K a).yld i H x H' → gName k x (wipe σ [k]) H' fun σ2 H2 => wipe σ2 [k] = wipe σ [k] ∧ tt σ2 H2 fun b H3 =>
        if b = true then te σ2 H3 fun y H4 => ∃ acc, H4 D = some (.lst acc) ∧ acc.length < sizeLine ∧ Nx (upd H4 D (.lst (acc ++ [y]))) else Nx H3) :=
  lc_itT walk_tup (fun _ _ _ _ _ y => yAt_item y) (fun _ s => same_seqT s hx) T hD hz hd
/-- reversed(a tuple) -/
theorem walk_revT {a : Addr} {xs : List V} : Walk (RT.ItvT K a xs.length) xs.length (fun H => SqT K H a xs) (fun i H x H' => H' = H ∧ xs[xs.length - 1 - i]? = some x) :=
  ⟨fun i _ hi q => ⟨hi, xs, xs[xs.length - 1 - i]'(by omega), q, by simp [show xs.length - 1 - i < xs.length by omega]⟩, fun _ _ => Nat.le_refl _, fun _ _ _ _ _ q y => ⟨y.1, y.2 xs q⟩⟩
theorem lc_revT {a : Addr} {xs : List V} (hx : SqT K H a xs) (T : Turns H σ k (fun i => xs.getD (xs.length - 1 - i) .non) xs.length tt te sel P) (hD : H D = none) (hz : xs.length ≤ sizeLine)
    (hd : ∀ H' ys, Same H H' → H' D = some (.lst ys) → ys.length ≤ xs.length → Paired (fun y j => P j y H') ys ((List.range xs.length).filter sel) → Qd H') :
    ∃ W : Nat → Nat → Hp → Prop, (∃ m, W 0 m (upd H D (.lst []))) ∧ ∀ i m H, W i m H →
      ((RT.ItvT K a xs.length).stop i H ∧ Qd H) ∨ ((RT.ItvT K a xs.length).go i H ∧ ∃ Nx : Hp → Prop, (∀ H', Nx H' → ∃ m', m' < m ∧ W (i + 1) m' H') ∧ ∀ x H', (RT.ItvT K a xs.length).yld i H x H' → gName k x (wipe σ [k]) H' fun σ2 H2 => wipe σ2 [k] = wipe σ [k] ∧ tt σ2 H2 fun b H3 =>
        if b = true then te σ2 H3 fun y H4 => ∃ acc, H4 D = some (.lst acc) ∧ acc.length < sizeLine ∧ Nx (upd H4 D (.lst (acc ++ [y]))) else Nx H3) :=
  lc_itT walk_revT (fun i H x H' hi y => ⟨y.1, by rw [List.getD_eq_getElem?_getD, y.2]; rfl⟩) (fun _ s => same_seqT s hx) T hD hz hd
end
/-! ### values -/
/-- a price: a number, or none -/
def pV : Option Nat → V
  | none => .non
  | some n => nV n
theorem pV_none (o : Option Nat) : (pV o = .non) = (o = none) := by
  cases o with
  | none => simp [pV]
  | some n => simp [pV, nV]
/-- a new tuple is told -/
def NewT (H : Hp) (Q : VK) (xs : List V) : Prop := ∀ p H', Same H H' → H p = none → H' p = some (.tup xs) → Q (.ref p) H'
end L2.KK
/-! instances: what they are, what stands when one changes -/
namespace L2.KK
open PySem PySem.Spec PyProof.Rows C8
structure InsX (K : PySem.W.Frag) (C : Addr) : Prop where
  c : Cls K C
  ha : PySem.W.findIn K (.ref C) "__class__" = some (some (.builtin "object.__class__"))
  hn : PySem.W.specialIn K (.builtin "object.__class__") "__get__" = some (some (.builtin "getset_descriptor.__get__"))
  ht : PySem.W.takesIn K (.builtin "object.__class__") = some true
  hm : PySem.W.mroIn K C (.type "object") = some true
def insB (x : Str) (K : PySem.W.Frag) : Bool := (He.Fa.cls x).ok K && (eqOV (PySem.W.findIn K (.ref (He.ga K x)) "__class__") (some (some (.builtin "object.__class__"))) && (eqOV (PySem.W.specialIn K (.builtin "object.__class__") "__get__") (some (some (.builtin "getset_descriptor.__get__"))) &&
  (decide (PySem.W.takesIn K (.builtin "object.__class__") = some true) && decide (PySem.W.mroIn K (He.ga K x) (.type "object") = some true))))
theorem insB_ok {K : PySem.W.Frag} {x : Str} (h : insB x K = true) : InsX K (He.ga K x) := by
  obtain ⟨h1, h⟩ := He.ba h
  obtain ⟨h2, h⟩ := He.ba h
  obtain ⟨h3, h⟩ := He.ba h
  obtain ⟨h4, h5⟩ := He.ba h
  exact ⟨He.cls_ok h1, of_decide_eq_true h2, of_decide_eq_true h3, of_decide_eq_true h4, of_decide_eq_true h5⟩
section
variable {K : PySem.W.Frag} {H H' : Hp} {a x C dx : Addr} {xs : List V} {fs : List (Str × V)}
theorem InsX.ty (T : InsX K C) (e : H a = some (.ins C dx fs)) : TyX K H (.ref a) (.ref C) := .base (.ins e T.c T.ha T.hn T.ht T.hm)
theorem tyx_seqT (h : SqT K H a xs) : TyX K H (.ref a) (.type "tuple") := by
  rcases h with h | ⟨o, its, n, h1, h2, _⟩
  · rcases h with h | ⟨o, h⟩
    · exact .base (.tup h)
    · exact .fTuple h
  · exact .kTuple h1 h2
theorem tyx_seqL (h : SqL K H a xs) : TyX K H (.ref a) (.type "list") := by
  rcases h with h | ⟨o, its, n, h1, h2, _⟩
  · rcases h with h | ⟨o, h⟩
    · exact .base (.lst h)
    · exact .base (.frz h)
  · exact .kList h1 h2
/-- a tuple stands when an instance changes -/
theorem kp_seqT (k : Kp x H H') (hx : H x = some (.ins C dx fs)) (h : SqT K H a xs) : SqT K H' a xs := by
  rcases h with h | h
  · rcases h with h | ⟨o, h⟩
    · exact .inl (.inl (k _ _ h fun z => by rw [z, hx] at h; cases h))
    · exact .inl (.inr ⟨o, k _ _ h fun z => by rw [z, hx] at h; cases h⟩)
  · exact .inr h
theorem kp_upd {o : HO} : Kp x H (upd H x o) := fun b u e n => by rw [upd_ne n]; exact e
theorem kp_list {l : Addr} {ys : List V} {x' : Addr} (k : Kp x' H H') (h : H l = some (.lst ys)) (n : l ≠ x') : H' l = some (.lst ys) := k _ _ h n
end
end L2.KK
/-! isinstance of a caught exception of one's own that has fields -/
namespace PySem.W
open PySem PySem.Spec PySem.Calls PyProof.Rows
section
variable {prog : Program} {w : World} {A : Around} {E : Value → Shared → Prop} {s : Shared} {K : Frag} {x D : Addr} {ox : Obj} {od : Option Obj}
theorem findObj_any {C : Addr} {nm : Str} {a g : Value} (hc : (clsIn K C).isSome = true) (h1 : findIn K (.ref C) nm = some (some a)) (h2 : specialIn K a "__get__" = some (some g)) (h3 : takesIn K a = some true) : findObj K C od nm = some (.bind g a) := by
  obtain ⟨cd, e⟩ := Option.isSome_iff_exists.mp hc
  unfold findObj; rw [e, Option.bind_some, h1, Option.bind_some]; simp [h2, h3]
theorem cls_of_exc (C : L2.ExcC K D) (X : K.In s.heap) (I : InstAt s.heap x ox D od) {Q : Option Value → Shared → Prop} (h : Q (some (.ref D)) { s with toks := s.toks + 1 }) : wpAny (model prog w) A (getAttr? (.ref x) "__class__") Q E s := by
  have hf : findObj K D od "__class__" = some (.bind (.builtin "getset_descriptor.__get__") (.builtin "object.__class__")) := findObj_any (by obtain ⟨c0, q0, _⟩ := any_some C.hd; rw [q0]; rfl) C.ha C.hn C.ht
  obtain ⟨hp, gg, dr, tk, oo⟩ := s
  have T0 := I.type (M := model prog w)
  have T1 := looks_findIn (M := model prog w) X C.hg
  have T2 := looks_findIn (M := model prog w) X C.hk
  have T3 := looks_find (M := model prog w) X I hf
  have sb : Looks (model prog w) hp (isInstance (.ref x) (.type "BaseException")) true := T0.andThen (looks_subIn X C.hs)
  have n0 : (false && onTheHeap (Value.builtin "BaseException.__getattribute__")) = false := rfl
  have n1 : (onTheHeap (Value.ref D) && Value.builtin "BaseException.__getattribute__" == Value.builtin "object.__getattribute__") = false := by rw [show (Value.builtin "BaseException.__getattribute__" == Value.builtin "object.__getattribute__") = false from by decide +kernel]; rfl
  unfold getAttr? getAttrBy? getAttrBy; refine wpAny_bind (wpAny_mkText (wpAny_bind (wpAny_attempt (wpAny_holding (wpAny_bind (T0.at (wpAny_bind (T1.at ?_))))))))
  show wpAny _ _ (if (onTheHeap (Value.ref D) && Value.builtin "BaseException.__getattribute__" == Value.builtin "object.__getattribute__") = true then _ else _) _ _ _; rw [n1, if_neg Bool.false_ne_true]
  unfold getAttrByItsOwn hookBefore; refine wpAny_bind ?_
  rw [if_pos (show onTheHeap (Value.ref D) = true from rfl)]; refine T2.at (wpAny_bind (wpAny_attempt (wpAny_holding ?_)))
  unfold callGetattribute; rw [n0, if_neg Bool.false_ne_true]
  unfold boundAndCalled; rw [PySem.F.excAttr_ValueError.ga.bind (.ref x)]
  refine wpAny_bind (wpAny_pure ?_); show wpAny _ _ (call (.builtin "BaseException.__getattribute__") [.ref x, .str "__class__" tk]) _ _ _
  refine wpAny_call (codeAny_call_builtin PySem.F.excAttr_ValueError.ga.plain PySem.F.entry_bexc_ga (@check_slot (model prog w) _ _ ⟨hp, gg, dr, tk + 1, oo⟩ "BaseException.__getattribute__" "BaseException" "__getattribute__" (.ref x) [.str "__class__" tk] [] _ (by decide +kernel) (by decide +kernel) sb (PySem.F.args_bexc_ga (.ref x) (.str "__class__" tk)) ?_))
  unfold Builtin.«object.__getattribute__»; refine wpAny_bind (wpAny_of_eq (a := ((Value.ref x : Value), [Value.str "__class__" tk])) (by first | rfl | (simp only [slotArgs]; rfl)) ?_)
  refine wpAny_bind (wpAny_pure (wpAny_bind (T0.at (wpAny_bind (T3.at ?_))))); show wpAny _ _ (holding [Value.builtin "object.__class__"] (call (.builtin "getset_descriptor.__get__") [.builtin "object.__class__", .ref x, .ref D]) >>= ret) _ _ _
  refine wpAny_bind (wpAny_holding (wpAny_call (class_get (s := ⟨hp, gg, dr, tk + 1, oo⟩) (ox := ox) (od := od) X I C.hm (wpAny_pure ?_))))
  show wpAny _ _ (handedOut (.ref D)) _ _ _; rw [handedOut_of (v := .ref D) rfl]
  first | exact wpAny_pure (wpAny_pure h) | exact wpAny_pure h | exact wpAny_pure (wpAny_bind (wpAny_pure (wpAny_pure h)))
theorem kitx_oexc (C : L2.ExcC K D) : KitX K (.ref x) (.ref D) (fun h => InstAt h x ox D od) where
  ty := fun _ _ _ I => I.type
  it := fun _ _ X _ => by
    obtain ⟨c0, q0, _⟩ := any_some C.hd
    unfold clsIn at q0; split at q0
    · rename_i ho; intro A' Q' E' s' k q; unfold isType loadHead; exact wpAny_bind (wpAny_loadPart (k _ _ (X _ _ ho)) (wpAny_pure q))
    · cases q0
  ne := fun h tp dd its n sl X htp => by
    obtain ⟨c0, q0, _⟩ := any_some C.hd
    refine Bool.eq_false_iff.mpr fun q => ?_
    obtain rfl : D = tp := Value.ref.inj (beq_iff_eq.mp q)
    unfold clsIn at q0; split at q0
    · rename_i ho; cases (X _ _ ho).symm.trans htp
    · cases q0
  ca := fun X I k => cls_of_exc C X I k
end
end PySem.W
namespace L2.KK
open PySem PySem.Spec PyProof.Rows
/-- isinstance(error, c), the error of the class D and its fields at d -/
def rIsO (K : PySem.W.Frag) (D a : Addr) (d : Option Addr) : List V → Hp → VK → Prop := fun xs H Q => ∃ (c : V) (cv : Value) (b : Bool) (dd : Addr) (fs : List (Str × V)), xs = [.ref a, c] ∧ d = some dd ∧ H dd = some (.xd fs) ∧ (∀ u, RelV c u → u = cv) ∧ PySem.W.kitOne K (.ref D) cv = some b ∧ Q (.bl b) H
theorem call_isO {X : Cx} {a D : Addr} {oe : Obj} {cls : Value} {d : Option Addr} {pn : List (Addr × Obj)} (C : ExcC X.K D) (hz : Zc cls d oe) (hf : ∃ vs, oe.data = .fields vs) : CallR (X.suite a ((a, oe) :: pn)) (.builtin "isinstance") (fun xs H Q => cls = .ref D ∧ rIsO X.K D a d xs H Q) := by
  intro pins s σ H xs us Q I r ⟨hcls, h⟩
  obtain ⟨c, cv, b, dd, fs, rfl, rfl, hd, hcv, e, q⟩ := h
  cases r with
  | cons rx rr =>
    cases rr with
    | cons rt rr =>
      cases rr
      cases rx
      obtain rfl := hcv _ rt
      obtain ⟨hget, _⟩ := I.pin (a, oe) (List.mem_append.mpr (.inl List.mem_cons_self))
      obtain ⟨vs, hv⟩ := hf
      obtain ⟨mA, hns, _⟩ := (show ObjOk X.prog X.w H s.heap dd (.xd fs) from I.hok dd _ hd)
      obtain ⟨od, hod, _⟩ := lookIn_ns hns
      have J : PySem.W.InstAt s.heap a oe D (some od) := by
        obtain ⟨oc, odi, oda, osl⟩ := oe
        obtain ⟨h1, h2⟩ := hz
        dsimp only at h1 h2 hv
        subst h2 hv
        rw [hcls] at h1
        exact ⟨hget, h1, rfl, hod⟩
      exact PySem.W.kia_one (PySem.W.kitx_oexc C) I.kIn J e (fun z => nomatch z) fun tk => ⟨.bl b, H, I.kept (t' := tk) fun _ _ z => z, rfl, q⟩
def excB (x : Str) (K : PySem.W.Frag) : Bool := eqOV (PySem.W.findIn K (.ref (He.ga K x)) "__getattribute__") (some (some (.builtin "BaseException.__getattribute__"))) && (eqOV (PySem.W.findIn K (.ref (He.ga K x)) "__getattr__") (some none) && (decide (PySem.W.subIn K (.ref (He.ga K x)) (.type "BaseException") = some true) &&
  (PySem.W.hasDictIn K (He.ga K x) && (eqOV (PySem.W.findIn K (.ref (He.ga K x)) "__class__") (some (some (.builtin "object.__class__"))) && (eqOV (PySem.W.specialIn K (.builtin "object.__class__") "__get__") (some (some (.builtin "getset_descriptor.__get__"))) &&
  (decide (PySem.W.takesIn K (.builtin "object.__class__") = some true) && decide (PySem.W.mroIn K (He.ga K x) (.type "object") = some true)))))))
theorem excB_ok {K : PySem.W.Frag} {x : Str} (h : excB x K = true) : ExcC K (He.ga K x) := by
  obtain ⟨h1, h⟩ := He.ba h
  obtain ⟨h2, h⟩ := He.ba h
  obtain ⟨h3, h⟩ := He.ba h
  obtain ⟨h4, h⟩ := He.ba h
  obtain ⟨h5, h⟩ := He.ba h
  obtain ⟨h6, h⟩ := He.ba h
  obtain ⟨h7, h8⟩ := He.ba h
  exact ⟨of_decide_eq_true h1, of_decide_eq_true h2, of_decide_eq_true h3, h4, of_decide_eq_true h5, of_decide_eq_true h6, of_decide_eq_true h7, of_decide_eq_true h8⟩
/-- isinstance(instance of x, a built-in class) -/
def isiTB (x : Str) (T : String) (b : Bool) (K : PySem.W.Frag) : Bool := decide (PySem.W.kitOne K (.ref (He.ga K x)) (.type T) = some b)
end L2.KK
namespace L2.KK
open PySem PySem.Spec PyProof.Rows C8
def top (i : Nat) : Stmt := PySem.Challenge.pw_pricedrules_k81_telling_refused.main.body.getD i (.Pass ⟨0, 0, 0, 0⟩)
abbrev s_BadText_init : Stmt := inClass (top 2) 0
abbrev s_told_part : Stmt := top 9
abbrev s_telling : Stmt := top 10
abbrev s_joined_signs : Stmt := top 11
abbrev s_is_word : Stmt := top 12
abbrev s_is_number : Stmt := top 13
abbrev s_read_part : Stmt := top 14
abbrev s_parts_of : Stmt := top 15
abbrev s_read_telling : Stmt := top 16
abbrev s_law_begin : Stmt := top 18
abbrev s_law_draw : Stmt := top 19
abbrev s_law_pick : Stmt := top 20
abbrev s_law_is_part : Stmt := top 21
abbrev s_law_next : Stmt := top 22
abbrev s_law_fits : Stmt := top 23
abbrev s_law_base : Stmt := top 24
abbrev s_law_spoilt : Stmt := top 25
abbrev s_law_read : Stmt := top 26
abbrev s_law : Stmt := top 27
theorem sc_law_begin : FnScope ["script", "cell"] ["script"] (defScope s_law_begin) := ⟨rfl, rfl, rfl, by decide +kernel, rfl, by decide +kernel, by decide +kernel⟩
theorem sc_law_draw : FnScope ["d", "many", "found", "size", "cell"] ["d", "many"] (defScope s_law_draw) := ⟨rfl, rfl, rfl, by decide +kernel, rfl, by decide +kernel, by decide +kernel⟩
structure Bl (mg : Str → Option Value) : Prop where
  b_ValueError : mg "ValueError" = none
  b_abs : mg "abs" = none
  b_all : mg "all" = none
  b_int : mg "int" = none
  b_isinstance : mg "isinstance" = none
  b_len : mg "len" = none
  b_range : mg "range" = none
  b_reversed : mg "reversed" = none
  b_str : mg "str" = none
  b_tuple : mg "tuple" = none
  g_SIGNS : ∃ u, mg "SIGNS" = some u ∧ RelV (.str "abcdefghijklmnopqrstuvwxyz") u
  g_DIGITS : ∃ u, mg "DIGITS" = some u ∧ RelV (.str "0123456789") u
  g_DEEP : ∃ u, mg "DEEP" = some u ∧ RelV (.int 12) u
  g_FIGURES : ∃ u, mg "FIGURES" = some u ∧ RelV (.int 100) u
  g_CLOSE : ∃ u, mg "CLOSE" = some u ∧ RelV (.str ")") u
section
variable {P : Program} {w : World} {K : PySem.W.Frag} {mg : Str → Option Value} {base : Heap}
/-! ### the law's draws -/
def spBegin (K : PySem.W.Frag) : Sp := fun vs H Q _ => ∃ (a : Addr) (ns : List Int), vs = [.ref a] ∧ SqL K H a (ns.map V.int) ∧ ns.length ≤ 63 ∧ ∀ d c H', Same H H' → H d = none → H c = none → Dr H' d c → Q (.ref d) H'
def spDraw : Sp := fun vs H Q _ => ∃ (d c : Addr) (m : Int), vs = [.ref d, .int m] ∧ Dr H d c ∧ 1 ≤ m ∧ m < 1073741824 ∧ ∀ (n : Nat) H', (n : Int) < m → Dr H' d c → Kp d H H' → Q (nV n) H'
theorem c_begin (D : FnAt K mg "_law_begin" s_law_begin) (T : Bl mg) : Cal P w K mg base 1 "_law_begin" (spBegin K) [] := by
  refine calOf D sc_law_begin (fun _ _ _ _ _ _ us hl => match us, hl with | [_], _ => rfl) (fun vs H Q E h => ?_) (fun f cdv A outer s H vs Q E hr h => ?_)
  · obtain ⟨a, ns, rfl, _⟩ := h
    rfl
  · obtain ⟨a, ns, rfl, hS, hl, k⟩ := h
    have nd := sc_law_begin.nd
    refine ⟨_, (pss_one (ps_ret (pe_lst (pa_cons (pe_lc (own := [("cell", 1)]) (g := gName 1) (tt := tYes) rfl nd (piList K (pv 0)) (blkOk_by (N := ["script", "cell"]) (sc := defScope s_law_begin) (own := [("cell", 1)]) (by decide +kernel)) (fun _ _ _ _ _ => (pg_name (i := 1) nd rfl (by first | exact Or.inl rfl | exact Or.inr rfl))) (fun _ _ _ _ _ => pts_nil) (fun _ _ _ _ _ => (pe_callTy call_int1 (by rfl) T.b_int (by decide +kernel) (pa_cons (pv 1) pa_nil)))) (pa_cons pe_int (pa_cons pe_int (pa_cons pe_int pa_nil))))))), ?_⟩
    have hz : (ns.map V.int).length ≤ sizeLine := Nat.le_of_lt (small1000 (by rw [List.length_map]; omega))
    refine ⟨.ref a, rfl, a, rfl, ⟨_, hS⟩, fun D hD => lc_listT hS (sel := fun _ => true) (P := fun i y _ => y = .int (ns.getD i 0)) ⟨fun _ _ _ _ _ h => h, fun i H' _ _ R r => r H' (Same.refl H'), fun i H' hi _ _ R r => ?_⟩ hD hz (fun H1 ys sm hd _ pr => ?_)⟩
    · have e : (ns.map V.int).getD i .non = .int (ns.getD i 0) := by
        rw [List.length_map] at hi
        rw [List.getD_eq_getElem?_getD, List.getD_eq_getElem?_getD, List.getElem?_map, List.getElem?_eq_getElem hi]
        rfl
      exact ⟨_, rfl, .inl ⟨ns.getD i 0, by rw [e], r _ H' (Same.refl H') rfl⟩⟩
    · rw [filter_yes] at pr
      have ey : ys = ns.map V.int := by
        rw [paired_map_eq pr, List.length_map]
        have q := congrArg (List.map V.int) (map_range_get ns 0)
        rw [List.map_map] at q
        exact q
      refine ⟨by show 4 ≤ sizeLine; decide, fun d hd0 => ?_⟩
      have nD : D ≠ d := ne_of_none hd hd0
      refine k d D _ (same_fresh sm (sm.free hd0)) (sm.free hd0) hD ⟨ns, 0, 0, 7, upd_same, ?_, Int.le_refl 0, by omega⟩
      rw [upd_ne nD, hd, ey]
theorem mod_pos {a m : Int} (h : 1 ≤ m) : ∃ n : Nat, a.fmod m = (n : Int) ∧ (n : Int) < m := by
  have h1 := Int.fmod_nonneg_of_pos a (show 0 < m by omega)
  have h2 := Int.fmod_lt_of_pos a (show 0 < m by omega)
  exact ⟨(a.fmod m).toNat, by omega, by omega⟩
theorem c_draw (D : FnAt K mg "_law_draw" s_law_draw) (T : Bl mg) : Cal P w K mg base 1 "_law_draw" spDraw [] := by
  refine calOf D sc_law_draw (fun _ _ _ _ _ _ us hl => match us, hl with | [_, _], _ => rfl) (fun vs H Q E h => ?_) (fun f cdv A outer s H vs Q E hr h => ?_)
  · obtain ⟨d, c, m, rfl, _⟩ := h
    rfl
  · obtain ⟨d, c, m, rfl, D, h1, h2, k⟩ := h
    obtain ⟨ns, i, r, z, hd, hc, hi, hn⟩ := D.ex
    have nd := sc_law_draw.nd
    have ncd : c ≠ d := D.cd
    -- d as it is changed: the items at 1, 2, 3
    have fin : ∀ (a : Int) (i r z : Int) (H' : Hp), 0 ≤ i → H' d = some (.lst [.ref c, .int i, .int r, .int z]) → Kp d H H' → Q (.int (a.fmod m)) H' := fun a i r z H' hi' e kp => by
      obtain ⟨n, en, ln⟩ := mod_pos (a := a) h1
      rw [en]
      exact k n H' ln ⟨ns, i, r, z, e, kp c _ hc ncd, hi', hn⟩ kp
    have kpd : ∀ o, Kp d H (upd H d o) := fun o b u e n => by rw [upd_ne n]; exact e
    refine ⟨_, (pss_cons (ps_if (pt_cmpR op_gt (pe_ix (ixL K) (pv 0) pe_int (fun _ _ => rfl)) pe_int (nomark _))
        (pss_cons (ps_set (i := 2) nd rfl (by first | exact Or.inl rfl | exact Or.inr rfl) (pe_ix (ixL K) (pv 0) pe_int (fun _ _ => rfl)))
        (pss_cons (ps_asg (pe_op op_fdivN (pv 2) (pv 1)) (pg_sub (pv 0) pe_int set_list))
        (pss_one (ps_ret (pe_op op_modN (pe_callTy call_int1 (by rfl) T.b_int (by decide +kernel) (pa_cons (pv 2) pa_nil)) (pv 1))))))
        pss_nil)
      (pss_cons (ps_set (i := 3) nd rfl (by first | exact Or.inl rfl | exact Or.inr rfl) pe_int)
      (pss_cut (ps_if (pt_cmpR op_lt (pe_ix (ixL K) (pv 0) pe_int (fun _ _ => rfl)) (pe_callB (crLen K) (by rfl) T.b_len (by decide +kernel) (pa_cons (pe_ix (ixL K) (pv 0) pe_int (fun _ _ => rfl)) pa_nil)) (nomark _))
        (pss_cons (ps_set (i := 4) nd rfl (by first | exact Or.inl rfl | exact Or.inr rfl) (pe_ix (ixL K) (pe_ix (ixL K) (pv 0) pe_int (fun _ _ => rfl)) (pe_ix (ixL K) (pv 0) pe_int (fun _ _ => rfl)) (fun _ _ => rfl)))
        (pss_one (ps_set (i := 3) nd rfl (by first | exact Or.inl rfl | exact Or.inr rfl) (pe_op op_add (pe_op op_mul pe_int (pe_callB call_abs (by rfl) T.b_abs (by decide +kernel) (pa_cons (pv 4) pa_nil))) (pe_callTy call_int1 (by rfl) T.b_int (by decide +kernel) (pa_cons (pe_cmpR op_lt (pv 4) pe_int (nomark _)) pa_nil))))))
        pss_nil)
      (pss_cons (ps_augS (pv 0) pe_int (getL K) pe_int ip_add set_list)
      (pss_cons (ps_if (pt_cmpR op_ge (pv 3) (pe_op op_mul pe_int (pe_op op_pow pe_int pe_int)) (nomark _))
        (pss_cons (ps_set (i := 2) nd rfl (by first | exact Or.inl rfl | exact Or.inr rfl) (pe_op op_modN (pe_callTy call_int1 (by rfl) T.b_int (by decide +kernel) (pa_cons (pe_op op_fdivN (pv 3) pe_int) pa_nil)) (pe_op op_shl pe_int pe_int)))
        (pss_cons (ps_asg (pe_op op_fdivN (pv 2) (pv 1)) (pg_sub (pv 0) pe_int set_list))
        (pss_one (ps_ret (pe_op op_modN (pe_callTy call_int1 (by rfl) T.b_int (by decide +kernel) (pa_cons (pv 2) pa_nil)) (pv 1))))))
        pss_nil)
      (pss_cons (ps_asg (pe_op op_modN (pe_callTy call_int1 (by rfl) T.b_int (by decide +kernel) (pa_cons (pe_op op_add (pe_op op_add (pe_op op_add (pe_op op_mul (pe_ix (ixL K) (pv 0) pe_int (fun _ _ => rfl)) pe_int) (pe_op op_mul (pe_op op_modN (pe_callTy call_int1 (by rfl) T.b_int (by decide +kernel) (pa_cons (pv 3) pa_nil)) pe_int) pe_int)) (pe_op op_mul (pe_ix (ixL K) (pv 0) pe_int (fun _ _ => rfl)) pe_int)) pe_int) pa_nil)) pe_int) (pg_sub (pv 0) pe_int set_list))
      (pss_one (ps_ret (pe_op op_modN (pe_callTy call_int1 (by rfl) T.b_int (by decide +kernel) (pa_cons (pe_op op_fdivN (pe_ix (ixL K) (pv 0) pe_int (fun _ _ => rfl)) pe_int) pa_nil)) (pv 1)))))))))), ?_⟩
    have m0 : m ≠ 0 ∧ m.natAbs < 1073741824 := ⟨by omega, by omega⟩
    -- if d[2] > 0
    refine ⟨_, rfl, d, _, 2, .int r, rfl, rfl, SqL.of hd, rfl, r, 0, rfl, rfl, _, rfl, ite2 (fun _ => ?_) (fun _ => ?_)⟩
    · refine ⟨_, rfl, d, _, 2, .int r, rfl, rfl, SqL.of hd, rfl, ?_⟩
      refine ⟨_, rfl, _, rfl, r, m, rfl, rfl, m0, _, rfl, d, _, 2, 2, rfl, rfl, hd, rfl, ?_⟩
      refine ⟨_, rfl, .inl ⟨r, rfl, _, rfl, r, m, rfl, rfl, m0.1, ?_⟩⟩
      exact fin r i (r.fdiv m) z _ hi upd_same (kpd _)
    · -- size = 0; if d[1] < len(d[0])
      refine ⟨fun σ' H' => H' = H ∧ ∃ (size : Int) (c4 : Option V), σ' = [some (.ref d), some (.int m), none, some (.int size), c4], ?_, ?_⟩
      · refine ⟨_, rfl, d, _, 1, .int i, rfl, rfl, SqL.of hd, rfl, _, rfl, d, _, 0, .ref c, rfl, rfl, SqL.of hd, rfl, c, _, rfl, .inl (SqL.of hc), i, _, rfl, rfl, _, rfl, ite2 (fun hlt => ?_) (fun _ => ⟨rfl, 0, none, rfl⟩)⟩
        have hlt' := of_decide_eq_true hlt
        rw [List.length_map] at hlt'
        have hix : (ns.map V.int)[i.toNat]? = some (.int (ns.getD i.toNat 0)) := by
          rw [List.getElem?_map, List.getD_eq_getElem?_getD, List.getElem?_eq_getElem (show i.toNat < ns.length by omega)]
          rfl
        have ei : (i.toNat : Int) = i := by omega
        have hat : atI (ns.map V.int) i = some (.int (ns.getD i.toNat 0)) := by
          have q := atI_nat hix
          rw [ei] at q
          exact q
        refine ⟨_, rfl, d, _, 0, .ref c, rfl, rfl, SqL.of hd, rfl, _, rfl, d, _, 1, .int i, rfl, rfl, SqL.of hd, rfl, c, _, i, _, rfl, rfl, SqL.of hc, hat, ?_⟩
        generalize ns.getD i.toNat 0 = cell
        refine ⟨_, rfl, cell, rfl, 2, _, rfl, rfl, .inl ⟨by decide, by decide⟩, _, rfl, cell, 0, rfl, rfl, .inr ⟨_, rfl, _, _, rfl, rfl, rfl, _, _, rfl⟩⟩
      · rintro σ' H' ⟨rfl, size, c4, rfl⟩
        -- d[1] += 1
        refine ⟨_, rfl, d, _, 1, .int i, rfl, rfl, SqL.of hd, rfl, by decide, i, 1, rfl, rfl, d, _, 1, 1, rfl, rfl, hd, rfl, ?_⟩
        have hd1 : upd H' d (.lst [.ref c, .int (i + 1), .int r, .int z]) d = some (.lst [.ref c, .int (i + 1), .int r, .int z]) := upd_same
        -- if size >= 2 * 10 ** 18
        refine ⟨_, rfl, 10, 18, rfl, rfl, ⟨by decide, by decide, by decide⟩, 2, _, rfl, rfl, .inl ⟨by decide, by decide⟩, size, _, rfl, rfl, _, rfl, ite2 (fun _ => ?_) (fun _ => ?_)⟩
        · refine ⟨_, rfl, size, 2, rfl, rfl, ⟨by decide, by decide⟩, .inl ⟨_, rfl, 1, 6000, rfl, rfl, ⟨by decide, by decide, by decide⟩, _, _, rfl, rfl, ?_, ?_⟩⟩
          · exact Int.ne_of_gt (by rw [Int.one_mul]; exact Int.pow_pos (by decide))
          · refine ⟨_, rfl, _, rfl, _, m, rfl, rfl, m0, _, rfl, d, _, 2, 2, rfl, rfl, hd1, rfl, ?_⟩
            refine ⟨_, rfl, .inl ⟨_, rfl, _, rfl, _, m, rfl, rfl, m0.1, ?_⟩⟩
            exact fin _ (i + 1) _ z _ (by omega) upd_same fun b u e n => by rw [upd_ne n, upd_ne n]; exact e
        · refine ⟨_, rfl, d, _, 3, .int z, rfl, rfl, SqL.of hd1, rfl, z, 48271, rfl, rfl, .inr ⟨by decide, by decide⟩, ?_⟩
          refine ⟨_, rfl, .inl ⟨size, rfl, size, 2147483629, rfl, rfl, (show (2147483629 : Int) ≠ 0 by decide), _, 16807, rfl, rfl, .inr ⟨by decide, by decide⟩, _, _, rfl, rfl, ?_⟩⟩
          refine ⟨_, rfl, d, _, 1, .int (i + 1), rfl, rfl, SqL.of hd1, rfl, _, 69621, rfl, rfl, .inr ⟨by decide, by decide⟩, _, _, rfl, rfl, _, 11, rfl, rfl, .inl ⟨_, rfl, _, 2147483647, rfl, rfl, (show (2147483647 : Int) ≠ 0 by decide), ?_⟩⟩
          refine ⟨_, rfl, d, _, 3, 3, rfl, rfl, hd1, rfl, ?_⟩
          refine ⟨_, rfl, d, _, 3, _, rfl, rfl, SqL.of upd_same, rfl, _, 16, rfl, rfl, ⟨by decide, by decide⟩, .inl ⟨_, rfl, _, rfl, _, m, rfl, rfl, m0.1, ?_⟩⟩
          exact fin _ (i + 1) r _ _ (by omega) upd_same fun b u e n => by rw [upd_ne n, upd_ne n]; exact e

end
end L2.KK
namespace L2.KK
open PySem PySem.Spec PyProof.Rows C8
def dd_BadText_init : He.DefD := ⟨("BadText", some "__init__"), "__init__", "BadText.__init__", defArgs s_BadText_init, defBody s_BadText_init, defScope s_BadText_init, [], []⟩
def dd_told_part : He.DefD := ⟨("told_part", none), "told_part", "told_part", defArgs s_told_part, defBody s_told_part, defScope s_told_part, [], []⟩
def dd_telling : He.DefD := ⟨("telling", none), "telling", "telling", defArgs s_telling, defBody s_telling, defScope s_telling, [], []⟩
def dd_joined_signs : He.DefD := ⟨("joined_signs", none), "joined_signs", "joined_signs", defArgs s_joined_signs, defBody s_joined_signs, defScope s_joined_signs, [], []⟩
def dd_is_word : He.DefD := ⟨("is_word", none), "is_word", "is_word", defArgs s_is_word, defBody s_is_word, defScope s_is_word, [], []⟩
def dd_is_number : He.DefD := ⟨("is_number", none), "is_number", "is_number", defArgs s_is_number, defBody s_is_number, defScope s_is_number, [], []⟩
def dd_read_part : He.DefD := ⟨("read_part", none), "read_part", "read_part", defArgs s_read_part, defBody s_read_part, defScope s_read_part, [], []⟩
def dd_parts_of : He.DefD := ⟨("parts_of", none), "parts_of", "parts_of", defArgs s_parts_of, defBody s_parts_of, defScope s_parts_of, [], []⟩
def dd_read_telling : He.DefD := ⟨("read_telling", none), "read_telling", "read_telling", defArgs s_read_telling, defBody s_read_telling, defScope s_read_telling, [], []⟩
def dd_law_begin : He.DefD := ⟨("_law_begin", none), "_law_begin", "_law_begin", defArgs s_law_begin, defBody s_law_begin, defScope s_law_begin, [], []⟩
def dd_law_draw : He.DefD := ⟨("_law_draw", none), "_law_draw", "_law_draw", defArgs s_law_draw, defBody s_law_draw, defScope s_law_draw, [], []⟩
def dd_law_pick : He.DefD := ⟨("_law_pick", none), "_law_pick", "_law_pick", defArgs s_law_pick, defBody s_law_pick, defScope s_law_pick, [], []⟩
def dd_law_is_part : He.DefD := ⟨("_law_is_part", none), "_law_is_part", "_law_is_part", defArgs s_law_is_part, defBody s_law_is_part, defScope s_law_is_part, [], []⟩
def dd_law_next : He.DefD := ⟨("_law_next", none), "_law_next", "_law_next", defArgs s_law_next, defBody s_law_next, defScope s_law_next, [], []⟩
def dd_law_fits : He.DefD := ⟨("_law_fits", none), "_law_fits", "_law_fits", defArgs s_law_fits, defBody s_law_fits, defScope s_law_fits, [], []⟩
def dd_law_base : He.DefD := ⟨("_law_base", none), "_law_base", "_law_base", defArgs s_law_base, defBody s_law_base, defScope s_law_base, [], []⟩
def dd_law_spoilt : He.DefD := ⟨("_law_spoilt", none), "_law_spoilt", "_law_spoilt", defArgs s_law_spoilt, defBody s_law_spoilt, defScope s_law_spoilt, [], []⟩
def dd_law_read : He.DefD := ⟨("_law_read", none), "_law_read", "_law_read", defArgs s_law_read, defBody s_law_read, defScope s_law_read, [], []⟩
def dd_law : He.DefD := ⟨("law", none), "law", "law", defArgs s_law, defBody s_law, defScope s_law, [], []⟩
def fnL : List He.DefD := [dd_BadText_init, dd_told_part, dd_telling, dd_joined_signs, dd_is_word, dd_is_number, dd_read_part, dd_parts_of, dd_read_telling, dd_law_begin, dd_law_draw, dd_law_pick, dd_law_is_part, dd_law_next, dd_law_fits, dd_law_base, dd_law_spoilt, dd_law_read, dd_law]
def faL : List He.Fa := [.glo "told_part", .glo "telling", .glo "joined_signs", .glo "is_word", .glo "is_number", .glo "read_part", .glo "parts_of", .glo "read_telling", .glo "_law_begin", .glo "_law_draw", .glo "_law_pick", .glo "_law_is_part", .glo "_law_next", .glo "_law_fits", .glo "_law_base", .glo "_law_spoilt", .glo "_law_read", .glo "law", .free "ValueError", .free "abs", .free "all", .free "int", .free "isinstance", .free "len", .free "range", .free "reversed", .free "str", .free "tuple", .str "SIGNS" "abcdefghijklmnopqrstuvwxyz", .str "DIGITS" "0123456789", .int "DEEP" 12, .int "FIGURES" 100, .str "CLOSE" ")", .glo "BadText", .noat "BadText" "line", .glo "PricedError", .exm "BadText" "BadText" true]
def myL : List (PySem.W.Frag → Bool) := [isiB "BadText" "PricedError" true, ownB "BadText", excB "BadText", isiTB "BadText" "ValueError" true, basB "PricedError"]
abbrev RR : PySem.W.OpenRow := PySem.W.OpenLaw.row PySem.Challenge.rw_pricedrules_k81_telling_refused
abbrev hkD : PySem.W.Hook := hookK 6 faL fnL myL
def obD (s : PySem.W.SharedT) : AlK := obsK 6 faL fnL myL (HandSHeadRun.getT s)
theorem obD_eq (s : PySem.W.SharedT) : obD s = hkD.obs s.abs := obsK_eq (HandSHeadRun.getT_eq s)
def looseL : List Str := ((["PricedError", "BadText", "SIGNS", "DIGITS", "DEEP", "FIGURES", "CLOSE", "told_part", "telling", "joined_signs", "is_word", "is_number", "read_part", "parts_of", "read_telling", "_law_begin", "_law_draw", "_law_pick", "_law_is_part", "_law_next"] : List Str) ++ (["_law_fits", "_law_base", "_law_spoilt", "_law_read"] : List Str))
theorem runD (w : World) : HandSHeadRun.RunEq RR (PySem.W.view RR.prog [27]) hkD obD 4000 looseL w := by
  intro os
  kernel_rfl
end L2.KK
/-! == of nested tuples and lists of numbers, texts, None -/
namespace L2.KK
open PySem PySem.Spec PyProof.Rows C8
mutual
def pln : PyData → Bool
  | .none => true
  | .int _ => true
  | .bool _ => false
  | .str x => PyData.strOk x
  | .list xs => plnAll xs
  | .tuple xs => plnAll xs
  | .dict _ => false
def plnAll : List PyData → Bool
  | [] => true
  | x :: xs => pln x && plnAll xs
end
mutual
theorem pln_lay : ∀ d : PyData, pln d = true → d.canLay0 = true
  | .none, _ => by simp only [PyData.canLay0]
  | .int _, _ => by simp only [PyData.canLay0]
  | .bool _, h => by simp [pln] at h
  | .str x, h => by simpa [pln, PyData.canLay0] using h
  | .list xs, h => by simp only [PyData.canLay0]; exact plnAll_lay xs (by simpa [pln] using h)
  | .tuple xs, h => by simp only [PyData.canLay0]; exact plnAll_lay xs (by simpa [pln] using h)
  | .dict _, h => by simp [pln] at h
theorem plnAll_lay : ∀ xs : List PyData, plnAll xs = true → PyData.canLayAll0 xs = true
  | [], _ => by simp only [PyData.canLayAll0]
  | x :: xs, h => by
    have h' : pln x = true ∧ plnAll xs = true := by simpa [plnAll] using h
    simp only [PyData.canLayAll0, pln_lay x h'.1, plnAll_lay xs h'.2, Bool.and_self]
end
mutual
theorem eqv_iff : ∀ a b : PyData, pln a = true → pln b = true → (PyData.eqv a b = true ↔ a = b)
  | .none, b, _, hb => by cases b <;> simp [PyData.eqv, pln] at hb ⊢
  | .int i, b, _, hb => by cases b <;> simp [PyData.eqv, pln] at hb ⊢
  | .bool _, _, h, _ => by simp [pln] at h
  | .dict _, _, h, _ => by simp [pln] at h
  | .str x, b, _, hb => by cases b <;> simp [PyData.eqv, pln] at hb ⊢
  | .list xs, b, ha, hb => by
    cases b with
    | list ys =>
      have := eqvAll_iff xs ys (by simpa [pln] using ha) (by simpa [pln] using hb)
      simp only [PyData.eqv, this, PyData.list.injEq]
    | _ => simp [PyData.eqv]
  | .tuple xs, b, ha, hb => by
    cases b with
    | tuple ys =>
      have := eqvAll_iff xs ys (by simpa [pln] using ha) (by simpa [pln] using hb)
      simp only [PyData.eqv, this, PyData.tuple.injEq]
    | _ => simp [PyData.eqv]
theorem eqvAll_iff : ∀ xs ys : List PyData, plnAll xs = true → plnAll ys = true → (PyData.eqvAll xs ys = true ↔ xs = ys)
  | [], ys, _, _ => by cases ys <;> simp [PyData.eqvAll]
  | x :: xs, [], _, _ => by simp [PyData.eqvAll]
  | x :: xs, y :: ys, ha, hb => by
    have h1 : pln x = true ∧ plnAll xs = true := by simpa [plnAll] using ha
    have h2 : pln y = true ∧ plnAll ys = true := by simpa [plnAll] using hb
    simp only [PyData.eqvAll, Bool.and_eq_true, eqv_iff x y h1.1 h2.1, eqvAll_iff xs ys h1.2 h2.2, List.cons.injEq]
end
theorem pln_shaped {d : PyData} (h : pln d = true) (hd : d.depth ≤ 64) : SeqAt.shaped d = true := Bool.and_eq_true_iff.mpr ⟨pln_lay d h, decide_eq_true hd⟩
theorem plnAll_of : ∀ {xs : List PyData}, (∀ x ∈ xs, pln x = true) → plnAll xs = true
  | [], _ => rfl
  | x :: xs, h => by
    show (pln x && plnAll xs) = true
    rw [h x List.mem_cons_self, plnAll_of fun y hy => h y (List.mem_cons_of_mem _ hy)]
    rfl
theorem depthAll_le {n : Nat} : ∀ {xs : List PyData}, (∀ x ∈ xs, x.depth ≤ n) → PyData.depthAll xs ≤ n
  | [], _ => by unfold PyData.depthAll; omega
  | x :: xs, h => by
    unfold PyData.depthAll
    have := h x List.mem_cons_self
    have := depthAll_le fun y hy => h y (List.mem_cons_of_mem _ hy)
    omega
theorem depth_tup {n : Nat} {xs : List PyData} (h : ∀ x ∈ xs, x.depth ≤ n) : (PyData.tuple xs).depth ≤ n + 1 := by
  have := depthAll_le h
  unfold PyData.depth
  omega
theorem depth_lst {n : Nat} {xs : List PyData} (h : ∀ x ∈ xs, x.depth ≤ n) : (PyData.list xs).depth ≤ n + 1 := by
  have := depthAll_le h
  unfold PyData.depth
  omega
theorem pln_tup {xs : List PyData} (h : ∀ x ∈ xs, pln x = true) : pln (.tuple xs) = true := by
  show plnAll xs = true
  exact plnAll_of h
section
variable {K : PySem.W.Frag} {H : Hp} {x y : V} {dx dy : PyData} {Q : VK}
theorem eqd_pln (hx : Dp K H x dx) (hy : Dp K H y dy) (px : pln dx = true) (py : pln dy = true) (lx : dx.depth ≤ 64) (ly : dy.depth ≤ 64) (q : ∀ k : Bool, (k = true ↔ dx = dy) → Q (.bl k) H) : rEqD K x y H Q :=
  ⟨_, _, hx, hy, pln_shaped px lx, pln_shaped py ly, q _ (eqv_iff dx dy px py)⟩
theorem ned_pln (hx : Dp K H x dx) (hy : Dp K H y dy) (px : pln dx = true) (py : pln dy = true) (lx : dx.depth ≤ 64) (ly : dy.depth ≤ 64) (q : ∀ k : Bool, (k = true ↔ dx = dy) → Q (.bl (!k)) H) : rNeD K x y H Q :=
  ⟨_, _, hx, hy, pln_shaped px lx, pln_shaped py ly, q _ (eqv_iff dx dy px py)⟩
end
/-! prices as data -/
def pD : Option Nat → PyData
  | none => .none
  | some n => .int n
theorem pD_inj {a b : Option Nat} (h : pD a = pD b) : a = b := by
  cases a <;> cases b <;> simp [pD] at h
  · rfl
  · congr 1
    omega
theorem pD_pln (p : Option Nat) : pln (pD p) = true := by cases p <;> rfl
theorem pD_depth (p : Option Nat) : (pD p).depth ≤ 0 := by cases p <;> exact Nat.le_refl 0
theorem dp_price {K : PySem.W.Frag} {H : Hp} (p : Option Nat) : Dp K H (pV p) (pD p) := by
  cases p with
  | none => exact .non
  | some n => exact .int n
theorem dp_prices {K : PySem.W.Frag} {H : Hp} : ∀ ps : List (Option Nat), DpAll K H (ps.map pV) (ps.map pD)
  | [] => .nil
  | p :: ps => .cons (dp_price p) (dp_prices ps)
theorem pDs_inj {a b : List (Option Nat)} (h : a.map pD = b.map pD) : a = b := by
  induction a generalizing b with
  | nil => cases b with
    | nil => rfl
    | cons => cases h
  | cons x a ih => cases b with
    | nil => cases h
    | cons y b =>
      rw [List.map_cons, List.map_cons] at h
      injection h with h1 h2
      rw [pD_inj h1, ih h2]
end L2.KK
/-! for sign in '()': text = text.replace(sign, ' ' + sign + ' ') : a sign that a loop hands out, as the old text -/
namespace L2.KK
open PySem PySem.Spec PyProof.Rows L2
/-- a tree that asks, reads and stores, but calls nobody -/
def Flat {α : Type} : Sem α → Prop
  | .pure _ => True
  | .raise _ => True
  | .unsupported _ => True
  | .finish _ => True
  | .rule _ k => Flat (k ())
  | .at _ k => Flat (k ())
  | .load _ _ k => ∀ o, Flat (k o)
  | .update _ _ _ k => Flat (k ())
  | .fresh k => ∀ t, Flat (k t)
  | .ask k => ∀ w, Flat (k w)
  | _ => False
theorem flat_bind {α β : Type} {f : α → Sem β} : ∀ {m : Sem α}, Flat m → (∀ a, Flat (f a)) → Flat (m.bind f) := by
  intro m
  induction m with
  | pure a => intro _ h; exact h a
  | raise e => intro _ _; trivial
  | unsupported _ => intro _ _; trivial
  | finish _ => intro _ _; trivial
  | rule _ k ih => intro hm h; exact ih () hm h
  | «at» _ k ih => intro hm h; exact ih () hm h
  | load _ _ k ih => intro hm h o; exact ih o (hm o) h
  | update _ _ _ k ih => intro hm h; exact ih () hm h
  | fresh k ih => intro hm h t; exact ih t (hm t) h
  | ask k ih => intro hm h w; exact ih w (hm w) h
  | alloc _ _ _ => intro hm; exact hm.elim
  | loadIfAlive _ _ _ => intro hm; exact hm.elim
  | point _ _ _ => intro hm; exact hm.elim
  | register _ _ _ => intro hm; exact hm.elim
  | choose _ _ _ _ => intro hm; exact hm.elim
  | os _ _ _ _ => intro hm; exact hm.elim
  | call _ _ _ _ _ _ => intro hm; exact hm.elim
  | handled _ _ _ => intro hm; exact hm.elim
  | newGen _ _ _ => intro hm; exact hm.elim
  | genState _ _ _ => intro hm; exact hm.elim
  | resume _ _ _ _ _ => intro hm; exact hm.elim
  | yield _ _ _ _ _ => intro hm; exact hm.elim
  | stack _ _ => intro hm; exact hm.elim
  | fork _ _ _ => intro hm; exact hm.elim
  | thread _ _ => intro hm; exact hm.elim
  | await _ _ _ _ _ _ => intro hm; exact hm.elim
theorem flat_wp {α : Type} (M : Model) (Γ : PySem.Ctx) (t : Sem α) : ∀ (Q Q' : α → Pos → Shared → Prop) (E E' : Value → Pos → Shared → Prop) (p : Pos) (s : Shared), Flat t → Sem.wp M Γ t Q E p s → Sem.wp M Γ t Q' E' p s →
    Sem.wp M Γ t (fun a p s => Q a p s ∧ Q' a p s) (fun e p s => E e p s ∧ E' e p s) p s := by
  induction t with
  | pure a => intro Q Q' E E' p s _ h h'; exact ⟨h, h'⟩
  | raise e => intro Q Q' E E' p s _ h h'; exact ⟨h, h'⟩
  | unsupported _ => intro Q Q' E E' p s _ h h'; exact h
  | finish _ => intro Q Q' E E' p s _ h h'; exact h
  | rule _ k ih => intro Q Q' E E' p s hf h h'; exact ih () Q Q' E E' p s hf h h'
  | «at» p' k ih => intro Q Q' E E' p s hf h h'; exact ih () Q Q' E E' p' s hf h h'
  | load a _ k ih =>
    intro Q Q' E E' p s hf h h'
    obtain ⟨o, ho, h⟩ := h
    obtain ⟨o', ho', h'⟩ := h'
    rw [ho] at ho'
    cases ho'
    exact ⟨o, ho, ih o Q Q' E E' p s (hf o) h h'⟩
  | update a _ f k ih => intro Q Q' E E' p s hf h h'; exact ⟨h.1, ih () Q Q' E E' p _ hf h.2 h'.2⟩
  | fresh k ih => intro Q Q' E E' p s hf h h'; exact ih _ Q Q' E E' p _ (hf _) h h'
  | ask k ih => intro Q Q' E E' p s hf h h'; exact ih _ Q Q' E E' p s (hf _) h h'
  | alloc _ _ _ => intro Q Q' E E' p s hf; exact hf.elim
  | loadIfAlive _ _ _ => intro Q Q' E E' p s hf; exact hf.elim
  | point _ _ _ => intro Q Q' E E' p s hf; exact hf.elim
  | register _ _ _ => intro Q Q' E E' p s hf; exact hf.elim
  | choose _ _ _ _ => intro Q Q' E E' p s hf; exact hf.elim
  | os _ _ _ _ => intro Q Q' E E' p s hf; exact hf.elim
  | call _ _ _ _ _ _ => intro Q Q' E E' p s hf; exact hf.elim
  | handled _ _ _ => intro Q Q' E E' p s hf; exact hf.elim
  | newGen _ _ _ => intro Q Q' E E' p s hf; exact hf.elim
  | genState _ _ _ => intro Q Q' E E' p s hf; exact hf.elim
  | resume _ _ _ _ _ => intro Q Q' E E' p s hf; exact hf.elim
  | yield _ _ _ _ _ => intro Q Q' E E' p s hf; exact hf.elim
  | stack _ _ => intro Q Q' E E' p s hf; exact hf.elim
  | fork _ _ _ => intro Q Q' E E' p s hf; exact hf.elim
  | thread _ _ => intro Q Q' E E' p s hf; exact hf.elim
  | await _ _ _ _ _ _ => intro Q Q' E E' p s hf; exact hf.elim
theorem flat_any {α : Type} {M : Model} {A : Around} {s : Shared} {t : Sem α} {Q Q' : α → Shared → Prop} {E E' : Value → Shared → Prop} (hf : Flat t) (h : wpAny M A t Q E s) (h' : wpAny M A t Q' E' s) :
    wpAny M A t (fun a s => Q a s ∧ Q' a s) (fun e s => E e s ∧ E' e s) s := fun Γ p hΓ => flat_wp M Γ t _ _ _ _ p s hf (h Γ p hΓ) (h' Γ p hΓ)
theorem flat_nsSet (ns : Addr) (name : Str) (v : Value) : Flat (nsSet ns name v) := by
  refine flat_bind (m := strHash name) (fun w => ?_) fun h => flat_bind (m := mkText name) (fun t => trivial) fun key => fun o => ?_
  · trivial
  · show Flat (match o.data with | .dict es _ => _ | _ => _)
    cases o.data <;> first | trivial | skip
    rename_i es n
    show Flat (if aRefKeyMayBeTheName name es = true then _ else _)
    split <;> trivial
section
variable {X : Cx} {pins : List (Addr × Obj)} {σ : St} {H : Hp} {s : Shared}
/-- a store to a local name: what the frame then holds there is known in full -/
theorem store_raw {M : Model} {A : Around} {E : Value → Shared → Prop} {i : Nat} {x : Str} {v : V} {u : Value} {Q : Unit → Shared → Prop} (I : Inv X pins σ H s) (hN : X.N.Nodup) (hi : X.N[i]? = some x) (hk : X.env.scope.names.lookup x = some .local) (r : RelV v u)
    (h : ∀ (h' : Heap) (m : Str → Option Value), Inv X pins (σ.set i (some v)) H { s with heap := h', toks := s.toks + 1 } → h'.Ns X.env.locals m → m x = some u → Heap.SameBut X.env.locals s.heap h' → Q () { s with heap := h', toks := s.toks + 1 }) :
    wpAny M A (storeName X.env x u) Q E s := by
  obtain ⟨m, hn, _⟩ := id I.loc
  have hcls : (X.env.scope.kind == .class || (X.env.scope.kind == .module && X.env.locals != X.env.globals)) = false := by rw [I.ok.kind]; rfl
  have hkk : X.env.kindOf x = some .local := hk
  have a := store_ok (M := M) (A := A) (E := E) (Q := fun _ s' => Inv X pins (σ.set i (some v)) H s') I hN hi (.inl hk) r (fun s' I' => I') (.inr hk)
  have b := wpAny_storeName_local (M := M) (A := A) (E := E) (v := u) (Q := fun _ s' => ∃ h' : Heap, s' = { s with heap := h', toks := s.toks + 1 } ∧ h'.Ns X.env.locals (fun y => if y = x then some u else m y) ∧ Heap.SameBut X.env.locals s.heap h') hkk hn
    (fun h' h1 h2 => ⟨h', rfl, h1, h2⟩) hcls
  rw [storeName_local hkk hcls] at a b ⊢
  refine wpAny_mono (flat_any (flat_nsSet _ _ _) a b) (fun _ s' q => ?_) fun _ _ e => e.1
  obtain ⟨q1, h', rfl, q2, q3⟩ := q
  exact h h' _ q1 q2 (by simp) q3
/-- a sign, put between two texts, replaced in a text, sign by sign of a written text -/
def surr (b1 b2 : Str) (c : Nat) : Str := (b1 ++ ⟨#[c]⟩) ++ b2
def tSigns (lit b1 b2 : Str) (it : Nat) : TS := fun D σ H => ∃ xs : Nat → Str, σ[it]? = some (some (.str (xs 0))) ∧
  (∀ i c, lit.cps[i]? = some c → (xs i).length + ((xs i).length + 1) * (surr b1 b2 c).length ≤ 16777216 ∧ xs (i + 1) = Txt.replace (xs i) ⟨#[c]⟩ (surr b1 b2 c)) ∧
  ∀ σ', σ'[it]? = some (some (.str (xs lit.cps.size))) → D.nx σ' H
theorem str_ne {y z : Str} (h : y.length ≠ z.length) : (y == z) = false := by
  cases e : y == z with
  | false => rfl
  | true => exact absurd (congrArg Str.length (eq_of_beq e)) h
theorem len_one (c : Nat) : (⟨#[c]⟩ : Str).length = 1 := rfl
theorem len_app (y z : Str) : (y ++ z).length = y.length + z.length := by
  show (y.cps ++ z.cps).size = _
  rw [Array.size_append]
  rfl
theorem ps_signs {it is : Nat} {lit tx sg b1 b2 : Str} {j0 j1 j2 : Nat} {c0 c1 c2 p1 p2 p3 p4 p5 p6 p7 p8 apos cpos pos : Pos} (hp : PassesOwn (model X.prog X.w) X.A X.env X.xe) (hc : X.calm = true) (hN : X.N.Nodup)
    (hit : X.N[it]? = some tx) (his : X.N[is]? = some sg) (ht : X.env.scope.names.lookup tx = some .local) (hs : X.env.scope.names.lookup sg = some .local) (ne : it ≠ is)
    (hlit : lit.cps.all (· < 128) = true) (h1 : b1.length = 1) (h2 : b2.length = 1)
    (hst : starEach [.Name sg p3, .BinOp (.BinOp (.Constant (.str b1) j1 c1) .Add (.Name sg p4) p5) .Add (.Constant (.str b2) j2 c2) p6] X.env =
      [(false, eval (.Name sg p3) X.env), (false, eval (.BinOp (.BinOp (.Constant (.str b1) j1 c1) .Add (.Name sg p4) p5) .Add (.Constant (.str b2) j2 c2) p6) X.env)] := by rfl)
    (hbase : attributeBase (.Name tx p2) "replace" X.env (eval (.Name tx p2) X.env) = eval (.Name tx p2) X.env := by rfl) (hline : (apos.endLine == cpos.line) = true := by rfl)
    (hdt : (tx == ("__debug__" : Str)) = false := by decide) (hds : (sg == ("__debug__" : Str)) = false := by decide) (hct : (tx == ("__classdict__" : Str)) = false := by decide)
    (hsw : swapsWith (.Call (.Attribute (.Name tx p2) "replace" apos) [.Name sg p3, .BinOp (.BinOp (.Constant (.str b1) j1 c1) .Add (.Name sg p4) p5) .Add (.Constant (.str b2) j2 c2) p6] [] cpos) (some (.Name tx p1)) p7.line X.env = pure false := by rfl) :
    PS X (.For (.Name sg p8) (.Constant (.str lit) j0 c0) [.Assign [.Name tx p1] (.Call (.Attribute (.Name tx p2) "replace" apos) [.Name sg p3, .BinOp (.BinOp (.Constant (.str b1) j1 c1) .Add (.Name sg p4) p5) .Add (.Constant (.str b2) j2 c2) p6] [] cpos) p7] [] pos) (tSigns lit b1 b2 it) := by
  refine ⟨fun pins s σ H D I h => ?_⟩
  obtain ⟨xs, hx0, hxs, hD⟩ := h
  refine wpAny_For (Calls.Constant_str (wpAny_pyIter_ascii hlit ?_)) (by intro _; rfl)
  have I1 : Inv X pins σ H { s with toks := s.toks + 1 } := I.tok _
  generalize hit0 : s.heap.objs.size = itA
  have fp : FpOk X pins H itA := I.fpOk (Nat.le_of_eq hit0) (I.hok.fresh (Nat.le_of_eq hit0))
  show codeAny _ _ _ _ { s with heap := s.heap.push _, toks := s.toks + 1 }
  refine codeAny_forLoop_any (fun n s' => ∃ i σ', n = lit.cps.size - i ∧ i ≤ lit.cps.size ∧ Inv X pins σ' H s' ∧ s'.heap.IsStrIter itA "str_ascii_iterator" lit s.toks i ∧ 1 ≤ s'.toks ∧ σ'[it]? = some (some (.str (xs i)))) ?_ lit.cps.size
    ⟨0, σ, rfl, Nat.zero_le _, I.kept (t' := s.toks + 1) fun b o e => Heap.get?_push_of_some _ e, ⟨_, by rw [← hit0]; exact Heap.get?_push_size _ rfl, rfl, rfl⟩, by show 1 ≤ s.toks + 1; omega, hx0⟩
  rintro n s3 ⟨i, σ3, rfl, hle, I3, st3, k3, e3⟩
  by_cases hi : i < lit.cps.size
  · -- a turn
    have hci : lit.cps[i]? = some lit.cps[i] := Array.getElem?_eq_getElem hi
    generalize lit.cps[i] = c at hci
    obtain ⟨hb, hx⟩ := hxs i c hci
    obtain ⟨f0, f1, f2, f3, f4, f5⟩ := id fp
    refine wpAny_passesOwn hp (wpAny_pyNext_ascii_item st3 hci fun h4 st4 sb4 => ?_)
    have I4 : Inv X pins σ3 H { s3 with heap := h4, toks := s3.toks + 1 } := I3.turned (fun b o hb e => (sb4.2 b hb).trans e) f0 f1 f3 f4 f5
    obtain ⟨oi, e, cc, dd⟩ := id st4
    refine wpAny_passesOwn hp (go_of (s := { s3 with heap := h4, toks := s3.toks + 1 }) e cc dd (by decide) ?_)
    refine wpAny_passesOwn hp (wpAny_assign_Name (store_raw (v := .str ⟨#[c]⟩) I4 hN his hs ⟨s3.toks, rfl⟩ fun h5 m5 I5 ns5 m5s sb5 => ?_))
    have st5 : h5.IsStrIter itA "str_ascii_iterator" lit s.toks (i + 1) := ⟨oi, (sb5.2 itA f1).trans e, cc, dd⟩
    refine wpAny_passesOwn hp (wpAny_execs_cons (wpAny_Assign_Name (PySem.Call_method2 hbase hst hline ?_) hsw))
    have et : (σ3.set is (some (V.str ⟨#[c]⟩)))[it]? = some (some (.str (xs i))) := by rw [List.getElem?_set_ne ne.symm]; exact e3
    refine raw_name hit (.inl ht) I5 et (fun v r => ?_) hdt hct
    obtain ⟨tv, rfl⟩ := r
    refine ⟨"str", _, F.plainAttrs_str, F.slot_str_replace, F.type_str_replace, typeIs_str _ _ _, (fun _ e => nomatch e), Calls.callWith_builtin rfl (Calls.evalArgs_plain (Calls.spliced_cons ?_))⟩
    refine wpAny_Name (wpAny_loadName_local I5.ok.kind hs ns5 m5s ?_) hds
    refine Calls.spliced_cons (wpAny_BinOp (wpAny_BinOp (Calls.Constant_str (wpAny_Name (wpAny_loadName_local (s := { s3 with heap := h5, toks := _ }) I5.ok.kind hs ns5 m5s ?_) hds))))
    have l1 : (⟨#[c]⟩ : Str).length = 1 := rfl
    refine P.add_str ?_
    rw [if_neg (by rw [h1]; decide), if_neg (by rw [l1]; decide)]
    have l2 : (b1 ++ ⟨#[c]⟩ : Str).length = 2 := by rw [len_app, h1]; rfl
    refine ⟨by rw [l2]; decide, Calls.Constant_str (P.add_str ?_)⟩
    rw [if_neg (by rw [l2]; decide), if_neg (by rw [h2]; decide)]
    have l3 : ((b1 ++ ⟨#[c]⟩ : Str) ++ b2).length = 3 := by rw [len_app, l2, h2]
    refine ⟨by rw [l3]; decide, Calls.spliced_nil ?_⟩
    refine PySem.SC.replace (by show s3.toks ≠ 0; omega) (by simp) (by show s3.toks ≠ _; simp only []; omega) (str_ne (by rw [l1, l3]; decide)) hb fun t' k => ?_
    rw [← show surr b1 b2 c = (b1 ++ ⟨#[c]⟩) ++ b2 from rfl, ← hx]
    have I6 : Inv X pins (σ3.set is (some (V.str ⟨#[c]⟩))) H { s3 with heap := h5, toks := k } := I5.tok k
    refine store_raw (v := .str (xs (i + 1))) I6 hN hit ht ⟨t', rfl⟩ fun h7 m7 I7 ns7 _ sb7 => wpAny_execs_nil ?_
    refine ⟨lit.cps.size - (i + 1), by omega, i + 1, _, rfl, hi, I7, ⟨oi, (sb7.2 itA f1).trans ((sb5.2 itA f1).trans e), cc, dd⟩, by show 1 ≤ k + 1; omega, ?_⟩
    rw [List.getElem?_set_self]
    rw [List.length_set, I3.len]
    exact (List.getElem?_eq_some_iff.mp hit).1
  · have ei : i = lit.cps.size := by omega
    subst ei
    obtain ⟨f0, f1, f2, f3, f4, f5⟩ := id fp
    refine wpAny_passesOwn hp (wpAny_pyNext_ascii_end (I3.ok.hd hc) st3 (Array.getElem?_eq_none (Nat.le_refl _)) fun h4 eb => ?_)
    exact wpAny_passesOwn hp (wpAny_execs_nil ⟨σ3, H, I3.turned (t' := s3.toks) (fun b o hb e => eb b o hb e) f0 f1 f3 f4 f5, hD σ3 e3⟩)
end
end L2.KK
/-! tellings: values, their signs, what is read of signs; no program in sight -/
namespace L2.MT
open PySem TL SX
inductive Tv where
  | non
  | int (n : Int)
  | str (s : List Nat)
  | tup (vs : List Tv)
def numT (n : Int) : List Nat := tl (Str.ofString (toString n))
mutual
def toks : Tv → List (List Nat)
  | .non => [[45]]
  | .int n => [numT n]
  | .str s => [s]
  | .tup vs => [40] :: (toksL vs ++ [[41]])
def toksL : List Tv → List (List Nat)
  | [] => []
  | v :: vs => toks v ++ toksL vs
end
mutual
def dep : Tv → Nat
  | .non => 0
  | .int _ => 0
  | .str _ => 0
  | .tup vs => depL vs + 1
def depL : List Tv → Nat
  | [] => 0
  | v :: vs => max (dep v) (depL vs)
end
def letters (s : List Nat) : Prop := s ≠ [] ∧ ∀ c ∈ s, 97 ≤ c ∧ c ≤ 122
mutual
def Ok : Tv → Prop
  | .non => True
  | .int n => n.natAbs < 10 ^ 100
  | .str s => letters s
  | .tup vs => OkL vs
def OkL : List Tv → Prop
  | [] => True
  | v :: vs => Ok v ∧ OkL vs
end
theorem toksL_append : ∀ a b : List Tv, toksL (a ++ b) = toksL a ++ toksL b
  | [], _ => rfl
  | v :: a, b => by
    show toks v ++ toksL (a ++ b) = toks v ++ toksL a ++ toksL b
    rw [toksL_append a b, List.append_assoc]
theorem toksL_one (v : Tv) : toksL [v] = toks v := List.append_nil _
theorem okL_mem : ∀ {vs : List Tv}, OkL vs → ∀ v ∈ vs, Ok v
  | w :: vs, h, v, hv => by
    rcases List.mem_cons.mp hv with e | e
    · rw [e]; exact h.1
    · exact okL_mem h.2 v e
theorem okL_of : ∀ {vs : List Tv}, (∀ v ∈ vs, Ok v) → OkL vs
  | [], _ => trivial
  | v :: vs, h => ⟨h v List.mem_cons_self, okL_of fun w hw => h w (List.mem_cons_of_mem _ hw)⟩
theorem okL_append {a b : List Tv} : OkL (a ++ b) ↔ OkL a ∧ OkL b := by
  constructor
  · exact fun h => ⟨okL_of fun v hv => okL_mem h v (List.mem_append_left _ hv), okL_of fun v hv => okL_mem h v (List.mem_append_right _ hv)⟩
  · exact fun ⟨h, k⟩ => okL_of fun v hv => (List.mem_append.mp hv).elim (okL_mem h v) (okL_mem k v)
theorem toks_pos : ∀ v : Tv, 1 ≤ (toks v).length
  | .non => Nat.le_refl _
  | .int _ => Nat.le_refl _
  | .str _ => Nat.le_refl _
  | .tup vs => by
    show 1 ≤ ([40] :: (toksL vs ++ [[41]])).length
    rw [List.length_cons]
    omega
theorem len_le_toksL : ∀ vs : List Tv, vs.length ≤ (toksL vs).length
  | [] => Nat.le_refl _
  | v :: vs => by
    show _ ≤ (toks v ++ toksL vs).length
    rw [List.length_append, List.length_cons]
    have := toks_pos v
    have := len_le_toksL vs
    omega
theorem depL_le : ∀ {vs : List Tv} {n : Nat}, depL vs ≤ n ↔ ∀ v ∈ vs, dep v ≤ n
  | [], n => ⟨fun _ v h => (List.not_mem_nil h).elim, fun _ => Nat.zero_le _⟩
  | w :: vs, n => by
    show max (dep w) (depL vs) ≤ n ↔ _
    rw [Nat.max_le, depL_le (vs := vs)]
    constructor
    · rintro ⟨h, k⟩ v hv
      rcases List.mem_cons.mp hv with e | e
      · rw [e]; exact h
      · exact k v e
    · exact fun h => ⟨h w List.mem_cons_self, fun v hv => h v (List.mem_cons_of_mem _ hv)⟩

/-! ### joining -/
def joinStep (w t : List Nat) : List Nat := (if w ≠ [] ∧ w.getLast? ≠ some 40 ∧ t ≠ [41] then w ++ [32] else w) ++ t
def joinS (ts : List (List Nat)) : List Nat := ts.foldl joinStep []
theorem joinS_snoc (ts : List (List Nat)) (t : List Nat) : joinS (ts ++ [t]) = joinStep (joinS ts) t := by
  unfold joinS
  rw [List.foldl_append]
  rfl
def wtT (ts : List (List Nat)) : Nat := (ts.map fun t => t.length + 1).sum
theorem wtT_append (a b : List (List Nat)) : wtT (a ++ b) = wtT a + wtT b := by
  unfold wtT
  rw [List.map_append, List.sum_append]
theorem joinStep_len (w t : List Nat) : (joinStep w t).length ≤ w.length + t.length + 1 := by
  unfold joinStep
  rw [List.length_append]
  split
  · rw [List.length_append]
    show w.length + 1 + t.length ≤ _
    omega
  · omega
theorem foldl_join_len : ∀ (ts : List (List Nat)) (w : List Nat), (ts.foldl joinStep w).length ≤ w.length + wtT ts
  | [], w => Nat.le_refl _
  | t :: ts, w => by
    rw [List.foldl_cons]
    have h1 := foldl_join_len ts (joinStep w t)
    have h2 := joinStep_len w t
    have e : wtT (t :: ts) = t.length + 1 + wtT ts := by unfold wtT; rw [List.map_cons, List.sum_cons]
    omega
theorem joinS_len (ts : List (List Nat)) : (joinS ts).length ≤ wtT ts := by
  have h := foldl_join_len ts []
  rw [List.length_nil, Nat.zero_add] at h
  exact h
theorem joinStep_ne {w t : List Nat} (h : t ≠ []) : joinStep w t ≠ [] := by
  unfold joinStep
  intro e
  exact h (List.append_eq_nil_iff.mp e).2
theorem joinStep_last {w t : List Nat} (h : t ≠ []) : (joinStep w t).getLast? = t.getLast? := by
  unfold joinStep
  rw [List.getLast?_append]
  cases t with
  | nil => exact absurd rfl h
  | cons c t => rw [List.getLast?_cons]; rfl

/-! ### signs put between blanks; words -/
def sur (c k : Nat) : List Nat := if k = c then [32, c, 32] else [k]
def surL (c : Nat) (l : List Nat) : List Nat := l.flatMap (sur c)
theorem surL_append (c : Nat) (a b : List Nat) : surL c (a ++ b) = surL c a ++ surL c b := List.flatMap_append
theorem surL_free {c : Nat} : ∀ {l : List Nat}, c ∉ l → surL c l = l
  | [], _ => rfl
  | k :: l, h => by
    have h1 : ¬ k = c := fun e => h (e ▸ List.mem_cons_self)
    show sur c k ++ surL c l = k :: l
    rw [surL_free fun m => h (List.mem_cons_of_mem _ m)]
    unfold sur
    rw [if_neg h1]
    rfl
theorem surL_len (c : Nat) : ∀ l : List Nat, (surL c l).length ≤ 3 * l.length
  | [] => Nat.le_refl _
  | k :: l => by
    show (sur c k ++ surL c l).length ≤ _
    rw [List.length_append, List.length_cons]
    have := surL_len c l
    have : (sur c k).length ≤ 3 := by
      unfold sur
      split
      · exact Nat.le_refl _
      · show 1 ≤ 3
        decide
    omega
theorem surL_join (c : Nat) : ∀ parts : List (List Nat), (∀ p ∈ parts, c ∉ p) → surL c (joinL [c] parts) = joinL [32, c, 32] parts
  | [], _ => rfl
  | [p], h => surL_free (h p (List.mem_singleton.mpr rfl))
  | p :: q :: r, h => by
    show surL c (p ++ ([c] ++ joinL [c] (q :: r))) = p ++ ([32, c, 32] ++ joinL [32, c, 32] (q :: r))
    rw [surL_append, surL_append, surL_join c (q :: r) fun a ha => h a (List.mem_cons_of_mem _ ha), surL_free (h p List.mem_cons_self)]
    have e : surL c [c] = [32, c, 32] := by
      show sur c c ++ [] = _
      unfold sur
      rw [if_pos rfl]
      rfl
    rw [e]
theorem replace_sur (l : List Nat) (c : Nat) : Txt.replace (S l) ⟨#[c]⟩ (S [32, c, 32]) = S (surL c l) := by
  apply ext_tl
  have e := StrLaws.replace_one (S l) (S [32, c, 32]) c
  rw [e, tl_join]
  have f := StrLaws.join_split (S l) ⟨#[c]⟩
  have f2 : joinL [c] ((Txt.split (S l) ⟨#[c]⟩).map tl) = l := by
    have q := congrArg tl f
    rw [tl_join] at q
    exact q
  have fr := StrLaws.split_free (S l) c
  have g := surL_join c ((Txt.split (S l) ⟨#[c]⟩).map tl) fun p hp => by
    obtain ⟨z, hz, rfl⟩ := List.mem_map.mp hp
    exact fr z hz
  rw [f2] at g
  exact g.symm
def par2 (l : List Nat) : List Nat := surL 41 (surL 40 l)
theorem par2_append (a b : List Nat) : par2 (a ++ b) = par2 a ++ par2 b := by
  unfold par2
  rw [surL_append, surL_append]
theorem par2_len (l : List Nat) : (par2 l).length ≤ 9 * l.length := by
  have h1 := surL_len 41 (surL 40 l)
  have h2 := surL_len 40 l
  unfold par2
  omega
def wordsL (l : List Nat) : List (List Nat) := wfin ((par2 l).foldl wstep ([], []))
theorem words_par2 (l : List Nat) : Txt.words (S (par2 l)) = (wordsL l).map S := by
  refine map_tl_inj ?_
  rw [words_tl, map_S_tl]
  rfl
/-- a sign of its own, or a word without blanks and parentheses -/
def Part (t : List Nat) : Prop := t = [40] ∨ t = [41] ∨ (t ≠ [] ∧ ∀ c ∈ t, Unicode.isSpace c = false ∧ c ≠ 40 ∧ c ≠ 41)
theorem Part.ne {t : List Nat} (h : Part t) : t ≠ [] := by
  rcases h with h | h | h
  · rw [h]; simp
  · rw [h]; simp
  · exact h.1
theorem space32 : Unicode.isSpace 32 = true := by decide +kernel
theorem nsp40 : Unicode.isSpace 40 = false := by decide +kernel
theorem nsp41 : Unicode.isSpace 41 = false := by decide +kernel
theorem wstep32 (st : List (List Nat) × List Nat) : wstep st 32 = (wfin st, []) := by
  obtain ⟨ws, u⟩ := st
  unfold wstep wfin
  rw [if_pos space32]
  by_cases h : u = []
  · rw [if_pos h, if_pos h, h]
  · rw [if_neg h, if_neg h]
theorem wfold_sign {c : Nat} (h : Unicode.isSpace c = false) (st : List (List Nat) × List Nat) : [32, c, 32].foldl wstep st = (wfin st ++ [[c]], []) := by
  rw [List.foldl_cons, wstep32, List.foldl_cons, List.foldl_cons, List.foldl_nil]
  have e : wstep (wfin st, []) c = (wfin st, [c]) := by
    unfold wstep
    rw [if_neg (by rw [h]; exact Bool.false_ne_true)]
    rfl
  rw [e, wstep32]
  rfl
theorem par2_40 : par2 [40] = [32, 40, 32] := by decide
theorem par2_41 : par2 [41] = [32, 41, 32] := by decide
theorem par2_32 : par2 [32] = [32] := by decide
theorem par2_free {t : List Nat} (h : ∀ c ∈ t, c ≠ 40 ∧ c ≠ 41) : par2 t = t := by
  unfold par2
  rw [surL_free fun m => (h 40 m).1 rfl, surL_free fun m => (h 41 m).2 rfl]
theorem rev_ind {α : Type} {motive : List α → Prop} (ts : List α) (nil : motive []) (snoc : ∀ (ts : List α) (t : α), motive ts → motive (ts ++ [t])) : motive ts := by
  have key : ∀ l : List α, motive l.reverse := by
    intro l
    induction l with
    | nil => exact nil
    | cons a l ih =>
      rw [List.reverse_cons]
      exact snoc _ _ ih
  have := key ts.reverse
  rw [List.reverse_reverse] at this
  exact this
/-- the state of the reading behind joined parts -/
theorem words_joined : ∀ ts : List (List Nat), (∀ t ∈ ts, Part t) → ∃ st, (par2 (joinS ts)).foldl wstep ([], []) = st ∧ wfin st = ts ∧ (joinS ts = [] → st.2 = []) ∧ ((joinS ts).getLast? = some 40 → st.2 = []) := by
  intro ts
  induction ts using rev_ind with
  | nil => exact fun _ => ⟨_, rfl, rfl, fun _ => rfl, fun _ => rfl⟩
  | snoc ts t ih =>
    intro h
    obtain ⟨st, e1, e2, e3, e4⟩ := ih fun x hx => h x (List.mem_append_left _ hx)
    have ht := h t (List.mem_append_right _ (List.mem_singleton.mpr rfl))
    rw [joinS_snoc]
    generalize joinS ts = w at *
    have hne := ht.ne
    refine ⟨_, rfl, ?_, fun z => absurd z (joinStep_ne hne), fun z => ?_⟩
    · -- the state ahead of t
      have hb : ∃ st', (par2 (if w ≠ [] ∧ w.getLast? ≠ some 40 ∧ t ≠ [41] then w ++ [32] else w)).foldl wstep ([], []) = st' ∧ wfin st' = ts ∧ (t ≠ [41] → st'.2 = []) := by
        by_cases c : w ≠ [] ∧ w.getLast? ≠ some 40 ∧ t ≠ [41]
        · rw [if_pos c, par2_append, List.foldl_append, e1, par2_32, List.foldl_cons, List.foldl_nil, wstep32]
          refine ⟨_, rfl, ?_, fun _ => rfl⟩
          unfold wfin
          rw [if_pos rfl]
          exact e2
        · rw [if_neg c]
          refine ⟨st, e1, e2, fun n => ?_⟩
          by_cases c1 : w = []
          · exact e3 c1
          · refine e4 (Classical.byContradiction fun c2 => c ⟨c1, c2, n⟩)
      obtain ⟨st', f1, f2, f3⟩ := hb
      unfold joinStep
      rw [par2_append, List.foldl_append, f1]
      rcases ht with e | e | ⟨_, e⟩
      · rw [e, par2_40, wfold_sign nsp40, f2]
        rfl
      · rw [e, par2_41, wfold_sign nsp41, f2]
        rfl
      · have n41 : t ≠ [41] := fun z => by rw [z] at e; exact (e 41 (List.mem_singleton.mpr rfl)).2.2 rfl
        have s2 := f3 n41
        obtain ⟨ws, u⟩ := st'
        have s2' : u = [] := s2
        subst s2'
        have f2' : ws = ts := by
          unfold wfin at f2
          rw [if_pos rfl] at f2
          exact f2
        subst f2'
        rw [par2_free fun c hc => (e c hc).2, wfold_word t ws [] fun c hc => (e c hc).1, List.nil_append]
        unfold wfin
        rw [if_neg hne]
    · rw [joinStep_last hne] at z
      unfold joinStep
      rw [par2_append, List.foldl_append]
      rcases ht with e | e | ⟨_, e⟩
      · rw [e, par2_40, wfold_sign nsp40]
      · rw [e] at z
        cases z
      · exact absurd rfl (e 40 (List.mem_of_getLast? z)).2.1
theorem words_join {ts : List (List Nat)} (h : ∀ t ∈ ts, Part t) : wordsL (joinS ts) = ts := by
  obtain ⟨st, e1, e2, _⟩ := words_joined ts h
  unfold wordsL
  rw [e1, e2]
end L2.MT
/-! what is read of the parts of a telling -/
namespace L2.MT
open PySem TL SX
/-! ### parts of a value -/
instance (s : List Nat) : Decidable (letters s) := inferInstanceAs (Decidable (_ ∧ _))
def digs (t : List Nat) : List Nat := if t.take 1 = [45] then t.drop 1 else t
def numB (t : List Nat) : Prop := digs t ≠ [] ∧ (digs t).length ≤ 100 ∧ (∀ c ∈ digs t, 48 ≤ c ∧ c ≤ 57) ∧ ((digs t).head? ≠ some 48 ∨ t = [48])
instance (t : List Nat) : Decidable (numB t) := inferInstanceAs (Decidable (_ ∧ _))
def valI (t : List Nat) : Int := if t.take 1 = [45] then -((NumText.digitsVal (t.drop 1) : Nat) : Int) else ((NumText.digitsVal t : Nat) : Int)
def readPart (t : List Nat) : Option Tv := if t = [45] then some .non else if letters t then some (.str t) else if numB t then some (.int (valI t)) else none
theorem numT_nat (n : Nat) : numT (n : Int) = numL n := tl_num n
theorem numT_neg {n : Nat} (h : 0 < n) : numT (-(n : Int)) = 45 :: numL n := by
  unfold numT
  obtain ⟨m, rfl⟩ : ∃ m, n = m + 1 := ⟨n - 1, by omega⟩
  have e : toString (-((m + 1 : Nat) : Int)) = "-" ++ toString (m + 1) := rfl
  rw [e, tl_ofString, String.toList_append, List.map_append]
  have q := tl_num (m + 1)
  have e2 : toString (((m + 1 : Nat) : Int)) = toString (m + 1) := rfl
  rw [e2, tl_ofString] at q
  rw [q]
  rfl
theorem numT_cases (n : Int) : (∃ k : Nat, n = (k : Int) ∧ numT n = numL k) ∨ (∃ k : Nat, 0 < k ∧ n = -(k : Int) ∧ numT n = 45 :: numL k) := by
  by_cases h : 0 ≤ n
  · obtain ⟨k, rfl⟩ : ∃ k : Nat, n = (k : Int) := ⟨n.toNat, by omega⟩
    exact .inl ⟨k, rfl, numT_nat k⟩
  · obtain ⟨k, hk, rfl⟩ : ∃ k : Nat, 0 < k ∧ n = -(k : Int) := ⟨(-n).toNat, by omega, by omega⟩
    exact .inr ⟨k, hk, rfl, numT_neg hk⟩
/-- digits without needless zeros are the number's own -/
theorem numL_back {d : List Nat} (h1 : d ≠ []) (h2 : ∀ c ∈ d, 48 ≤ c ∧ c ≤ 57) (h3 : d.head? ≠ some 48 ∨ d.length = 1) : numL (NumText.digitsVal d) = d := by
  have e := NumText.toDigits_digitsVal (d.length - 1) d (by have : 0 < d.length := List.length_pos_iff.mpr h1; omega) h2 (by
    rcases h3 with h3 | h3
    · cases d with
      | nil => exact absurd rfl h1
      | cons c r =>
        refine .inr ⟨c, r, rfl, ?_⟩
        have := h2 c List.mem_cons_self
        have : c ≠ 48 := fun z => h3 (by rw [z]; rfl)
        omega
    · exact .inl (by omega))
  unfold numL
  rw [e, List.map_map]
  have : ∀ c ∈ d, (Char.toNat ∘ Char.ofNat) c = c := fun c hc => by
    have := h2 c hc
    have key : ∀ x : Nat, x < 58 → (Char.ofNat x).toNat = x := by decide +kernel
    exact key c (by omega)
  rw [List.map_congr_left this, List.map_id']
theorem numL_head {n : Nat} (h : 0 < n) : (numL n).head? ≠ some 48 := by
  induction n using Nat.strongRecOn with
  | _ n ih =>
    by_cases h1 : n < 10
    · rw [numL_lt h1]
      intro e
      injection e with e
      omega
    · rw [numL_step (by omega)]
      have h2 := ih (n / 10) (by omega) (by omega)
      have h3 := numL_ne (n / 10)
      cases e : numL (n / 10) with
      | nil => exact absurd e h3
      | cons c r =>
        rw [e] at h2
        exact h2
theorem readPart_toks {t : List Nat} {v : Tv} (h : readPart t = some v) : toks v = [t] ∧ Ok v ∧ dep v = 0 := by
  unfold readPart at h
  by_cases h1 : t = [45]
  · rw [if_pos h1] at h
    cases h
    exact ⟨by rw [h1]; rfl, trivial, rfl⟩
  · rw [if_neg h1] at h
    by_cases h2 : letters t
    · rw [if_pos h2] at h
      cases h
      exact ⟨rfl, h2, rfl⟩
    · rw [if_neg h2] at h
      by_cases h3 : numB t
      · rw [if_pos h3] at h
        cases h
        obtain ⟨n1, n2, n3, n4⟩ := h3
        have big : ∀ d : List Nat, (∀ c ∈ d, 48 ≤ c ∧ c ≤ 57) → d.length ≤ 100 → NumText.digitsVal d < 10 ^ 100 := fun d hd hl => by
          have key : ∀ (d : List Nat) (a : Nat), (∀ c ∈ d, 48 ≤ c ∧ c ≤ 57) → d.foldl (fun acc c => acc * 10 + (c - 48)) a < (a + 1) * 10 ^ d.length := by
            intro d
            induction d with
            | nil => intro a _; show a < (a + 1) * 10 ^ 0; omega
            | cons c d ih =>
              intro a hd
              have hc := hd c List.mem_cons_self
              rw [List.foldl_cons]
              refine Nat.lt_of_lt_of_le (ih _ fun x hx => hd x (List.mem_cons_of_mem _ hx)) ?_
              rw [List.length_cons, Nat.pow_succ, Nat.mul_comm (10 ^ d.length) 10, ← Nat.mul_assoc]
              exact Nat.mul_le_mul_right _ (by omega)
          have q := key d 0 hd
          rw [Nat.zero_add, Nat.one_mul] at q
          exact Nat.lt_of_lt_of_le q (Nat.pow_le_pow_right (by decide) hl)
        refine ⟨?_, ?_, rfl⟩
        · show [numT (valI t)] = [t]
          unfold valI
          by_cases h4 : t.take 1 = [45]
          · rw [if_pos h4]
            unfold digs at n1 n2 n3 n4
            rw [if_pos h4] at n1 n2 n3 n4
            obtain ⟨c, r, rfl⟩ : ∃ c r, t = c :: r := by
              cases t with
              | nil => cases h4
              | cons c r => exact ⟨c, r, rfl⟩
            rw [List.take_succ_cons, List.take_zero] at h4
            injection h4 with h4 _
            subst h4
            rw [List.drop_succ_cons, List.drop_zero] at *
            have hd : r.head? ≠ some 48 := by
              rcases n4 with n4 | n4
              · exact n4
              · injection n4 with n4 _
                cases n4
            have b := numL_back n1 n3 (.inl hd)
            have pos : 0 < NumText.digitsVal r := by
              cases r with
              | nil => exact absurd rfl n1
              | cons c r =>
                have := n3 c List.mem_cons_self
                have : c ≠ 48 := fun z => hd (by rw [z]; rfl)
                exact NumText.digitsVal_pos (by omega)
            rw [numT_neg pos, b]
          · rw [if_neg h4]
            unfold digs at n1 n2 n3 n4
            rw [if_neg h4] at n1 n2 n3 n4
            rw [numT_nat, numL_back n1 n3 (n4.imp id fun e => by rw [e]; rfl)]
        · show (valI t).natAbs < 10 ^ 100
          unfold valI
          unfold digs at n2 n3
          split
          · rename_i h4
            rw [if_pos h4] at n2 n3
            rw [Int.natAbs_neg, Int.natAbs_natCast]
            exact big _ n3 n2
          · rename_i h4
            rw [if_neg h4] at n2 n3
            rw [Int.natAbs_natCast]
            exact big _ n3 n2
      · rw [if_neg h3] at h
        cases h
theorem numT_numB {n : Int} (h : n.natAbs < 10 ^ 100) : numB (numT n) ∧ valI (numT n) = n ∧ ¬ letters (numT n) ∧ numT n ≠ [45] := by
  have nl : ∀ k c, c ∈ numL k → 48 ≤ c ∧ c ≤ 57 := fun k c hc => numL_digits k c hc
  rcases numT_cases n with ⟨k, rfl, e⟩ | ⟨k, hk, rfl, e⟩
  · rw [Int.natAbs_natCast] at h
    rw [e]
    have ne := numL_ne k
    have hx : ∃ c r, numL k = c :: r := by
      cases q : numL k with
      | nil => exact absurd q ne
      | cons c r => exact ⟨c, r, rfl⟩
    obtain ⟨c, r, q⟩ := hx
    have hc := nl k c (by rw [q]; exact List.mem_cons_self)
    have n45 : ¬ (numL k).take 1 = [45] := fun z => by
      rw [q, List.take_succ_cons, List.take_zero] at z
      injection z with z _
      omega
    refine ⟨?_, ?_, fun z => ?_, fun z => ?_⟩
    · unfold numB digs
      rw [if_neg n45]
      refine ⟨ne, numL_len (by decide) h, nl k, ?_⟩
      by_cases k0 : k = 0
      · exact .inr (by rw [k0]; rfl)
      · exact .inl (numL_head (by omega))
    · unfold valI
      rw [if_neg n45, numL_val]
    · have := z.2 c (by rw [q]; exact List.mem_cons_self)
      omega
    · rw [z] at n45
      exact n45 rfl
  · rw [Int.natAbs_neg, Int.natAbs_natCast] at h
    rw [e]
    have y45 : (45 :: numL k).take 1 = [45] := by rw [List.take_succ_cons, List.take_zero]
    refine ⟨?_, ?_, fun z => ?_, fun z => ?_⟩
    · unfold numB digs
      rw [if_pos y45, List.drop_succ_cons, List.drop_zero]
      exact ⟨numL_ne k, numL_len (by decide) h, nl k, .inl (numL_head hk)⟩
    · unfold valI
      rw [if_pos y45, List.drop_succ_cons, List.drop_zero, numL_val]
    · have := z.2 45 List.mem_cons_self
      omega
    · injection z with _ z
      exact numL_ne k z
theorem readPart_back {v : Tv} (h : Ok v) (hd : dep v = 0) : ∃ t, toks v = [t] ∧ readPart t = some v ∧ t ≠ [40] ∧ t ≠ [41] := by
  cases v with
  | non => exact ⟨_, rfl, rfl, by decide, by decide⟩
  | int n =>
    obtain ⟨a, b, c, d⟩ := numT_numB h
    refine ⟨_, rfl, ?_, fun z => ?_, fun z => ?_⟩
    · unfold readPart
      rw [if_neg d, if_neg c, if_pos a, b]
    · rw [z] at a
      exact absurd (a.2.2.1 40 (by decide)) (by decide)
    · rw [z] at a
      exact absurd (a.2.2.1 41 (by decide)) (by decide)
  | str s =>
    have hs : letters s := h
    refine ⟨s, rfl, ?_, fun z => ?_, fun z => ?_⟩
    · unfold readPart
      rw [if_neg, if_pos hs]
      intro z
      rw [z] at hs
      exact absurd (hs.2 45 (by decide)) (by decide)
    · rw [z] at hs
      exact absurd (hs.2 40 (by decide)) (by decide)
    · rw [z] at hs
      exact absurd (hs.2 41 (by decide)) (by decide)
  | tup vs => exact absurd hd (Nat.succ_ne_zero _)
/-! ### the parts of a value's telling -/
theorem part_num (n : Int) : Part (numT n) := by
  have r : ∀ k c, c ∈ numL k → Unicode.isSpace c = false ∧ c ≠ 40 ∧ c ≠ 41 := fun k c hc => by
    have := numL_digits k c hc
    have key : ∀ x : Nat, x < 58 → 48 ≤ x → Unicode.isSpace x = false := by decide +kernel
    exact ⟨key c (by omega) (by omega), by omega, by omega⟩
  refine .inr (.inr ?_)
  rcases numT_cases n with ⟨k, _, e⟩ | ⟨k, _, _, e⟩
  · rw [e]
    exact ⟨numL_ne k, r k⟩
  · rw [e]
    refine ⟨by simp, fun c hc => ?_⟩
    rcases List.mem_cons.mp hc with z | z
    · rw [z]
      exact ⟨by decide +kernel, by decide, by decide⟩
    · exact r k c z
theorem part_letters {s : List Nat} (h : letters s) : Part s := by
  refine .inr (.inr ⟨h.1, fun c hc => ?_⟩)
  have := h.2 c hc
  have key : ∀ x : Nat, x < 123 → 97 ≤ x → Unicode.isSpace x = false := by decide +kernel
  exact ⟨key c (by omega) (by omega), by omega, by omega⟩
mutual
theorem toks_part : ∀ (v : Tv), Ok v → ∀ t ∈ toks v, Part t
  | .non, _, t, ht => by
    rw [List.mem_singleton.mp ht]
    exact .inr (.inr ⟨by decide, fun c hc => by rw [List.mem_singleton.mp hc]; exact ⟨by decide +kernel, by decide, by decide⟩⟩)
  | .int n, _, t, ht => by
    rw [List.mem_singleton.mp ht]
    exact part_num n
  | .str s, h, t, ht => by
    rw [List.mem_singleton.mp ht]
    exact part_letters h
  | .tup vs, h, t, ht => by
    rcases List.mem_cons.mp ht with z | z
    · exact .inl z
    · rcases List.mem_append.mp z with z | z
      · exact toksL_part vs h t z
      · exact .inr (.inl (List.mem_singleton.mp z))
theorem toksL_part : ∀ (vs : List Tv), OkL vs → ∀ t ∈ toksL vs, Part t
  | [], _, t, ht => by cases ht
  | v :: vs, h, t, ht => by
    rcases List.mem_append.mp ht with z | z
    · exact toks_part v h.1 t z
    · exact toksL_part vs h.2 t z
end
/-! ### the reading, part by part -/
abbrev RS := List (List Tv) × List Tv
def stepR (st : RS) (t : List Nat) : Option RS :=
  if t = [40] then (if st.1.length + 1 > 12 then none else some (st.1 ++ [st.2], []))
  else if t = [41] then (match st.1.getLast? with | none => none | some l => some (st.1.dropLast, l ++ [.tup st.2]))
  else match readPart t with | none => none | some v => some (st.1, st.2 ++ [v])
def runR : List (List Nat) → RS → Option RS
  | [], st => some st
  | t :: ts, st => match stepR st t with | none => none | some s => runR ts s
theorem runR_append : ∀ (a b : List (List Nat)) (st : RS), runR (a ++ b) st = (runR a st).bind (runR b)
  | [], _, _ => rfl
  | t :: a, b, st => by
    show (match stepR st t with | none => none | some s => runR (a ++ b) s) = (match stepR st t with | none => none | some s => runR a s).bind (runR b)
    cases stepR st t with
    | none => rfl
    | some s => exact runR_append a b s
def flatR (st : RS) : List (List Nat) := st.1.flatMap (fun l => toksL l ++ [[40]]) ++ toksL st.2
theorem dropLast_snoc {α : Type} {l : List α} {x : α} (h : l.getLast? = some x) : l = l.dropLast ++ [x] := by
  have hne : l ≠ [] := fun z => by rw [z] at h; cases h
  rw [List.getLast?_eq_some_getLast hne] at h
  injection h with h
  rw [← h]
  exact (List.dropLast_concat_getLast hne).symm
def OkR (st : RS) : Prop := (∀ l ∈ st.1, OkL l ∧ depL l ≤ 12) ∧ OkL st.2
theorem stepR_flat {st s : RS} {t : List Nat} (h : stepR st t = some s) : flatR s = flatR st ++ [t] := by
  obtain ⟨O, W⟩ := st
  unfold stepR at h
  by_cases h1 : t = [40]
  · rw [if_pos h1] at h
    split at h
    · cases h
    · cases h
      unfold flatR
      rw [List.flatMap_append, h1]
      show O.flatMap _ ++ (toksL W ++ [[40]] ++ []) ++ [] = _
      rw [List.append_nil, List.append_nil, ← List.append_assoc]
  · rw [if_neg h1] at h
    by_cases h2 : t = [41]
    · rw [if_pos h2] at h
      cases hl : O.getLast? with
      | none => rw [hl] at h; cases h
      | some l =>
        rw [hl] at h
        cases h
        unfold flatR
        conv => rhs; rw [show (O, W).1 = O.dropLast ++ [l] from dropLast_snoc hl]
        rw [List.flatMap_append, toksL_append, toksL_one, h2]
        show O.dropLast.flatMap _ ++ (toksL l ++ [40] :: (toksL W ++ [[41]])) = O.dropLast.flatMap _ ++ (toksL l ++ [[40]] ++ []) ++ toksL W ++ [[41]]
        simp only [List.append_assoc, List.cons_append, List.nil_append, List.append_nil]
    · rw [if_neg h2] at h
      cases hp : readPart t with
      | none => rw [hp] at h; cases h
      | some v =>
        rw [hp] at h
        cases h
        unfold flatR
        rw [toksL_append, toksL_one, (readPart_toks hp).1, ← List.append_assoc]
theorem runR_flat : ∀ {ts : List (List Nat)} {st s : RS}, runR ts st = some s → flatR s = flatR st ++ ts
  | [], st, s, h => by
    cases h
    rw [List.append_nil]
  | t :: ts, st, s, h => by
    have h' : (match stepR st t with | none => none | some s => runR ts s) = some s := h
    cases e : stepR st t with
    | none => rw [e] at h'; cases h'
    | some s1 =>
      rw [e] at h'
      rw [runR_flat h', stepR_flat e, List.append_assoc]
      rfl
/-- what is open is good, and not deeper than what the reading lets -/
def Good (st : RS) : Prop := (∀ l ∈ st.1, OkL l) ∧ OkL st.2
theorem stepR_good {st s : RS} {t : List Nat} (h : stepR st t = some s) (g : Good st) : Good s := by
  obtain ⟨O, W⟩ := st
  obtain ⟨g1, g2⟩ := g
  unfold stepR at h
  by_cases h1 : t = [40]
  · rw [if_pos h1] at h
    split at h
    · cases h
    · cases h
      exact ⟨fun l hl => (List.mem_append.mp hl).elim (g1 l) fun z => by rw [List.mem_singleton.mp z]; exact g2, trivial⟩
  · rw [if_neg h1] at h
    by_cases h2 : t = [41]
    · rw [if_pos h2] at h
      cases hl : O.getLast? with
      | none => rw [hl] at h; cases h
      | some l =>
        rw [hl] at h
        cases h
        exact ⟨fun x hx => g1 x ((List.dropLast_sublist O).subset hx), okL_append.mpr ⟨g1 l (List.mem_of_getLast? hl), g2, trivial⟩⟩
    · rw [if_neg h2] at h
      cases hp : readPart t with
      | none => rw [hp] at h; cases h
      | some v =>
        rw [hp] at h
        cases h
        exact ⟨g1, okL_append.mpr ⟨g2, (readPart_toks hp).2.1, trivial⟩⟩
theorem stepR_len {st s : RS} {t : List Nat} (h : stepR st t = some s) (l : st.1.length ≤ 12) : s.1.length ≤ 12 := by
  unfold stepR at h
  by_cases h1 : t = [40]
  · rw [if_pos h1] at h
    split at h
    · cases h
    · cases h
      rw [List.length_append, List.length_singleton]
      omega
  · rw [if_neg h1] at h
    by_cases h2 : t = [41]
    · rw [if_pos h2] at h
      cases hl : st.1.getLast? with
      | none => rw [hl] at h; cases h
      | some l =>
        rw [hl] at h
        cases h
        rw [List.length_dropLast]
        omega
    · rw [if_neg h2] at h
      cases hp : readPart t with
      | none => rw [hp] at h; cases h
      | some v =>
        rw [hp] at h
        cases h
        exact l
theorem runR_good : ∀ {ts : List (List Nat)} {st s : RS}, runR ts st = some s → Good st → Good s
  | [], st, s, h, g => by cases h; exact g
  | t :: ts, st, s, h, g => by
    have h' : (match stepR st t with | none => none | some s => runR ts s) = some s := h
    cases e : stepR st t with
    | none => rw [e] at h'; cases h'
    | some s1 =>
      rw [e] at h'
      exact runR_good h' (stepR_good e g)
mutual
theorem run_toks : ∀ (v : Tv) (O : List (List Tv)) (W : List Tv), Ok v → dep v + O.length ≤ 12 → runR (toks v) (O, W) = some (O, W ++ [v])
  | .non, O, W, _, _ => rfl
  | .int n, O, W, h, _ => by
    obtain ⟨t, e, r, a, b⟩ := readPart_back (v := .int n) h rfl
    rw [e]
    show (match stepR (O, W) t with | none => none | some s => runR [] s) = _
    unfold stepR
    rw [if_neg a, if_neg b, r]
    rfl
  | .str s, O, W, h, _ => by
    obtain ⟨t, e, r, a, b⟩ := readPart_back (v := .str s) h rfl
    rw [e]
    show (match stepR (O, W) t with | none => none | some s => runR [] s) = _
    unfold stepR
    rw [if_neg a, if_neg b, r]
    rfl
  | .tup vs, O, W, h, hd => by
    have hd' : depL vs + 1 + O.length ≤ 12 := hd
    show (match stepR (O, W) [40] with | none => none | some s => runR (toksL vs ++ [[41]]) s) = _
    have e : stepR (O, W) [40] = some (O ++ [W], []) := by
      unfold stepR
      rw [if_pos rfl, if_neg (by show ¬ O.length + 1 > 12; omega)]
    rw [e]
    show runR (toksL vs ++ [[41]]) (O ++ [W], []) = _
    rw [runR_append, run_toksL vs (O ++ [W]) [] h (by rw [List.length_append, List.length_singleton]; omega)]
    show (match stepR (O ++ [W], [] ++ vs) [41] with | none => none | some s => runR [] s) = _
    have e2 : stepR (O ++ [W], [] ++ vs) [41] = some (O, W ++ [.tup vs]) := by
      unfold stepR
      rw [if_neg (by decide), if_pos rfl]
      show (match (O ++ [W]).getLast? with | none => none | some l => some ((O ++ [W]).dropLast, l ++ [Tv.tup ([] ++ vs)])) = _
      rw [List.getLast?_concat, List.dropLast_concat, List.nil_append]
    rw [e2]
    rfl
theorem run_toksL : ∀ (vs : List Tv) (O : List (List Tv)) (W : List Tv), OkL vs → depL vs + O.length ≤ 12 → runR (toksL vs) (O, W) = some (O, W ++ vs)
  | [], O, W, _, _ => by
    rw [List.append_nil]
    rfl
  | v :: vs, O, W, h, hd => by
    have hd' : max (dep v) (depL vs) + O.length ≤ 12 := hd
    show runR (toks v ++ toksL vs) (O, W) = _
    rw [runR_append, run_toks v O W h.1 (by omega)]
    show runR (toksL vs) (O, W ++ [v]) = _
    rw [run_toksL vs O (W ++ [v]) h.2 (by omega), List.append_assoc]
    rfl
end
/-- what a text is read as -/
def readM (l : List Nat) : Option Tv :=
  match runR (wordsL l) ([], []) with
  | some (O, W) => match O, W with
    | [], [v] => if joinS (wordsL l) = l then some v else none
    | _, _ => none
  | none => none
def tellM (v : Tv) : List Nat := joinS (toks v)
theorem read_tell {v : Tv} (h : Ok v) (hd : dep v ≤ 12) : readM (tellM v) = some v := by
  unfold readM tellM
  rw [words_join (toks_part v h), run_toks v [] [] h (by show dep v + 0 ≤ 12; omega)]
  show (if joinS (toks v) = joinS (toks v) then some v else none) = _
  rw [if_pos rfl]
theorem read_some {l : List Nat} {v : Tv} (h : readM l = some v) : Ok v ∧ toks v = wordsL l ∧ tellM v = l ∧ runR (wordsL l) ([], []) = some ([], [v]) := by
  unfold readM at h
  cases e : runR (wordsL l) ([], []) with
  | none => rw [e] at h; cases h
  | some s =>
    rw [e] at h
    obtain ⟨O, W⟩ := s
    have hg := runR_good e ⟨fun _ z => (List.not_mem_nil z).elim, trivial⟩
    have hf := runR_flat e
    match O, W, h with
    | [], [w], h =>
      have h' : (if joinS (wordsL l) = l then some w else none) = some v := h
      split at h'
      · rename_i q
        cases h'
        have ht : toks v = wordsL l := by
          have : flatR ([], [v]) = toks v := by
            unfold flatR
            rw [toksL_one]
            rfl
          rw [← this, hf]
          rfl
        exact ⟨hg.2.1, ht, by unfold tellM; rw [ht]; exact q, rfl⟩
      · cases h'
end L2.MT
/-! the law's own reading of a text, sign by sign, agrees with the reading by parts -/
namespace L2.MT
open PySem TL SX
def sep (c : Nat) : Bool := c == 32 || c == 40 || c == 41
def word (l : List Nat) : List Nat := l.takeWhile fun c => !sep c
def rest (l : List Nat) : List Nat := l.dropWhile fun c => !sep c
theorem word_rest (l : List Nat) : word l ++ rest l = l := List.takeWhile_append_dropWhile
inductive Ah where
  | start
  | part
  | blank
  | opn
  deriving DecidableEq
/-- n turns are left at most; what is ahead: deep, the kind of what stands before, how many whole ones -/
def fit : Nat → List Nat → Nat → Ah → Nat → Bool
  | 0, _, _, _, _ => false
  | _ + 1, [], deep, _, whole => decide (deep = 0) && decide (whole = 1)
  | n + 1, c :: r, deep, a, whole =>
    if c = 32 then (if a ≠ .part ∨ deep = 0 then false else fit n r deep .blank whole)
    else if c = 41 then (if deep = 0 ∨ a = .blank then false else fit n r (deep - 1) .part (whole + if deep - 1 = 0 then 1 else 0))
    else if a = .part ∨ (deep = 0 ∧ whole > 0) then false
    else if c = 40 then (if deep + 1 > 12 then false else fit n r (deep + 1) .opn whole)
    else if (readPart (word (c :: r))).isSome = false then false
    else fit n (rest (c :: r)) deep .part (whole + if deep = 0 then 1 else 0)
/-- how many whole ones the reading has at the top -/
def topN (st : RS) : Nat := match st.1 with | [] => st.2.length | l :: _ => l.length
theorem topN_snoc (O : List (List Tv)) (l W : List Tv) : topN (O ++ [l], W) = topN (O, l) := by
  cases O with
  | nil => rfl
  | cons a b => rfl
theorem topN_nil (W : List Tv) : topN ([], W) = W.length := rfl
theorem topN_deep {O : List (List Tv)} (h : O ≠ []) (W W' : List Tv) : topN (O, W) = topN (O, W') := by
  cases O with
  | nil => exact absurd rfl h
  | cons a b => rfl
/-! ### what the signs fit, the parts tell -/
structure Fits (p l : List Nat) (ts : List (List Nat)) (st : RS) (deep : Nat) (a : Ah) (whole : Nat) : Prop where
  run : runR ts ([], []) = some st
  good : ∀ t ∈ ts, Part t
  dp : st.1.length = deep
  wh : topN st = whole
  ah : match a with
    | .start => ts = [] ∧ p = []
    | .opn => p = joinS ts ∧ p.getLast? = some 40
    | .part => p = joinS ts ∧ p ≠ [] ∧ p.getLast? ≠ some 40
    | .blank => p = joinS ts ++ [32] ∧ joinS ts ≠ [] ∧ (joinS ts).getLast? ≠ some 40 ∧ deep ≠ 0
theorem run_snoc {ts : List (List Nat)} {st st' : RS} {t : List Nat} (h : runR ts ([], []) = some st) (hs : stepR st t = some st') : runR (ts ++ [t]) ([], []) = some st' := by
  rw [runR_append, h]
  show (match stepR st t with | none => none | some s => runR [] s) = _
  rw [hs]
  rfl
/-- a part that is no closing sign, behind what is not a part -/
theorem join_at {p : List Nat} {l : List Nat} {ts : List (List Nat)} {st : RS} {deep whole : Nat} {a : Ah} (F : Fits p l ts st deep a whole) (ha : a ≠ .part) {t : List Nat} (ht : t ≠ [41]) : joinS (ts ++ [t]) = p ++ t := by
  rw [joinS_snoc]
  unfold joinStep
  have h := F.ah
  cases a with
  | start =>
    obtain ⟨h1, h2⟩ := h
    rw [h1, h2]
    rfl
  | part => exact absurd rfl ha
  | opn =>
    obtain ⟨h1, h2⟩ := h
    rw [h1] at h2
    rw [if_neg fun q => q.2.1 h2, h1]
  | blank =>
    obtain ⟨h1, h2, h3, _⟩ := h
    rw [if_pos ⟨h2, h3, ht⟩, h1]
theorem join_close {p : List Nat} {l : List Nat} {ts : List (List Nat)} {st : RS} {deep whole : Nat} {a : Ah} (F : Fits p l ts st deep a whole) (ha : a ≠ .blank) : joinS (ts ++ [[41]]) = p ++ [41] := by
  rw [joinS_snoc]
  unfold joinStep
  rw [if_neg fun q => q.2.2 rfl]
  have h := F.ah
  cases a with
  | start =>
    obtain ⟨h1, h2⟩ := h
    rw [h1, h2]
    rfl
  | part => rw [h.1]
  | opn => rw [h.1]
  | blank => exact absurd rfl ha
theorem part_of {t : List Nat} {v : Tv} (h : readPart t = some v) : Part t ∧ t ≠ [40] ∧ t ≠ [41] := by
  obtain ⟨a, b, c⟩ := readPart_toks h
  have q := toks_part v b t (by rw [a]; exact List.mem_singleton.mpr rfl)
  obtain ⟨t', e, _, n1, n2⟩ := readPart_back b c
  rw [a] at e
  injection e with e _
  subst e
  exact ⟨q, n1, n2⟩
theorem last_part {t : List Nat} (h : Part t) (h1 : t ≠ [40]) : t.getLast? ≠ some 40 := by
  intro z
  rcases h with h | h | ⟨_, h⟩
  · exact h1 h
  · rw [h] at z
    cases z
  · exact (h 40 (List.mem_of_getLast? z)).2.1 rfl
theorem fit_read : ∀ (n : Nat) (p l : List Nat) (ts : List (List Nat)) (st : RS) (deep : Nat) (a : Ah) (whole : Nat), Fits p l ts st deep a whole → fit n l deep a whole = true → ∃ v, readM (p ++ l) = some v
  | 0, _, _, _, _, _, _, _, _, h => by cases h
  | n + 1, p, [], ts, st, deep, a, whole, F, h => by
    unfold fit at h
    rw [Bool.and_eq_true, decide_eq_true_iff, decide_eq_true_iff] at h
    obtain ⟨h1, h2⟩ := h
    obtain ⟨O, W⟩ := st
    have hO : O = [] := List.eq_nil_of_length_eq_zero (F.dp.trans h1)
    subst hO
    have hW : W.length = 1 := F.wh.trans h2
    obtain ⟨v, rfl⟩ : ∃ v, W = [v] := by
      match W, hW with
      | [v], _ => exact ⟨v, rfl⟩
    have hf := runR_flat F.run
    have ne : ts ≠ [] := fun e => by
      have := F.run
      rw [e] at this
      cases this
    have ep : p = joinS ts := by
      have h := F.ah
      cases a with
      | start => exact absurd h.1 ne
      | part => exact h.1
      | opn => exact h.1
      | blank => exact absurd h1 h.2.2.2
    rw [List.append_nil, ep]
    refine ⟨v, ?_⟩
    unfold readM
    rw [words_join F.good, F.run]
    show (if joinS ts = joinS ts then some v else none) = _
    rw [if_pos rfl]
  | n + 1, p, c :: r, ts, st, deep, a, whole, F, h => by
    unfold fit at h
    by_cases h32 : c = 32
    · rw [if_pos h32] at h
      by_cases hb : a ≠ .part ∨ deep = 0
      · rw [if_pos hb] at h
        cases h
      · rw [if_neg hb] at h
        have ha : a = .part := Classical.byContradiction fun q => hb (.inl q)
        subst ha
        have q := F.ah
        have := fit_read n (p ++ [32]) r ts st deep .blank whole ⟨F.run, F.good, F.dp, F.wh, ⟨by rw [q.1], by rw [← q.1]; exact q.2.1, by rw [← q.1]; exact q.2.2, fun z => hb (.inr z)⟩⟩ h
        rw [h32]
        rw [List.append_assoc] at this
        exact this
    · rw [if_neg h32] at h
      by_cases h41 : c = 41
      · rw [if_pos h41] at h
        by_cases hb : deep = 0 ∨ a = .blank
        · rw [if_pos hb] at h
          cases h
        · rw [if_neg hb] at h
          have hd : deep ≠ 0 := fun q => hb (.inl q)
          have ha : a ≠ .blank := fun q => hb (.inr q)
          obtain ⟨O, W⟩ := st
          have hne : O ≠ [] := fun z => hd (by rw [← F.dp, z]; rfl)
          obtain ⟨O2, lo, rfl⟩ : ∃ O2 lo, O = O2 ++ [lo] := ⟨_, _, (List.dropLast_concat_getLast hne).symm⟩
          have hs : stepR (O2 ++ [lo], W) [41] = some (O2, lo ++ [.tup W]) := by
            unfold stepR
            rw [if_neg (by decide), if_pos rfl]
            show (match (O2 ++ [lo]).getLast? with | none => none | some l => some ((O2 ++ [lo]).dropLast, l ++ [Tv.tup W])) = _
            rw [List.getLast?_concat, List.dropLast_concat]
          have dp : O2.length = deep - 1 := by
            have := F.dp
            rw [List.length_append] at this
            have : O2.length + 1 = deep := this
            omega
          have wh := F.wh
          rw [topN_snoc] at wh
          have ej := join_close F ha
          have := fit_read n (p ++ [41]) r (ts ++ [[41]]) (O2, lo ++ [.tup W]) (deep - 1) .part _ ⟨run_snoc F.run hs, fun t ht => (List.mem_append.mp ht).elim (F.good t) fun z => .inr (.inl (List.mem_singleton.mp z)), dp, ?_, ⟨ej.symm, by simp, by rw [List.getLast?_concat]; decide⟩⟩ h
          · rw [h41]
            rw [List.append_assoc] at this
            exact this
          · by_cases hO2 : O2 = []
            · subst hO2
              have e0 : deep - 1 = 0 := dp.symm
              rw [if_pos e0, topN_nil, List.length_append]
              rw [topN_nil] at wh
              show lo.length + 1 = _
              omega
            · have e0 : ¬ deep - 1 = 0 := fun q => hO2 (List.eq_nil_of_length_eq_zero (dp.trans q))
              rw [if_neg e0, topN_deep hO2 _ lo]
              exact wh
      · rw [if_neg h41] at h
        by_cases hb : a = .part ∨ (deep = 0 ∧ whole > 0)
        · rw [if_pos hb] at h
          cases h
        · rw [if_neg hb] at h
          have ha : a ≠ .part := fun q => hb (.inl q)
          by_cases h40 : c = 40
          · rw [if_pos h40] at h
            by_cases h12 : deep + 1 > 12
            · rw [if_pos h12] at h
              cases h
            · rw [if_neg h12] at h
              obtain ⟨O, W⟩ := st
              have hs : stepR (O, W) [40] = some (O ++ [W], []) := by
                unfold stepR
                rw [if_pos rfl, if_neg (by rw [show O.length = deep from F.dp]; exact h12)]
              have ej := join_at F ha (t := [40]) (by decide)
              have := fit_read n (p ++ [40]) r (ts ++ [[40]]) (O ++ [W], []) (deep + 1) .opn whole ⟨run_snoc F.run hs, fun t ht => (List.mem_append.mp ht).elim (F.good t) fun z => .inl (List.mem_singleton.mp z), by rw [List.length_append, show O.length = deep from F.dp]; rfl, by rw [topN_snoc]; exact F.wh, ⟨ej.symm, by rw [List.getLast?_concat]⟩⟩ h
              rw [h40]
              rw [List.append_assoc] at this
              exact this
          · rw [if_neg h40] at h
            cases hp : readPart (word (c :: r)) with
            | none =>
              rw [hp] at h
              cases h
            | some v =>
              rw [hp] at h
              have h' : fit n (rest (c :: r)) deep .part (whole + if deep = 0 then 1 else 0) = true := h
              obtain ⟨g1, g2, g3⟩ := part_of hp
              obtain ⟨O, W⟩ := st
              have hs : stepR (O, W) (word (c :: r)) = some (O, W ++ [v]) := by
                unfold stepR
                rw [if_neg g2, if_neg g3, hp]
              have ej := join_at F ha (t := word (c :: r)) g3
              have := fit_read n (p ++ word (c :: r)) (rest (c :: r)) (ts ++ [word (c :: r)]) (O, W ++ [v]) deep .part _ ⟨run_snoc F.run hs, fun t ht => (List.mem_append.mp ht).elim (F.good t) fun z => by rw [List.mem_singleton.mp z]; exact g1, F.dp, ?_, ⟨ej.symm, fun z => g1.ne (List.append_eq_nil_iff.mp z).2, ?_⟩⟩ h'
              · rw [List.append_assoc, word_rest] at this
                exact this
              · have wh := F.wh
                by_cases hO2 : O = []
                · subst hO2
                  have e0 : deep = 0 := F.dp.symm
                  rw [if_pos e0, topN_nil, List.length_append]
                  rw [topN_nil] at wh
                  show W.length + 1 = _
                  omega
                · have e0 : ¬ deep = 0 := fun q => hO2 (List.eq_nil_of_length_eq_zero (F.dp.trans q))
                  rw [if_neg e0, topN_deep hO2 _ W]
                  exact wh
              · rw [List.getLast?_append]
                cases q : (word (c :: r)).getLast? with
                | none => exact absurd (List.getLast?_eq_none_iff.mp q) g1.ne
                | some x =>
                  have := last_part g1 g2
                  rw [q] at this
                  exact this
  termination_by n => n
/-! ### what the parts tell, the signs fit -/
def restJ : Bool → List (List Nat) → List Nat
  | _, [] => []
  | b, t :: ts => (if b = true ∧ t ≠ [41] then [32] else []) ++ t ++ restJ (decide (t ≠ [40])) ts
theorem join_rest : ∀ (ts : List (List Nat)) (w : List Nat), (∀ t ∈ ts, Part t) → ts.foldl joinStep w = w ++ restJ (decide (w ≠ [] ∧ w.getLast? ≠ some 40)) ts
  | [], w, _ => (List.append_nil w).symm
  | t :: ts, w, h => by
    have ht := h t List.mem_cons_self
    have hne := ht.ne
    rw [List.foldl_cons, join_rest ts (joinStep w t) fun x hx => h x (List.mem_cons_of_mem _ hx)]
    have e : decide (joinStep w t ≠ [] ∧ (joinStep w t).getLast? ≠ some 40) = decide (t ≠ [40]) := by
      rw [Bool.eq_iff_iff, decide_eq_true_iff, decide_eq_true_iff, joinStep_last hne]
      constructor
      · exact fun q e => q.2 (by rw [e]; rfl)
      · exact fun q => ⟨joinStep_ne hne, last_part ht q⟩
    rw [e]
    show joinStep w t ++ _ = w ++ ((if decide (w ≠ [] ∧ w.getLast? ≠ some 40) = true ∧ t ≠ [41] then [32] else []) ++ t ++ restJ (decide (t ≠ [40])) ts)
    unfold joinStep
    by_cases c : w ≠ [] ∧ w.getLast? ≠ some 40 ∧ t ≠ [41]
    · rw [if_pos c, if_pos ⟨decide_eq_true ⟨c.1, c.2.1⟩, c.2.2⟩]
      simp only [List.append_assoc]
    · rw [if_neg c, if_neg fun q => c ⟨(of_decide_eq_true q.1).1, (of_decide_eq_true q.1).2, q.2⟩]
      simp only [List.append_assoc, List.nil_append]
theorem joinS_rest {ts : List (List Nat)} (h : ∀ t ∈ ts, Part t) : joinS ts = restJ false ts := by
  have := join_rest ts [] h
  rw [List.nil_append] at this
  exact this
def com (st : RS) : Nat := topN st + if st.1 = [] then 0 else 1
theorem com_step {st st' : RS} {t : List Nat} (h : stepR st t = some st') : com st ≤ com st' := by
  obtain ⟨O, W⟩ := st
  unfold stepR at h
  by_cases h1 : t = [40]
  · rw [if_pos h1] at h
    split at h
    · cases h
    · cases h
      unfold com
      rw [topN_snoc, if_neg (show ¬ O ++ [W] = [] by simp)]
      show topN (O, W) + (if O = [] then 0 else 1) ≤ topN (O, W) + 1
      split <;> omega
  · rw [if_neg h1] at h
    by_cases h2 : t = [41]
    · rw [if_pos h2] at h
      cases hl : O.getLast? with
      | none => rw [hl] at h; cases h
      | some l =>
        rw [hl] at h
        cases h
        have eO := dropLast_snoc hl
        generalize O.dropLast = O2 at *
        subst eO
        unfold com
        rw [topN_snoc, if_neg (show ¬ O2 ++ [l] = [] by simp)]
        by_cases hO2 : O2 = []
        · subst hO2
          rw [topN_nil, topN_nil, if_pos rfl, List.length_append]
          exact Nat.le_refl _
        · rw [if_neg hO2, topN_deep hO2 l (l ++ [.tup W])]
          exact Nat.le_refl _
    · rw [if_neg h2] at h
      cases hp : readPart t with
      | none => rw [hp] at h; cases h
      | some v =>
        rw [hp] at h
        cases h
        unfold com
        by_cases hO2 : O = []
        · subst hO2
          show W.length + 0 ≤ (W ++ [v]).length + 0
          rw [List.length_append]
          omega
        · show topN (O, W) + (if O = [] then 0 else 1) ≤ topN (O, W ++ [v]) + (if O = [] then 0 else 1)
          rw [topN_deep hO2 W (W ++ [v])]
          exact Nat.le_refl _
theorem com_run : ∀ {ts : List (List Nat)} {st s : RS}, runR ts st = some s → com st ≤ com s
  | [], st, s, h => by cases h; exact Nat.le_refl _
  | t :: ts, st, s, h => by
    have h' : (match stepR st t with | none => none | some s => runR ts s) = some s := h
    cases e : stepR st t with
    | none => rw [e] at h'; cases h'
    | some s1 =>
      rw [e] at h'
      exact Nat.le_trans (com_step e) (com_run h')
theorem sep_part {t : List Nat} {v : Tv} (h : readPart t = some v) : ∀ c ∈ t, sep c = false := by
  obtain ⟨g1, g2, g3⟩ := part_of h
  intro c hc
  rcases g1 with z | z | ⟨_, z⟩
  · exact absurd z g2
  · exact absurd z g3
  · obtain ⟨z1, z2, z3⟩ := z c hc
    have n32 : c ≠ 32 := fun e => by rw [e, space32] at z1; cases z1
    unfold sep
    rw [beq_eq_false_iff_ne.mpr n32, beq_eq_false_iff_ne.mpr z2, beq_eq_false_iff_ne.mpr z3]
    rfl
theorem word_app : ∀ {t x : List Nat}, (∀ c ∈ t, sep c = false) → (∀ c, x.head? = some c → sep c = true) → word (t ++ x) = t ∧ rest (t ++ x) = x
  | [], x, _, hx => by
    cases x with
    | nil => exact ⟨rfl, rfl⟩
    | cons c r =>
      have := hx c rfl
      unfold word rest
      constructor
      · show List.takeWhile _ (c :: r) = []
        rw [List.takeWhile_cons, this]
        rfl
      · show List.dropWhile _ (c :: r) = _
        rw [List.dropWhile_cons, this]
        rfl
  | c :: t, x, h, hx => by
    obtain ⟨h1, h2⟩ := word_app (t := t) (x := x) (fun d hd => h d (List.mem_cons_of_mem _ hd)) hx
    have hc := h c List.mem_cons_self
    unfold word rest at *
    constructor
    · show List.takeWhile _ (c :: (t ++ x)) = _
      rw [List.takeWhile_cons, hc]
      show c :: List.takeWhile _ (t ++ x) = _
      rw [h1]
    · show List.dropWhile _ (c :: (t ++ x)) = _
      rw [List.dropWhile_cons, hc]
      exact h2
theorem restJ_head {ts : List (List Nat)} : ∀ c, (restJ true ts).head? = some c → sep c = true := by
  cases ts with
  | nil => intro c h; cases h
  | cons t ts =>
    intro c h
    by_cases e : t = [41]
    · subst e
      have h' : some 41 = some c := h
      cases h'
      rfl
    · have e2 : restJ true (t :: ts) = 32 :: (t ++ restJ (decide (t ≠ [40])) ts) := by
        show (if true = true ∧ t ≠ [41] then [32] else []) ++ t ++ _ = _
        rw [if_pos ⟨rfl, e⟩]
        rfl
      rw [e2] at h
      cases h
      rfl
theorem restJ_close (b : Bool) (ts : List (List Nat)) : restJ b ([41] :: ts) = 41 :: restJ true ts := by
  show (if b = true ∧ [41] ≠ [41] then [32] else []) ++ [41] ++ restJ (decide (([41] : List Nat) ≠ [40])) ts = _
  rw [if_neg fun q => q.2 rfl]
  rfl
/-- one turn for a part that is no closing sign, behind what is no part -/
theorem read_fit {v : Tv} : ∀ (ts : List (List Nat)) (st : RS) (deep : Nat) (a : Ah) (whole n : Nat), runR ts st = some ([], [v]) → st.1.length = deep → topN st = whole → a ≠ .blank → (a = .part → deep = 0 → 1 ≤ whole) → (restJ (decide (a = .part)) ts).length < n →
    fit n (restJ (decide (a = .part)) ts) deep a whole = true
  | [], st, deep, a, whole, n, hr, hd, hw, _, _, hn => by
    cases hr
    obtain ⟨m, rfl⟩ : ∃ m, n = m + 1 := ⟨n - 1, by omega⟩
    have h1 : deep = 0 := hd.symm
    have h2 : whole = 1 := hw.symm
    show (decide (deep = 0) && decide (whole = 1)) = true
    rw [decide_eq_true h1, decide_eq_true h2]
    rfl
  | t :: ts, st, deep, a, whole, n, hr, hd, hw, hnb, hpw, hn => by
    have hr' : (match stepR st t with | none => none | some s => runR ts s) = some ([], [v]) := hr
    cases e : stepR st t with
    | none => rw [e] at hr'; cases hr'
    | some s1 =>
      rw [e] at hr'
      have hr1 : runR ts s1 = some ([], [v]) := hr'
      have hcom : com s1 ≤ 1 := com_run hr1
      obtain ⟨O, W⟩ := st
      have hd' : O.length = deep := hd
      by_cases h41 : t = [41]
      · subst h41
        rw [restJ_close] at hn ⊢
        obtain ⟨m, rfl⟩ : ∃ m, n = m + 1 := ⟨n - 1, by omega⟩
        rw [List.length_cons] at hn
        unfold stepR at e
        rw [if_neg (by decide), if_pos rfl] at e
        cases hl : O.getLast? with
        | none => rw [hl] at e; cases e
        | some lo =>
          rw [hl] at e
          cases e
          have eO := dropLast_snoc hl
          generalize O.dropLast = O2 at *
          subst eO
          have ld : O2.length + 1 = deep := by
            rw [List.length_append] at hd'
            exact hd'
          rw [topN_snoc] at hw
          unfold fit
          rw [if_neg (by decide), if_pos rfl, if_neg (fun q => q.elim (fun z => by omega) hnb)]
          refine read_fit ts (O2, lo ++ [.tup W]) (deep - 1) .part _ m hr1 (by show O2.length = _; omega) ?_ (by decide) (fun _ z => ?_) ?_
          · by_cases hO2 : O2 = []
            · subst hO2
              have e0 : deep - 1 = 0 := by rw [← ld]; rfl
              rw [if_pos e0, topN_nil, List.length_append]
              rw [topN_nil] at hw
              show lo.length + 1 = _
              omega
            · have e0 : ¬ deep - 1 = 0 := fun q => hO2 (List.eq_nil_of_length_eq_zero (by omega))
              rw [if_neg e0, topN_deep hO2 _ lo]
              exact hw
          · rw [if_pos z]
            omega
          · show (restJ true ts).length < m
            omega
      · -- what is read behind a blank
        have body : ∀ (a' : Ah) (m : Nat), a' ≠ .part → (t ++ restJ (decide (t ≠ [40])) ts).length < m → fit m (t ++ restJ (decide (t ≠ [40])) ts) deep a' whole = true := by
          intro a' m ha' hm
          obtain ⟨m, rfl⟩ : ∃ k, m = k + 1 := ⟨m - 1, by omega⟩
          unfold stepR at e
          by_cases h40 : t = [40]
          · subst h40
            rw [if_pos rfl] at e
            split at e
            · cases e
            · rename_i h12
              cases e
              have h12' : ¬ deep + 1 > 12 := by rw [← hd']; exact h12
              have hno : ¬ (deep = 0 ∧ whole > 0) := fun ⟨z1, z2⟩ => by
                have hO : O = [] := List.eq_nil_of_length_eq_zero (hd'.trans z1)
                subst hO
                have hc2 : W.length + 1 ≤ 1 := hcom
                have hw2 : W.length = whole := hw
                omega
              show fit (m + 1) (40 :: restJ false ts) deep a' whole = true
              unfold fit
              rw [if_neg (by decide), if_neg (by decide), if_neg (fun q => q.elim ha' hno), if_pos rfl, if_neg h12']
              refine read_fit ts (O ++ [W], []) (deep + 1) .opn whole m hr1 ?_ (by rw [topN_snoc]; exact hw) (by decide) (fun z => by cases z) ?_
              · rw [List.length_append]
                show O.length + 1 = _
                omega
              · have : ([40] ++ restJ false ts).length < m + 1 := hm
                rw [List.length_append] at this
                show (restJ false ts).length < m
                have : 1 + (restJ false ts).length < m + 1 := this
                omega
          · rw [if_neg h40, if_neg h41] at e
            cases hp : readPart t with
            | none => rw [hp] at e; cases e
            | some u =>
              rw [hp] at e
              cases e
              rw [decide_eq_true h40] at hm ⊢
              obtain ⟨w1, w2⟩ := word_app (x := restJ true ts) (sep_part hp) restJ_head
              obtain ⟨g1, _, _⟩ := part_of hp
              obtain ⟨c, r, rfl⟩ : ∃ c r, t = c :: r := by
                cases t with
                | nil => exact absurd rfl g1.ne
                | cons c r => exact ⟨c, r, rfl⟩
              have hsc := sep_part hp c List.mem_cons_self
              have n32 : c ≠ 32 := fun z => by rw [z] at hsc; cases hsc
              have n41 : c ≠ 41 := fun z => by rw [z] at hsc; cases hsc
              have n40 : c ≠ 40 := fun z => by rw [z] at hsc; cases hsc
              have hno : ¬ (deep = 0 ∧ whole > 0) := fun ⟨z1, z2⟩ => by
                have hO : O = [] := List.eq_nil_of_length_eq_zero (hd'.trans z1)
                subst hO
                unfold com at hcom
                rw [topN_nil, if_pos rfl, List.length_append] at hcom
                rw [topN_nil] at hw
                have : W.length + 1 + 0 ≤ 1 := hcom
                omega
              show fit (m + 1) (c :: (r ++ restJ true ts)) deep a' whole = true
              unfold fit
              rw [if_neg n32, if_neg n41, if_neg (fun q => q.elim ha' hno), if_neg n40]
              rw [show word (c :: (r ++ restJ true ts)) = c :: r from w1, show rest (c :: (r ++ restJ true ts)) = restJ true ts from w2, hp]
              rw [if_neg (by simp)]
              refine read_fit ts (O, W ++ [u]) deep .part _ m hr1 hd' ?_ (by decide) (fun _ z => by rw [if_pos z]; omega) ?_
              · by_cases hO2 : O = []
                · subst hO2
                  have e0 : deep = 0 := hd'.symm
                  rw [if_pos e0, topN_nil, List.length_append]
                  rw [topN_nil] at hw
                  show W.length + 1 = _
                  omega
                · have e0 : ¬ deep = 0 := fun q => hO2 (List.eq_nil_of_length_eq_zero (hd'.trans q))
                  rw [if_neg e0, topN_deep hO2 _ W]
                  exact hw
              · have : (c :: r ++ restJ true ts).length < m + 1 := hm
                rw [List.length_append, List.length_cons] at this
                show (restJ true ts).length < m
                omega
        by_cases ha : a = .part
        · subst ha
          have e2 : restJ (decide (Ah.part = .part)) (t :: ts) = 32 :: (t ++ restJ (decide (t ≠ [40])) ts) := by
            show (if decide (Ah.part = .part) = true ∧ t ≠ [41] then [32] else []) ++ t ++ _ = _
            rw [if_pos ⟨rfl, h41⟩]
            rfl
          rw [e2] at hn ⊢
          obtain ⟨m, rfl⟩ : ∃ m, n = m + 1 := ⟨n - 1, by omega⟩
          have hdn : deep ≠ 0 := fun z => by
            have w1 := hpw rfl z
            have hO : O = [] := List.eq_nil_of_length_eq_zero (hd'.trans z)
            subst hO
            rw [topN_nil] at hw
            unfold stepR at e
            by_cases h40 : t = [40]
            · rw [if_pos h40] at e
              split at e
              · cases e
              · cases e
                have hc2 : W.length + 1 ≤ 1 := hcom
                have hw2 : W.length = whole := hw
                omega
            · rw [if_neg h40, if_neg h41] at e
              cases hp : readPart t with
              | none => rw [hp] at e; cases e
              | some u =>
                rw [hp] at e
                cases e
                unfold com at hcom
                rw [topN_nil, if_pos rfl, List.length_append] at hcom
                have : W.length + 1 + 0 ≤ 1 := hcom
                omega
          unfold fit
          rw [if_pos rfl, if_neg (fun q => q.elim (fun z => z rfl) hdn)]
          refine body .blank m (by decide) ?_
          rw [List.length_cons] at hn
          omega
        · have e2 : restJ (decide (a = .part)) (t :: ts) = t ++ restJ (decide (t ≠ [40])) ts := by
            show (if decide (a = .part) = true ∧ t ≠ [41] then [32] else []) ++ t ++ _ = _
            rw [decide_eq_false ha, if_neg (fun q => by cases q.1)]
            rfl
          rw [e2] at hn ⊢
          exact body a n ha hn
/-- the law's own reading takes just what is read -/
theorem fit_iff (l : List Nat) : fit (l.length + 1) l 0 .start 0 = (readM l).isSome := by
  rw [Bool.eq_iff_iff, Option.isSome_iff_exists]
  constructor
  · intro h
    have := fit_read (l.length + 1) [] l [] ([], []) 0 .start 0 ⟨rfl, fun _ h => (List.not_mem_nil h).elim, rfl, rfl, rfl, rfl⟩ h
    rw [List.nil_append] at this
    exact this
  · rintro ⟨v, h⟩
    obtain ⟨ok, ht, hl, hr⟩ := read_some h
    have el : l = restJ false (toks v) := by
      rw [← joinS_rest (toks_part v ok)]
      exact hl.symm
    rw [← ht] at hr
    have := read_fit (toks v) ([], []) 0 .start 0 (l.length + 1) hr rfl rfl (by decide) (fun z => by cases z) (by
      show (restJ false (toks v)).length < _
      rw [← el]
      exact Nat.lt_succ_self _)
    have e2 : restJ (decide (Ah.start = .part)) (toks v) = l := el.symm
    rw [e2] at this
    exact this
/-! ### telling of a tuple -/
theorem restJ_toks : ∀ (v : Tv) (b : Bool) (ts : List (List Nat)), Ok v → restJ b (toks v ++ ts) = (if b = true then [32] else []) ++ tellM v ++ restJ true ts := by
  have key : ∀ (xs : List (List Nat)) (b : Bool) (ts : List (List Nat)), xs ≠ [] → xs.head? ≠ some [41] → xs.getLast? ≠ some [40] → restJ b (xs ++ ts) = (if b = true then [32] else []) ++ restJ false xs ++ restJ true ts := by
    intro xs
    induction xs with
    | nil => intro b ts h; exact absurd rfl h
    | cons x xs ih =>
      intro b ts _ h41 h40
      have hx : x ≠ [41] := fun z => h41 (by rw [z]; rfl)
      show (if b = true ∧ x ≠ [41] then [32] else []) ++ x ++ restJ (decide (x ≠ [40])) (xs ++ ts) = (if b = true then [32] else []) ++ ((if false = true ∧ x ≠ [41] then [32] else []) ++ x ++ restJ (decide (x ≠ [40])) xs) ++ restJ true ts
      have e1 : (if b = true ∧ x ≠ [41] then [32] else []) = (if b = true then [32] else [] : List Nat) := by
        cases b
        · rw [if_neg (fun q => by cases q.1), if_neg (fun q => by cases q)]
        · rw [if_pos ⟨rfl, hx⟩, if_pos rfl]
      have e2 : (if false = true ∧ x ≠ [41] then [32] else [] : List Nat) = [] := if_neg fun q => by cases q.1
      rw [e1, e2, List.nil_append]
      have e3 : restJ (decide (x ≠ [40])) (xs ++ ts) = restJ (decide (x ≠ [40])) xs ++ restJ true ts := by
        cases xs with
        | nil =>
          have : x ≠ [40] := fun z => h40 (by rw [z]; rfl)
          rw [decide_eq_true this]
          rfl
        | cons y ys =>
          -- the same gaps behind the first
          have gen : ∀ (zs : List (List Nat)) (b : Bool) (ts : List (List Nat)), zs ≠ [] → zs.getLast? ≠ some [40] → restJ b (zs ++ ts) = restJ b zs ++ restJ true ts := by
            intro zs
            induction zs with
            | nil => intro b ts h; exact absurd rfl h
            | cons z zs ihz =>
              intro b ts _ hl
              show (if b = true ∧ z ≠ [41] then [32] else []) ++ z ++ restJ (decide (z ≠ [40])) (zs ++ ts) = (if b = true ∧ z ≠ [41] then [32] else []) ++ z ++ restJ (decide (z ≠ [40])) zs ++ restJ true ts
              cases zs with
              | nil =>
                have : z ≠ [40] := fun q => hl (by rw [q]; rfl)
                rw [decide_eq_true this]
                show _ ++ restJ true ts = _ ++ [] ++ restJ true ts
                rw [List.append_nil]
              | cons y ys =>
                rw [ihz (decide (z ≠ [40])) ts (by simp) (by rw [List.getLast?_cons_cons] at hl; exact hl)]
                simp only [List.append_assoc]
          exact gen (y :: ys) _ ts (by simp) (by rw [List.getLast?_cons_cons] at h40; exact h40)
      rw [e3]
      simp only [List.append_assoc]
  intro v b ts ok
  have hp := toks_part v ok
  rw [key (toks v) b ts ?_ ?_ ?_]
  · unfold tellM
    rw [joinS_rest hp]
  · intro z
    have := toks_pos v
    rw [z] at this
    exact absurd this (by decide)
  · cases v with
    | non => decide
    | int n =>
      intro z
      have z' : some (numT n) = some [41] := z
      exact absurd (numT_numB (show n.natAbs < 10 ^ 100 from ok)).1 (by rw [Option.some.inj z']; decide)
    | str s =>
      intro z
      have z' : some s = some [41] := z
      have hs : letters s := ok
      rw [Option.some.inj z'] at hs
      exact absurd (hs.2 41 (by decide)) (by decide)
    | tup vs =>
      intro z
      have z' : some ([40] : List Nat) = some [41] := z
      cases z'
  · cases v with
    | non => decide
    | int n =>
      intro z
      have z' : some (numT n) = some [40] := z
      exact absurd (numT_numB (show n.natAbs < 10 ^ 100 from ok)).1 (by rw [Option.some.inj z']; decide)
    | str s =>
      intro z
      have z' : some s = some [40] := z
      have hs : letters s := ok
      rw [Option.some.inj z'] at hs
      exact absurd (hs.2 40 (by decide)) (by decide)
    | tup vs =>
      intro z
      have z' : ([40] :: (toksL vs ++ [[41]])).getLast? = some [40] := z
      rw [← List.cons_append, List.getLast?_concat] at z'
      cases z'
theorem tell_tup : ∀ (vs : List Tv), OkL vs → tellM (.tup vs) = [40] ++ joinL [32] (vs.map tellM) ++ [41] := by
  intro vs ok
  have h1 : tellM (.tup vs) = restJ false ([40] :: (toksL vs ++ [[41]])) := joinS_rest (toks_part (.tup vs) ok)
  rw [h1]
  show (if false = true ∧ ([40] : List Nat) ≠ [41] then [32] else []) ++ [40] ++ restJ false (toksL vs ++ [[41]]) = _
  rw [if_neg (fun q => by cases q.1)]
  have gen : ∀ (vs : List Tv) (b : Bool), OkL vs → vs ≠ [] → restJ b (toksL vs ++ [[41]]) = (if b = true then [32] else []) ++ joinL [32] (vs.map tellM) ++ [41] := by
    intro vs
    induction vs with
    | nil => intro b _ h; exact absurd rfl h
    | cons v vs ih =>
      intro b ok _
      show restJ b (toks v ++ toksL vs ++ [[41]]) = _
      rw [List.append_assoc, restJ_toks v b _ ok.1]
      cases vs with
      | nil =>
        show _ ++ tellM v ++ restJ true ([] ++ [[41]]) = _ ++ tellM v ++ [41]
        rw [List.nil_append, restJ_close]
        rfl
      | cons u us =>
        rw [ih true ok.2 (by simp), if_pos rfl]
        show _ ++ tellM v ++ ([32] ++ joinL [32] ((u :: us).map tellM) ++ [41]) = _ ++ (tellM v ++ ([32] ++ joinL [32] ((u :: us).map tellM))) ++ [41]
        simp only [List.append_assoc]
  cases vs with
  | nil => rfl
  | cons v vs =>
    rw [gen (v :: vs) false ok (by simp), if_neg (fun q => by cases q)]
    simp only [List.append_assoc, List.nil_append]
end L2.MT
/-! texts: list(text), comprehensions over a text; values of tellings in the heap -/
namespace L2.KK
open PySem PySem.Spec PyProof.Rows C8 SX
/-- the signs of a text, each a text -/
def sgV (l : List Nat) : List V := l.map fun c => V.str (S [c])
section
variable {X : Cx} {K : PySem.W.Frag} {H H1 : Hp} {D : Addr} {σ : St} {k : Nat} {tt : TT} {te : TE} {Qd : Hp → Prop} {sel : Nat → Bool} {P : Nat → V → Hp → Prop}
/-- list(text) -/
theorem crListS (hc : X.calm = true := by rfl) : CallR X (.type "list") (fun xs H Q => ∃ l : List Nat, xs = [.str (S l)] ∧ l.length ≤ sizeLine ∧ ∀ q, H q = none → Q (.ref q) (upd H q (.lst (sgV l)))) := by
  intro pins s σ H xs us Q I r h
  obtain ⟨l, rfl, hz, q⟩ := h
  obtain ⟨u, rfl, t, rfl⟩ := vals1 r
  refine PySem.call_list_str (I.ok.hd hc) (S l) t (fun h' tk acc c' kp e hi => ?_) (by simpa [Str.length] using hz)
  have hl : (sgV l).length = acc.toList.length := by
    unfold sgV
    rw [List.length_map]
    have e1 : acc.toList.length = (S l).cps.size := by rw [Array.length_toList]; exact hi.1
    rw [e1]
    simp
  refine ⟨.ref s.heap.objs.size, upd H s.heap.objs.size (.lst (sgV l)), I.laid kp (Nat.le_refl _) (show ObjOk X.prog X.w _ _ _ (.lst (sgV l)) from ⟨by unfold sgV; rw [List.length_map]; exact hz, acc.toList, c', ?_, by rw [Array.toArray_toList]; exact e⟩), rfl, q _ (I.hok.fresh (Nat.le_refl _))⟩
  refine vals_of_at hl fun j x u h1 h2 => ?_
  obtain ⟨c, v, hc2, rfl⟩ := hi.2 j u (by rw [← Array.getElem?_toList]; exact h2)
  unfold sgV at h1
  rw [List.getElem?_map] at h1
  have e2 : l[j]? = some c := by simpa using hc2
  rw [e2] at h1
  cases h1
  exact ⟨v, rfl⟩
/-- a comprehension over a text, its turns changing nothing that stood -/
theorem lc_strT {l : List Nat} (T : Turns H σ k (fun i => .str (S [l.getD i 0])) l.length tt te sel P) (hD : H D = none) (hz : l.length ≤ sizeLine)
    (hd : ∀ H' ys, Same H H' → H' D = some (.lst ys) → ys.length ≤ l.length → Paired (fun y j => P j y H') ys ((List.range l.length).filter sel) → Qd H') :
    ∃ W : Nat → Nat → Hp → Prop, (∃ m, W 0 m (upd H D (.lst []))) ∧ ∀ i m H, W i m H →
      ((Its (S l)).stop i H ∧ Qd H) ∨ ((Its (S l)).go i H ∧ ∃ Nx : Hp → Prop, (∀ H', Nx H' → ∃ m', m' < m ∧ W (i + 1) m' H') ∧ ∀ x H', (Its (S l)).yld i H x H' → gName k x (wipe σ [k]) H' fun σ2 H2 => wipe σ2 [k] = wipe σ [k] ∧ tt σ2 H2 fun b H3 =>
        if b = true then te σ2 H3 fun y H4 => ∃ acc, H4 D = some (.lst acc) ∧ acc.length < sizeLine ∧ Nx (upd H4 D (.lst (acc ++ [y]))) else Nx H3) := by
  have e : (S l).cps.size = l.length := by simp
  have w : Walk (Its (S l)) l.length (fun _ => True) (fun i H v H' => H' = H ∧ ∃ c, (S l).cps[i]? = some c ∧ v = .str ⟨#[c]⟩) := by
    rw [← e]
    exact walk_str
  exact lc_itT w (fun i H x H' hi y => ⟨y.1, by
    obtain ⟨c, hc, rfl⟩ := y.2
    have e2 : l[i]? = some c := by simpa using hc
    rw [List.getD_eq_getElem?_getD, e2]
    rfl⟩) (fun _ _ => trivial) T hD hz hd
end
/-! ### what a list that changes leaves -/
section
variable {K : PySem.W.Frag} {H H' H2 : Hp} {a : Addr} {xs : List V}
theorem sameT_refl (H : Hp) : SameT H H := fun _ _ h _ => h
theorem sameT_trans (a : SameT H H') (b : SameT H' H2) : SameT H H2 := fun c o h n => b c o (a c o h n) n
theorem seqT_T (e : SameT H H') (h : SqT K H a xs) : SqT K H' a xs := by
  rcases h with (h | ⟨o, h⟩) | h
  · exact .inl (.inl (e _ _ h trivial))
  · exact .inl (.inr ⟨o, e _ _ h trivial⟩)
  · exact .inr h
theorem sameT_new {p : Addr} {o : HO} (e : SameT H H') (h : H p = none) : SameT H (upd H' p o) := fun b u q n => by
  rw [upd_ne (ne_of_none q h)]
  exact e b u q n
/-- Same, but for the lists at some addresses -/
theorem sameT_upd {p : Addr} {xs ys : List V} (h : H p = some (.lst xs)) : SameT H (upd H p (.lst ys)) := sameT_lst h
end
/-! ### values -/
open MT (Tv)
mutual
def TvAt (K : PySem.W.Frag) (H : Hp) : V → Tv → Prop
  | y, .non => y = .non
  | y, .int n => y = .int n
  | y, .str s => y = .str (S s)
  | y, .tup vs => ∃ a ys, y = .ref a ∧ SqT K H a ys ∧ TvAts K H ys vs
def TvAts (K : PySem.W.Frag) (H : Hp) : List V → List Tv → Prop
  | [], [] => True
  | y :: ys, v :: vs => TvAt K H y v ∧ TvAts K H ys vs
  | _, _ => False
end
mutual
theorem TvAt.step {K : PySem.W.Frag} {H H' : Hp} (e : SameT H H') : ∀ (v : Tv) (y : V), TvAt K H y v → TvAt K H' y v
  | .non, _, h => by simp only [TvAt] at h ⊢; exact h
  | .int _, _, h => by simp only [TvAt] at h ⊢; exact h
  | .str _, _, h => by simp only [TvAt] at h ⊢; exact h
  | .tup vs, _, h => by
    simp only [TvAt] at h ⊢
    obtain ⟨a, ys, h1, h2, h3⟩ := h
    exact ⟨a, ys, h1, seqT_T e h2, TvAts.step e vs ys h3⟩
theorem TvAts.step {K : PySem.W.Frag} {H H' : Hp} (e : SameT H H') : ∀ (vs : List Tv) (ys : List V), TvAts K H ys vs → TvAts K H' ys vs
  | [], [], _ => by simp only [TvAts]
  | v :: vs, y :: ys, h => by
    simp only [TvAts] at h ⊢
    exact ⟨TvAt.step e v y h.1, TvAts.step e vs ys h.2⟩
  | [], _ :: _, h => by simp only [TvAts] at h
  | _ :: _, [], h => by simp only [TvAts] at h
end
section
variable {K : PySem.W.Frag} {H H' : Hp}
theorem TvAts.pr : ∀ {ys : List V} {vs : List Tv}, TvAts K H ys vs ↔ Paired (TvAt K H) ys vs
  | [], [] => by simp only [TvAts]; exact ⟨fun _ => .nil, fun _ => trivial⟩
  | y :: ys, v :: vs => by
    simp only [TvAts]
    rw [TvAts.pr (ys := ys)]
    exact ⟨fun h => .cons h.1 h.2, fun h => by cases h with | cons a b => exact ⟨a, b⟩⟩
  | [], _ :: _ => by simp only [TvAts]; exact ⟨fun h => h.elim, fun h => nomatch h⟩
  | _ :: _, [] => by simp only [TvAts]; exact ⟨fun h => h.elim, fun h => nomatch h⟩
theorem tvAt_non {y : V} : TvAt K H y .non ↔ y = .non := by simp only [TvAt]
theorem tvAt_int {y : V} {n : Int} : TvAt K H y (.int n) ↔ y = .int n := by simp only [TvAt]
theorem tvAt_str {y : V} {s : List Nat} : TvAt K H y (.str s) ↔ y = .str (S s) := by simp only [TvAt]
theorem tvAt_tup {y : V} {vs : List Tv} : TvAt K H y (.tup vs) ↔ ∃ a ys, y = .ref a ∧ SqT K H a ys ∧ Paired (TvAt K H) ys vs := by simp only [TvAt, TvAts.pr]
theorem prT {ys : List V} {vs : List Tv} (e : SameT H H') (h : Paired (TvAt K H) ys vs) : Paired (TvAt K H') ys vs := TvAts.pr.mp (TvAts.step e vs ys (TvAts.pr.mpr h))
theorem prT_rev {α β : Type} {F : α → β → Prop} : ∀ {ys : List α} {vs : List β}, Paired F ys vs → Paired F ys.reverse vs.reverse
  | _, _, .nil => .nil
  | _, _, .cons r t => by
    rw [List.reverse_cons, List.reverse_cons]
    exact paired_append (prT_rev t) (.cons r .nil)
theorem pr_snoc {α β : Type} {F : α → β → Prop} {ys : List α} {vs : List β} {v : β} (h : Paired F ys (vs ++ [v])) : ∃ zs z, ys = zs ++ [z] ∧ Paired F zs vs ∧ F z v := by
  have q := prT_rev h
  rw [List.reverse_append] at q
  cases hr : ys.reverse with
  | nil => rw [hr] at q; cases q
  | cons z r =>
    rw [hr] at q
    cases q with
    | cons a b =>
      refine ⟨r.reverse, z, ?_, ?_, a⟩
      · have := congrArg List.reverse hr
        rw [List.reverse_reverse, List.reverse_cons] at this
        exact this
      · have q2 : Paired F r vs.reverse := b
        have q3 := prT_rev q2
        rw [List.reverse_reverse] at q3
        exact q3
end
end L2.KK
/-! one sign, so many times; a slice between two places -/
namespace L2.KK
open PySem PySem.Spec PyProof.Rows C8 SX
theorem rep_sign (c : Nat) : ∀ (n : Nat) (a : Array Nat), ((List.replicate n (#[c] : Array Nat)).foldl (· ++ ·) a).toList = a.toList ++ List.replicate n c
  | 0, a => by
    rw [List.replicate_zero, List.foldl_nil, List.replicate_zero, List.append_nil]
  | n + 1, a => by
    rw [List.replicate_succ, List.foldl_cons, rep_sign c n, Array.toList_append, List.append_assoc, List.replicate_succ]
    rfl
theorem op_mulS {X : Cx} : OpR X (binaryOp .Mult) (fun x y H Q => ∃ (c n : Nat), x = .str (S [c]) ∧ y = .int (n : Int) ∧ 2 ≤ n ∧ n ≤ 1000000 ∧ Q (.str (S (List.replicate n c))) H) := by
  intro pins s σ H x y v u Q I rx ry ⟨c, n, e1, e2, h1, h2, q⟩
  subst e1 e2
  obtain ⟨t, rfl⟩ := rx
  obtain ⟨t2, rfl⟩ := ry
  have l1 : (S [c]).length = 1 := rfl
  refine PySem.P.mul_str (by rw [decide_eq_false (by omega), decide_eq_false (by omega)]; rfl) (fun _ _ => ?_) (fun _ _ => ?_) ?_
  · rw [l1]
    have : (1 : Int) ≤ (2 ^ 63 - 1) / (n : Int) := Int.le_ediv_of_mul_le (by omega) (by omega)
    omega
  · rw [l1, Int.toNat_natCast, Nat.one_mul]
    unfold Builtin.Str.tooLong
    rw [sizeLine_eq]
    exact decide_eq_false (by omega)
  · rw [if_neg (by omega : ¬ (n : Int) < 1), l1]
    have e : ((n : Int) == 1 || 1 == 0) = false := by
      rw [Bool.or_eq_false_iff]
      exact ⟨beq_eq_false_iff_ne.mpr (by omega), rfl⟩
    rw [e, if_neg Bool.false_ne_true, Int.toNat_natCast]
    have e2 : (⟨(List.replicate n (S [c]).cps).foldl (· ++ ·) #[]⟩ : Str) = S (List.replicate n c) := by
      apply TL.ext_tl
      show ((List.replicate n (#[c] : Array Nat)).foldl (· ++ ·) #[]).toList = _
      rw [rep_sign]
      rfl
    rw [e2]
    refine ⟨?_, .str (S (List.replicate n c)), H, I.tok _, ⟨_, rfl⟩, q⟩
    rw [S_len, List.length_replicate, sizeLine_eq]
    omega
theorem slice_two {a : List Nat} {i j : Nat} (h : i ≤ j) (h2 : j ≤ a.length) : Txt.slice (S a) (some (i : Int)) (some (j : Int)) = S ((a.drop i).take (j - i)) := by
  have e := StrLaws.sliceText_plain (x := S a) (i := (i : Int)) (j := (j : Int)) ⟨by omega, by omega, by show (j : Int) ≤ (a.length : Int); omega⟩
  have e2 : cutS (S a) (some (i : Int)) (some (j : Int)) = Txt.slice (S a) (some (i : Int)) (some (j : Int)) := cutS_slice _ _ _
  rw [← e2, ← sliceText_cut, e]
  rw [Int.toNat_natCast, show ((j : Int) - (i : Int)).toNat = j - i by omega]
end L2.KK
namespace L2.KK
open PySem PySem.Spec PyProof.Rows C8
theorem sc_law_pick : FnScope ["d", "row"] ["d", "row"] (defScope s_law_pick) := ⟨rfl, rfl, rfl, by decide +kernel, rfl, by decide +kernel, by decide +kernel⟩
section
variable {P : Program} {w : World} {K : PySem.W.Frag} {mg : Str → Option Value} {base : Heap}
abbrev nL (xs : List Nat) : List V := xs.map nV
theorem nL_get {xs : List Nat} {i : Nat} (h : i < xs.length) : (nL xs)[i]? = some (nV xs[i]) := by
  rw [List.getElem?_map, List.getElem?_eq_getElem h]
  rfl
/-! ### drawn things -/
def spRare : Sp := fun vs H Q _ => ∃ (d c : Addr) (m : Int), vs = [.ref d, .int m] ∧ Dr H d c ∧ 1 ≤ m ∧ m < 1073741824 ∧ ∀ (b : Bool) H', Dr H' d c → Kp d H H' → Q (.bl b) H'
def spPick : Sp := fun vs H Q _ => ∃ (d c a : Addr) (xs : List V), vs = [.ref d, .ref a] ∧ Dr H d c ∧ H a = some (.lst xs) ∧ a ≠ d ∧ a ≠ c ∧ 0 < xs.length ∧ xs.length ≤ 100000 ∧
  ∀ (i : Nat) (v : V) H', xs[i]? = some v → Dr H' d c → Kp d H H' → Q v H'
def spPop : Sp := fun vs H Q _ => ∃ (d c a : Addr) (xs : List V), vs = [.ref d, .ref a] ∧ Dr H d c ∧ H a = some (.lst xs) ∧ a ≠ d ∧ a ≠ c ∧ 0 < xs.length ∧ xs.length ≤ 100000 ∧
  ∀ (i : Nat) (v : V) H', xs[i]? = some v → Dr H' d c → H' a = some (.lst (xs.eraseIdx i)) → (∀ b o, H b = some o → b ≠ d → b ≠ a → H' b = some o) → Q v H'
def spShuf (K : PySem.W.Frag) : Sp := fun vs H Q _ => ∃ (d c a : Addr) (xs : List V), vs = [.ref d, .ref a] ∧ Dr H d c ∧ SqL K H a xs ∧ xs.length ≤ 100000 ∧
  ∀ (p : Addr) (ys : List V) H', ys.Perm xs → H p = none → H' p = some (.lst ys) → Dr H' d c → Kp d H H' → Q (.ref p) H'
theorem c_pick (D : FnAt K mg "_law_pick" s_law_pick) (T : Bl mg) (c_law_draw : Cal P w K mg base 1 "_law_draw" spDraw []) : Cal P w K mg base 2 "_law_pick" spPick [] := by
  refine calOf D sc_law_pick (fun _ _ _ _ _ _ us hl => match us, hl with | [_, _], _ => rfl) (fun vs H Q E h => ?_) (fun f cdv A outer s H vs Q E hr h => ?_)
  · obtain ⟨d, c, a, xs, rfl, _⟩ := h
    rfl
  · obtain ⟨d, c, a, xs, rfl, D, ha, ne, nc, h0, hz, k⟩ := h
    refine ⟨_, (pss_one (ps_ret (pe_ix (ixL K) (pv 1) (pe_c c_law_draw hr (by decide) (by rfl) (pa_cons (pv 0) (pa_cons (pe_callB (crLen K) (by rfl) T.b_len (by decide +kernel) (pa_cons (pv 1) pa_nil)) pa_nil))) (fun _ _ => rfl)))), ?_⟩
    refine ⟨_, rfl, _, rfl, _, rfl, a, xs, rfl, .inl (SqL.of ha), d, c, _, rfl, D, by omega, by omega, fun n H' hn D' kp => ?_⟩
    have hn' : n < xs.length := by omega
    exact ⟨a, xs, _, xs[n], rfl, rfl, SqL.of (kp _ _ ha ne), atI_nat (List.getElem?_eq_getElem hn'), k n _ H' (List.getElem?_eq_getElem hn') D' kp⟩
theorem erase_perm {α : Type} : ∀ (l : List α) (i : Nat) (h : i < l.length), (l[i] :: l.eraseIdx i).Perm l
  | [], _, h => absurd h (Nat.not_lt_zero _)
  | _ :: _, 0, _ => List.Perm.refl _
  | a :: l, i + 1, h => by
    show (l[i]'(Nat.lt_of_succ_lt_succ h) :: a :: l.eraseIdx i).Perm (a :: l)
    exact (List.Perm.swap a _ _).trans ((erase_perm l i (Nat.lt_of_succ_lt_succ h)).cons a)
theorem seqIx {n k : Nat} (h : k < n) : seqIndex? (k : Int) n = some k := by
  unfold seqIndex?
  have h0 : ¬ (k : Int) < 0 := by omega
  simp [h0]
  omega
end
end L2.KK
namespace L2.KK
open PySem PySem.Spec PyProof.Rows C8 SX MT
theorem sc_told_part : FnScope ["part"] ["part"] (defScope s_told_part) := ⟨rfl, rfl, rfl, by decide +kernel, rfl, by decide +kernel, by decide +kernel⟩
theorem sc_joined_signs : FnScope ["texts", "whole", "text"] ["texts"] (defScope s_joined_signs) := ⟨rfl, rfl, rfl, by decide +kernel, rfl, by decide +kernel, by decide +kernel⟩
theorem sc_telling : FnScope ["value", "texts", "waiting", "part", "inner"] ["value"] (defScope s_telling) := ⟨rfl, rfl, rfl, by decide +kernel, rfl, by decide +kernel, by decide +kernel⟩
structure Ev (K : PySem.W.Frag) (mg : Str → Option Value) where
  BadText : Addr
  f_BadText : Addr
  PricedError : Addr
  s_BadText_PricedError : PySem.W.kitOne K (.ref BadText) (.ref PricedError) = some true
  x_BadText : ExcC K BadText
  s_BadText_ValueError : PySem.W.kitOne K (.ref BadText) (.type "ValueError") = some true
  k_BadText : mg "BadText" = some (.ref BadText)
  o_BadText : OwnX K BadText f_BadText
  d_BadText : ∃ fd, FnP K "__init__" "BadText.__init__" s_BadText_init f_BadText fd
  n_BadText_line : PySem.W.findIn K (.ref BadText) "line" = some none
  k_PricedError : mg "PricedError" = some (.ref PricedError)
  b_PricedError : BaseX K PricedError
  e_BadText_BadText : PySem.W.exmOne K (.ref BadText) (.ref BadText) = some true
abbrev tV (t : List Nat) : V := .str (S t)
abbrev tL (ts : List (List Nat)) : List V := ts.map tV
theorem tL_snoc (ts : List (List Nat)) (t : List Nat) : tL (ts ++ [t]) = tL ts ++ [tV t] := List.map_append
theorem dec_t {a b : List Nat} : decide (tV a = tV b) = decide (a = b) := by
  rw [Bool.eq_iff_iff, decide_eq_true_iff, decide_eq_true_iff]
  exact ⟨fun h => S_inj (V.str.inj h), fun h => by rw [h]⟩
theorem log_ok {n : Int} (h : n.natAbs < 10 ^ 100) : n.natAbs.log2 < 1920 := by
  by_cases h0 : n.natAbs = 0
  · rw [h0]
    decide
  · exact (Nat.log2_lt h0).mpr (Nat.lt_trans h (by decide +kernel))
theorem lnz {n : Nat} : (((n : Nat) : Int) != 0) = decide (n ≠ 0) := by
  cases n with
  | zero => rfl
  | succ n =>
    have e : ((n + 1 : Nat) : Int) ≠ 0 := by omega
    rw [bne_iff_ne.mpr e]
    rfl
theorem tl_take_snoc {α : Type} {l : List α} {i : Nat} {x : α} (h : l[i]? = some x) : l.take (i + 1) = l.take i ++ [x] := by
  rw [List.take_add_one, h]
  rfl
theorem tl_get {α β : Type} {f : α → β} {l : List α} {i : Nat} {x : β} (h : (l.map f)[i]? = some x) : ∃ a, l[i]? = some a ∧ x = f a := by
  rw [List.getElem?_map] at h
  cases e : l[i]? with
  | none => rw [e] at h; cases h
  | some a => rw [e] at h; cases h; exact ⟨a, rfl, rfl⟩
/-- a part that is no tuple -/
def LeafV : V → Tv → Prop
  | y, .non => y = .non
  | y, .int n => y = .int n ∧ n.natAbs < 10 ^ 100
  | y, .str s => y = .str (S s)
  | _, .tup _ => False
section
variable {P : Program} {w : World} {K : PySem.W.Frag} {mg : Str → Option Value} {base : Heap}
theorem lt_lineT {n : Nat} (h : n ≤ 16777216) : n ≤ sizeLine := by rw [sizeLine_eq]; exact h
def spToldP : Sp := fun vs H Q _ => ∃ (y : V) (v : Tv) (t : List Nat), vs = [y] ∧ LeafV y v ∧ toks v = [t] ∧ Q (tV t) H
theorem c_told_part (D : FnAt K mg "told_part" s_told_part) (T : Bl mg) : Cal P w K mg base 1 "told_part" spToldP [] := by
  refine calOf D sc_told_part (fun _ _ _ _ _ _ us hl => match us, hl with | [_], _ => rfl) (fun vs H Q E h => ?_) (fun f cdv A outer s H vs Q E hr h => ?_)
  · obtain ⟨y, v, t, rfl, _⟩ := h
    rfl
  · obtain ⟨y, v, t, rfl, hy, ht, k⟩ := h
    refine ⟨_, (pss_cons (ps_if (pt_cmpR op_isN (pv 0) pe_non (nomark _))
        (pss_one (ps_ret pe_str))
        pss_nil)
      (pss_one (ps_ret (pe_ifExp (pt_val (pe_callB (crIsi K) (by rfl) T.b_isinstance (by decide +kernel) (pa_cons (pv 0) (pa_cons (pe_bltn (v := .ty "str") (u := .type "str") (by rfl) T.b_str (by decide +kernel) (by rfl)) pa_nil)))) (pv 0) (pe_callTy call_str_int (by rfl) T.b_str (by decide +kernel) (pa_cons (pv 0) pa_nil)))))), ?_⟩
    refine ⟨_, rfl, rfl, _, rfl, ?_⟩
    cases v with
    | non =>
      cases hy
      injection ht with ht _
      subst ht
      exact ite2 (fun _ => k) (fun h => absurd (decide_eq_true rfl) h)
    | int n =>
      obtain ⟨rfl, hn⟩ := hy
      injection ht with ht _
      subst ht
      refine ite2 (fun h => nomatch of_decide_eq_true h) (fun _ => ?_)
      refine ⟨_, rfl, _, _, .type "int", .type "str", false, rfl, .ty "str", .base (.int n), kit_ty (by decide +kernel), false, rfl, iteF ?_⟩
      refine ⟨_, rfl, n, rfl, log_ok hn, ?_⟩
      have e : S (numT n) = Str.ofString (toString n) := TL.mk_tl _
      rw [← e]
      exact k
    | str s =>
      cases hy
      injection ht with ht _
      subst ht
      refine ite2 (fun h => nomatch of_decide_eq_true h) (fun _ => ?_)
      refine ⟨_, rfl, _, _, .type "str", .type "str", true, rfl, .ty "str", .base (.str _), kit_ty (by decide +kernel), true, rfl, iteT ?_⟩
      exact ⟨_, rfl, k⟩
    | tup vs => exact hy.elim
def spJoin (K : PySem.W.Frag) : Sp := fun vs H Q _ => ∃ (a : Addr) (ts : List (List Nat)), vs = [.ref a] ∧ SqL K H a (tL ts) ∧ wtT ts ≤ 2000000 ∧ Q (tV (joinS ts)) H
theorem wtT_take (ts : List (List Nat)) (i : Nat) : wtT (ts.take i) ≤ wtT ts := by
  conv => rhs; rw [← List.take_append_drop i ts, wtT_append]
  omega
theorem wtT_mem {ts : List (List Nat)} {t : List Nat} (h : t ∈ ts) : t.length + 1 ≤ wtT ts := by
  obtain ⟨a, b, rfl⟩ := List.append_of_mem h
  rw [wtT_append]
  have : wtT (t :: b) = t.length + 1 + wtT b := by unfold wtT; rw [List.map_cons, List.sum_cons]
  omega
theorem c_joined_signs (D : FnAt K mg "joined_signs" s_joined_signs) (T : Bl mg) : Cal P w K mg base 1 "joined_signs" (spJoin K) [] := by
  refine calOf D sc_joined_signs (fun _ _ _ _ _ _ us hl => match us, hl with | [_], _ => rfl) (fun vs H Q E h => ?_) (fun f cdv A outer s H vs Q E hr h => ?_)
  · obtain ⟨a, ts, rfl, _⟩ := h
    rfl
  · obtain ⟨a, ts, rfl, ha, hw, k⟩ := h
    have nd := sc_joined_signs.nd
    refine ⟨_, (pss_cons (ps_set (i := 1) nd rfl (by first | exact Or.inl rfl | exact Or.inr rfl) pe_str)
      (pss_cons (ps_for PassesOwn.never rfl (piList K (pv 0)) (pg_name (i := 2) nd rfl (by first | exact Or.inl rfl | exact Or.inr rfl))
        (pss_cut (ps_if (PW.pt (pw_and (ptTru K (pv 1)) (pw_and (pt_cmpR op_ne (pe_ix ix_str (pv 1) (pe_un un_neg pe_int) (fun _ _ => rfl)) pe_str (nomark _)) (pw_and1 (pt_cmpR op_ne (pv 2) pe_str (nomark _))))))
          (pss_one (ps_set (i := 1) nd rfl (by first | exact Or.inl rfl | exact Or.inr rfl) (pe_op op_add_str (pv 1) pe_str)))
          pss_nil)
        (pss_one (ps_set (i := 1) nd rfl (by first | exact Or.inl rfl | exact Or.inr rfl) (pe_op op_add_str (pv 1) (pv 2))))))
      (pss_one (ps_ret (pv 1))))), ?_⟩
    refine ⟨_, rfl, a, rfl, ⟨_, ha⟩, ?_⟩
    refine for_list (xs := tL ts) (fun i σ' H' => ∃ c2 : Option V, σ' = [some (.ref a), some (tV (joinS (ts.take i))), c2] ∧ H' = H) ⟨none, rfl, rfl⟩ (fun i σ' H' _ ⟨_, _, e⟩ => by rw [e]; exact ha) (fun i x σ' H' hx hp => ?_) (fun σ' H' hp => ?_)
    · obtain ⟨c2, rfl, rfl⟩ := hp
      obtain ⟨t, ht, rfl⟩ := tl_get hx
      have b1 := joinS_len (ts.take i)
      have b2 := wtT_take ts i
      have b3 := wtT_mem (List.mem_of_getElem? ht)
      have b4 := joinStep_len (joinS (ts.take i)) t
      rw [tl_take_snoc ht, joinS_snoc]
      generalize joinS (ts.take i) = z at *
      have bz : z.length ≤ sizeLine := lt_lineT (by omega)
      refine ⟨fun σ2 H2 => H2 = H' ∧ σ2 = [some (.ref a), some (tV (if z ≠ [] ∧ z.getLast? ≠ some 40 ∧ t ≠ [41] then z ++ [32] else z)), some (tV t)], ?_, ?_⟩
      · refine ⟨_, rfl, _, ⟨by rw [S_len]; exact bz, rfl⟩, ?_⟩
        rw [S_len, lnz]
        refine ite2 (fun h => ?_) (fun h => ?_)
        · have hz : z ≠ [] := fun e => by rw [e] at h; exact absurd h (by decide)
          obtain ⟨c, hc⟩ : ∃ c, z.getLast? = some c := by
            rw [List.getLast?_eq_some_getLast hz]
            exact ⟨_, rfl⟩
          refine ⟨_, rfl, 1, rfl, S z, -1, c, rfl, rfl, by rw [S_len]; exact bz, ?_, rfl, _, rfl, ?_⟩
          · show atI z (-1) = some c
            rw [MT.dropLast_snoc hc]
            exact atI_last _ _
          · show if (!decide (tV [c] = tV [40])) = true then _ else _
            rw [dec_t]
            refine ite2 (fun h2 => ?_) (fun h2 => ?_)
            · have c40 : c ≠ 40 := fun e => by rw [e] at h2; exact absurd h2 (by decide)
              refine ⟨_, rfl, rfl, _, rfl, ?_⟩
              show if (!decide (tV t = tV [41])) = true then _ else _
              rw [dec_t]
              refine ite2 (fun h3 => ?_) (fun h3 => ?_)
              · have t41 : t ≠ [41] := fun e => by rw [e] at h3; exact absurd h3 (by decide)
                refine ⟨_, rfl, _, _, rfl, rfl, ?_, rfl, ?_⟩
                · show (S z).length + 1 ≤ sizeLine
                  rw [S_len]
                  exact lt_lineT (by omega)
                · rw [if_pos ⟨hz, by rw [hc]; exact fun e => c40 (Option.some.inj e), t41⟩]
                  show [_, some (V.str (S z ++ S [32])), _] = _
                  rw [S_cat]
              · have t41 : t = [41] := Classical.byContradiction fun e => h3 (by rw [decide_eq_false e]; rfl)
                refine ⟨rfl, ?_⟩
                rw [if_neg fun q => q.2.2 t41]
                rfl
            · have c40 : c = 40 := Classical.byContradiction fun e => h2 (by
                rw [decide_eq_false fun q => e (List.cons.inj q).1]
                rfl)
              refine ⟨rfl, ?_⟩
              rw [if_neg fun q => q.2.1 (by rw [hc, c40])]
              rfl
        · have hz : z = [] := Classical.byContradiction fun e => h (decide_eq_true fun q => e (List.eq_nil_of_length_eq_zero q))
          refine ⟨rfl, ?_⟩
          rw [if_neg fun q => q.1 hz]
          rfl
      · rintro σ2 H2 ⟨rfl, rfl⟩
        refine ⟨_, rfl, _, rfl, _, _, rfl, rfl, ?_, ⟨some (tV t), ?_, rfl⟩⟩
        · rw [S_len, S_len]
          refine lt_lineT ?_
          split
          · rw [List.length_append]
            show z.length + 1 + t.length ≤ _
            omega
          · omega
        · unfold joinStep
          show [_, some (V.str (S _ ++ S t)), _] = _
          rw [S_cat]
    · obtain ⟨c2, rfl, rfl⟩ := hp
      rw [List.length_map, List.take_length]
      exact ⟨_, rfl, k⟩
theorem map_rev_get {α : Type} (xs : List α) (d : α) : (List.range xs.length).map (fun i => xs.getD (xs.length - 1 - i) d) = xs.reverse := by
  apply List.ext_getElem
  · rw [List.length_map, List.length_range, List.length_reverse]
  · intro i h1 h2
    rw [List.length_map, List.length_range] at h1
    rw [List.getElem_map, List.getElem_range, List.getElem_reverse, List.getD_eq_getElem?_getD, List.getElem?_eq_getElem (by omega)]
    rfl
/-- a part that waits: good, or the closing sign -/
def OkC (v : Tv) : Prop := Ok v ∨ v = .str [41]
def spTell (K : PySem.W.Frag) : Sp := fun vs H Q _ => ∃ (y : V) (v : Tv), vs = [y] ∧ TvAt K H y v ∧ Ok v ∧ wtT (toks v) ≤ 1000000 ∧ ∀ H', Same H H' → Q (tV (tellM v)) H'
theorem pos_wtT : ∀ ts : List (List Nat), ts.length ≤ wtT ts
  | [] => Nat.le_refl _
  | t :: ts => by
    have : wtT (t :: ts) = t.length + 1 + wtT ts := by unfold wtT; rw [List.map_cons, List.sum_cons]
    have := pos_wtT ts
    rw [List.length_cons]
    omega
theorem c_telling (D : FnAt K mg "telling" s_telling) (T : Bl mg) (c_told_part : Cal P w K mg base 1 "told_part" spToldP []) (c_joined_signs : Cal P w K mg base 1 "joined_signs" (spJoin K) []) : Cal P w K mg base 2 "telling" (spTell K) [] := by
  refine calOf D sc_telling (fun _ _ _ _ _ _ us hl => match us, hl with | [_], _ => rfl) (fun vs H Q E h => ?_) (fun f cdv A outer s H vs Q E hr h => ?_)
  · obtain ⟨y, v, rfl, _⟩ := h
    rfl
  · obtain ⟨y, v, rfl, hy, ok, hw, k⟩ := h
    have nd := sc_telling.nd
    refine ⟨_, (pss_cons (ps_set (i := 1) nd rfl (by first | exact Or.inl rfl | exact Or.inr rfl) (pe_lst pa_nil))
      (pss_cons (ps_set (i := 2) nd rfl (by first | exact Or.inl rfl | exact Or.inr rfl) (pe_lst (pa_cons (pv 0) pa_nil)))
      (pss_cons (ps_while PassesOwn.never (ptTru K (pv 2))
        (pss_cons (ps_set (i := 3) nd rfl (by first | exact Or.inl rfl | exact Or.inr rfl) (pe_bm0 PySem.F.plainAttrs_list PySem.F.slot_list_pop PySem.F.type_list_pop mt_pop (pv 2)))
        (pss_one (ps_if (pt_val (pe_callB (crIsi K) (by rfl) T.b_isinstance (by decide +kernel) (pa_cons (pv 3) (pa_cons (pe_bltn (v := .ty "tuple") (u := .type "tuple") (by rfl) T.b_tuple (by decide +kernel) (by rfl)) pa_nil))))
          (pss_cons (ps_expr (pe_bm PySem.F.plainAttrs_list PySem.F.slot_list_append PySem.F.type_list_append mt_append (pv 2) (pa_cons (pe_gc (by rfl) T.g_CLOSE) pa_nil)))
          (pss_cons (ps_expr (pe_bm PySem.F.plainAttrs_list PySem.F.slot_list_extend PySem.F.type_list_extend mt_extend (pv 2) (pa_cons (pe_lc (own := [("inner", 4)]) (g := gName 4) (tt := tYes) rfl nd (RT.pi_revA (by rfl) T.b_reversed (pv 3)) (blkOk_by (N := ["value", "texts", "waiting", "part", "inner"]) (sc := defScope s_telling) (own := [("inner", 4)]) (by decide +kernel)) (fun _ _ _ _ _ => (pg_name (i := 4) nd rfl (by first | exact Or.inl rfl | exact Or.inr rfl))) (fun _ _ _ _ _ => pts_nil) (fun _ _ _ _ _ => (pv 4))) pa_nil)))
          (pss_one (ps_expr (pe_bm PySem.F.plainAttrs_list PySem.F.slot_list_append PySem.F.type_list_append mt_append (pv 1) (pa_cons pe_str pa_nil))))))
          (pss_one (ps_if (pt_cmpR op_eq (pv 3) (pe_gc (by rfl) T.g_CLOSE) (nomark _))
            (pss_one (ps_expr (pe_bm PySem.F.plainAttrs_list PySem.F.slot_list_append PySem.F.type_list_append mt_append (pv 1) (pa_cons pe_str pa_nil))))
            (pss_one (ps_expr (pe_bm PySem.F.plainAttrs_list PySem.F.slot_list_append PySem.F.type_list_append mt_append (pv 1) (pa_cons (pe_c c_told_part hr (by decide) (by rfl) (pa_cons (pv 3) pa_nil)) pa_nil))))))))))
      (pss_one (ps_ret (pe_c c_joined_signs hr (by decide) (by rfl) (pa_cons (pv 1) pa_nil))))))), ?_⟩
    refine ⟨Nat.zero_le _, fun X hX => ?_⟩
    refine ⟨_, rfl, by show 1 ≤ sizeLine; decide, fun W hW => ?_⟩
    have sm0 : Same H (upd H X (.lst [])) := same_new hX
    have hW0 : H W = none := sm0.free hW
    have nXW : X ≠ W := ne_of_none (show (upd H X (.lst [])) X = some (.lst []) from upd_same) hW
    have lnT := pos_wtT (toks v)
    refine ⟨fun m σ' H' => ∃ (c3 c4 : Option V) (ts : List (List Nat)) (ys : List V) (vs : List Tv), σ' = [some y, some (.ref X), some (.ref W), c3, c4] ∧ Same H H' ∧ H' X = some (.lst (tL ts)) ∧ H' W = some (.lst ys) ∧ Paired (TvAt K H') ys vs ∧
      (∀ v ∈ vs, OkC v) ∧ ts ++ toksL vs.reverse = toks v ∧ m = (toksL vs.reverse).length, ⟨_, none, none, [], [y], [v], rfl, same_fresh sm0 hW0, ?_, upd_same, .cons ?_ .nil, fun u hu => ?_, ?_, rfl⟩, ?_⟩
    · rw [upd_ne nXW]
      exact upd_same
    · exact TvAt.step (sameT_of (same_fresh sm0 hW0)) v y hy
    · rw [List.mem_singleton.mp hu]
      exact .inl ok
    · show toksL [v] = _
      rw [toksL_one]
    · rintro m σ' H' ⟨c3, c4, ts, ys, vs, rfl, sm, hx, hw1, pr, okc, hf, rfl⟩
      have lens := congrArg List.length hf
      rw [List.length_append] at lens
      refine ⟨_, rfl, _, .inl ⟨ys, SqL.of hw1, rfl⟩, ite2 (fun h => ?_) (fun h => ?_)⟩
      · -- a part is taken
        obtain ⟨vs', u, rfl⟩ : ∃ vs' u, vs = vs' ++ [u] := by
          have hne : vs ≠ [] := fun e => by
            rw [e] at pr
            cases pr
            cases h
          exact ⟨_, _, (List.dropLast_concat_getLast hne).symm⟩
        obtain ⟨ys', z, rfl, pr', hz⟩ := pr_snoc pr
        have okv := okc u (List.mem_append_right _ (List.mem_singleton.mpr rfl))
        rw [List.reverse_append] at hf lens
        have hf' : ts ++ (toks u ++ toksL vs'.reverse) = toks v := hf
        have lens' : ts.length + (toks u ++ toksL vs'.reverse).length = (toks v).length := lens
        rw [List.length_append] at lens'
        have lvs := len_le_toksL vs'.reverse
        rw [List.length_reverse] at lvs
        have lys : ys'.length = vs'.length := pr'.length
        have hmem : ∀ {t}, t ∈ toks u → t.length + 1 ≤ wtT (toks v) := fun {t} ht => wtT_mem (by rw [← hf']; exact List.mem_append_right _ (List.mem_append_left _ ht))
        have smW := sameT_upd (ys := ys') hw1
        refine ⟨_, fun _ _ n => n, ?_⟩
        refine ⟨_, rfl, .inl ⟨rfl, _, SqL.of hw1⟩, W, _, z, rfl, rfl, hw1, by rw [List.length_append]; simp, ?_⟩
        rw [List.dropLast_concat]
        have eW : upd H' W (.lst ys') W = some (.lst ys') := upd_same
        have eX : upd H' W (.lst ys') X = some (.lst (tL ts)) := by rw [upd_ne nXW]; exact hx
        have sm1 : Same H (upd H' W (.lst ys')) := same_fresh sm hW0
        have pr1 := prT smW pr'
        have hz1 := TvAt.step smW u z hz
        have ltl : (tL ts).length < sizeLine := by
          rw [List.length_map]
          exact Nat.lt_of_le_of_lt (show ts.length ≤ 1000000 by omega) (by decide)
        generalize upd H' W (.lst ys') = H1 at *
        -- a leaf is told
        have fin : ∀ (t : List Nat), toks u = [t] →
            ∃ m', m' < (toksL (vs' ++ [u]).reverse).length ∧ ∃ (c3 c4' : Option V) (ts2 : List (List Nat)) (ys : List V) (vs : List Tv), [some y, some (V.ref X), some (V.ref W), some z, c4] = [some y, some (V.ref X), some (V.ref W), c3, c4'] ∧ Same H (upd H1 X (.lst (tL ts ++ [tV t]))) ∧
              upd H1 X (.lst (tL ts ++ [tV t])) X = some (.lst (tL ts2)) ∧ upd H1 X (.lst (tL ts ++ [tV t])) W = some (.lst ys) ∧ Paired (TvAt K (upd H1 X (.lst (tL ts ++ [tV t])))) ys vs ∧ (∀ v ∈ vs, OkC v) ∧ ts2 ++ toksL vs.reverse = toks v ∧ m' = (toksL vs.reverse).length := by
          intro t ht
          refine ⟨(toksL vs'.reverse).length, ?_, some z, c4, ts ++ [t], ys', vs', rfl, same_fresh sm1 hX, ?_, by rw [upd_ne nXW.symm]; exact eW, prT (sameT_upd eX) pr1, fun v hv => okc v (List.mem_append_left _ hv), ?_, rfl⟩
          · rw [List.reverse_append]
            show _ < (toks u ++ toksL vs'.reverse).length
            rw [ht, List.length_append]
            show _ < 1 + _
            omega
          · rw [upd_same, tL_snoc]
          · rw [← hf', ht, List.append_assoc]
        cases u with
        | tup us =>
          rw [tvAt_tup] at hz1
          obtain ⟨a, zs, rfl, hS, pz⟩ := hz1
          have lzs : zs.length = us.length := pz.length
          have lus := len_le_toksL us
          have ltu : (toks (.tup us)).length = (toksL us).length + 2 := by
            show ([40] :: (toksL us ++ [[41]])).length = _
            rw [List.length_cons, List.length_append]
            rfl
          refine ⟨_, rfl, _, _, .type "tuple", .type "tuple", true, rfl, .ty "tuple", tyx_seqT hS, kit_ty (by decide +kernel), true, rfl, iteT ?_⟩
          refine ⟨_, rfl, .inl ⟨rfl, _, SqL.of eW⟩, W, _, _, rfl, rfl, eW, Nat.lt_of_le_of_lt (show ys'.length ≤ 1000000 by omega) (by decide), ?_⟩
          have eW2 : upd H1 W (.lst (ys' ++ [tV [41]])) W = some (.lst (ys' ++ [tV [41]])) := upd_same
          have eX2 : upd H1 W (.lst (ys' ++ [tV [41]])) X = some (.lst (tL ts)) := by rw [upd_ne nXW]; exact eX
          have sT2 := sameT_upd (ys := ys' ++ [tV [41]]) eW
          have sm2 : Same H (upd H1 W (.lst (ys' ++ [tV [41]]))) := same_fresh sm1 hW0
          have hS2 := seqT_T sT2 hS
          have pz2 := prT sT2 pz
          have pr2 := prT sT2 pr1
          refine ⟨_, rfl, .inl ⟨rfl, _, SqL.of eW2⟩, _, rfl, a, zs, rfl, .inr ⟨hS2, fun D hD => lc_revT hS2 (sel := fun _ => true) (P := fun i y _ => y = zs.getD (zs.length - 1 - i) .non) ⟨fun _ _ _ _ _ h => h, fun i H3 _ _ R r => r H3 (Same.refl H3), fun i H3 hi _ _ R r => ⟨_, rfl, r _ H3 (Same.refl H3) rfl⟩⟩ hD (lt_lineT (by omega)) (fun H3 bs sm3 hb _ pb => ?_)⟩⟩
          rw [filter_yes] at pb
          have eb : bs = zs.reverse := by rw [paired_map_eq pb, map_rev_get]
          rw [eb] at hb
          have eW3 := sm3 _ _ eW2
          have eX3 := sm3 _ _ eX2
          refine ⟨W, D, _, _, rfl, rfl, eW3, hb, lt_lineT (by rw [List.length_append, List.length_reverse]; show ys'.length + 1 + _ ≤ _; omega), ?_⟩
          have nDW : D ≠ W := fun z => by rw [z] at hD; exact nomatch hD.symm.trans eW2
          have eX4 : upd H3 W (.lst (ys' ++ [tV [41]] ++ zs.reverse)) X = some (.lst (tL ts)) := by rw [upd_ne nXW]; exact eX3
          refine ⟨_, rfl, .inl ⟨rfl, _, SqL.of eX4⟩, X, _, _, rfl, rfl, eX4, ltl, ?_⟩
          have sT4 := sameT_trans (sameT_of sm3) (sameT_trans (sameT_upd (ys := ys' ++ [tV [41]] ++ zs.reverse) eW3) (sameT_upd (ys := tL ts ++ [tV [40]]) eX4))
          refine ⟨(toksL (vs' ++ [Tv.str [41]] ++ us.reverse).reverse).length, ?_, some (.ref a), c4, ts ++ [[40]], ys' ++ [tV [41]] ++ zs.reverse, vs' ++ [Tv.str [41]] ++ us.reverse, rfl, same_fresh (same_fresh (sm2.trans sm3) hW0) hX, ?_, ?_, ?_, fun x hx => ?_, ?_, rfl⟩
          · rw [List.reverse_append, List.reverse_append, List.reverse_append, List.reverse_reverse, toksL_append]
            show (toksL us ++ ([41] :: toksL vs'.reverse)).length < (toks (.tup us) ++ toksL vs'.reverse).length
            rw [List.length_append, List.length_append, ltu, List.length_cons]
            omega
          · rw [upd_same, tL_snoc]
            rfl
          · rw [upd_ne nXW.symm]
            exact upd_same
          · exact paired_append (paired_append (prT sT4 pr2) (.cons (tvAt_str.mpr rfl) .nil)) (prT_rev (prT sT4 pz2))
          · rcases List.mem_append.mp hx with hx | hx
            · rcases List.mem_append.mp hx with hx | hx
              · exact okc x (List.mem_append_left _ hx)
              · exact .inr (List.mem_singleton.mp hx)
            · rcases okv with o | o
              · exact .inl (okL_mem (show OkL us from o) x (List.mem_reverse.mp hx))
              · cases o
          · rw [List.reverse_append, List.reverse_append, List.reverse_reverse, toksL_append]
            rw [← hf']
            show ts ++ [[40]] ++ (toksL us ++ ([41] :: toksL vs'.reverse)) = ts ++ ([40] :: (toksL us ++ [[41]]) ++ toksL vs'.reverse)
            simp only [List.append_assoc, List.cons_append, List.nil_append]
        | non =>
          rw [tvAt_non] at hz1
          subst hz1
          refine ⟨_, rfl, _, _, .type "NoneType", .type "tuple", false, rfl, .ty "tuple", .base .non, kit_ty (by decide +kernel), false, rfl, iteF ?_⟩
          refine ⟨_, rfl, rfl, _, rfl, ite2 (fun h => nomatch of_decide_eq_true h) (fun _ => ?_)⟩
          exact ⟨_, rfl, .inl ⟨rfl, _, SqL.of eX⟩, _, rfl, .non, .non, [45], rfl, rfl, rfl, X, _, _, rfl, rfl, eX, ltl, fin _ rfl⟩
        | int n =>
          rw [tvAt_int] at hz1
          subst hz1
          refine ⟨_, rfl, _, _, .type "int", .type "tuple", false, rfl, .ty "tuple", .base (.int n), kit_ty (by decide +kernel), false, rfl, iteF ?_⟩
          refine ⟨_, rfl, rfl, _, rfl, ite2 (fun h => nomatch of_decide_eq_true h) (fun _ => ?_)⟩
          have hn : n.natAbs < 10 ^ 100 := by
            rcases okv with o | o
            · exact o
            · cases o
          exact ⟨_, rfl, .inl ⟨rfl, _, SqL.of eX⟩, _, rfl, .int n, .int n, numT n, rfl, ⟨rfl, hn⟩, rfl, X, _, _, rfl, rfl, eX, ltl, fin _ rfl⟩
        | str s =>
          rw [tvAt_str] at hz1
          subst hz1
          refine ⟨_, rfl, _, _, .type "str", .type "tuple", false, rfl, .ty "tuple", .base (.str _), kit_ty (by decide +kernel), false, rfl, iteF ?_⟩
          refine ⟨_, rfl, rfl, _, rfl, ?_⟩
          show if decide (tV s = tV [41]) = true then _ else _
          rw [dec_t]
          refine ite2 (fun h => ?_) (fun h => ?_)
          · have e : s = [41] := of_decide_eq_true h
            subst e
            exact ⟨_, rfl, .inl ⟨rfl, _, SqL.of eX⟩, X, _, _, rfl, rfl, eX, ltl, fin _ rfl⟩
          · exact ⟨_, rfl, .inl ⟨rfl, _, SqL.of eX⟩, _, rfl, tV s, .str s, s, rfl, rfl, rfl, X, _, _, rfl, rfl, eX, ltl, fin _ rfl⟩
      · have hys : ys = [] := by
          cases ys with
          | nil => rfl
          | cons a b => exact absurd rfl h
        rw [hys] at pr
        cases pr
        have ht : ts = toks v := by
          rw [← hf]
          exact (List.append_nil _).symm
        subst ht
        exact ⟨_, rfl, X, toks v, rfl, SqL.of hx, by omega, k _ sm⟩
end
end L2.KK
namespace L2.KK
open PySem PySem.Spec PyProof.Rows C8 SX MT
theorem sc_is_word : FnScope ["text", "sign"] ["text"] (defScope s_is_word) := ⟨rfl, rfl, rfl, by decide +kernel, rfl, by decide +kernel, by decide +kernel⟩
theorem sc_is_number : FnScope ["text", "digits", "sign"] ["text"] (defScope s_is_number) := ⟨rfl, rfl, rfl, by decide +kernel, rfl, by decide +kernel, by decide +kernel⟩
theorem small_mem (c : Nat) : c ∈ (Str.ofString "abcdefghijklmnopqrstuvwxyz").cps.toList ↔ 97 ≤ c ∧ c ≤ 122 := by
  have e : (Str.ofString "abcdefghijklmnopqrstuvwxyz").cps.toList = (List.range 26).map (· + 97) := by decide
  rw [e, List.mem_map]
  constructor
  · rintro ⟨i, hi, rfl⟩
    have := List.mem_range.mp hi
    omega
  · rintro ⟨h1, h2⟩
    exact ⟨c - 97, List.mem_range.mpr (by omega), by omega⟩
theorem digit_mem (c : Nat) : c ∈ (Str.ofString "0123456789").cps.toList ↔ 48 ≤ c ∧ c ≤ 57 := by
  have e : (Str.ofString "0123456789").cps.toList = (List.range 10).map (· + 48) := by decide
  rw [e, List.mem_map]
  constructor
  · rintro ⟨i, hi, rfl⟩
    have := List.mem_range.mp hi
    omega
  · rintro ⟨h1, h2⟩
    exact ⟨c - 48, List.mem_range.mpr (by omega), by omega⟩
/-- the answers sign by sign -/
theorem bl_signs {p : Nat → Bool} {t : List Nat} {bs : List V} (pb : Paired (fun y j => y = V.bl (p (t.getD j 0))) bs (List.range t.length)) : bs = (t.map p).map V.bl := by
  rw [paired_map_eq pb]
  have q := congrArg (List.map fun c => V.bl (p c)) (map_range_get t 0)
  rw [List.map_map] at q
  rw [List.map_map]
  exact q
theorem all_id {p : Nat → Bool} (t : List Nat) : (t.map p).all id = t.all p := by
  rw [List.all_map]
  rfl
section
variable {P : Program} {w : World} {K : PySem.W.Frag} {mg : Str → Option Value} {base : Heap}
def spIsW : Sp := fun vs H Q _ => ∃ t : List Nat, vs = [tV t] ∧ t.length ≤ 1000000 ∧ ∀ H', Same H H' → Q (.bl (decide (letters t))) H'
theorem c_is_word (D : FnAt K mg "is_word" s_is_word) (T : Bl mg) : Cal P w K mg base 1 "is_word" spIsW [] := by
  refine calOf D sc_is_word (fun _ _ _ _ _ _ us hl => match us, hl with | [_], _ => rfl) (fun vs H Q E h => ?_) (fun f cdv A outer s H vs Q E hr h => ?_)
  · obtain ⟨t, rfl, _⟩ := h
    rfl
  · obtain ⟨t, rfl, hz, k⟩ := h
    have nd := sc_is_word.nd
    have hz' := lt_lineT (Nat.le_trans hz (by decide))
    refine ⟨_, (pss_one (ps_ret (pe_and (pe_cmpR op_ne (pv 0) pe_str (nomark _)) (pe_one (pe_callB (crAll K) (by rfl) T.b_all (by decide +kernel) (pa_cons (pe_lc (own := [("sign", 1)]) (g := gName 1) (tt := tYes) rfl nd (pi_str (pv 0)) (blkOk_by (N := ["text", "sign"]) (sc := defScope s_is_word) (own := [("sign", 1)]) (by decide +kernel)) (fun _ _ _ _ _ => (pg_name (i := 1) nd rfl (by first | exact Or.inl rfl | exact Or.inr rfl))) (fun _ _ _ _ _ => pts_nil) (fun _ _ _ _ _ => (pe_cmpR op_in_sign (pv 1) (pe_gc (by rfl) T.g_SIGNS) (by rfl)))) pa_nil)))))), ?_⟩
    refine ⟨_, rfl, rfl, _, rfl, ?_⟩
    show if (!decide (tV t = tV [])) = true then _ else _
    rw [dec_t]
    refine ite2 (fun h => ?_) (fun h => ?_)
    · have ht : t ≠ [] := fun e => by rw [e] at h; exact absurd h (by decide)
      refine ⟨_, rfl, S t, rfl, fun D hD => lc_strT (sel := fun _ => true) (P := fun i y _ => y = V.bl (decide (t.getD i 0 ∈ (Str.ofString "abcdefghijklmnopqrstuvwxyz").cps.toList))) ⟨fun _ _ _ _ _ h => h, fun i H2 _ _ R r => r H2 (Same.refl H2), fun i H2 hi _ _ R r => ⟨_, rfl, t.getD i 0, _, rfl, rfl, r _ H2 (Same.refl H2) rfl⟩⟩ hD hz' (fun H2 bs sm hb _ pb => ?_)⟩
      rw [filter_yes] at pb
      rw [bl_signs (p := fun c => decide (c ∈ (Str.ofString "abcdefghijklmnopqrstuvwxyz").cps.toList)) pb] at hb
      refine ⟨D, _, rfl, SqL.of hb, ?_⟩
      rw [all_id]
      have e : (t.all fun c => decide (c ∈ (Str.ofString "abcdefghijklmnopqrstuvwxyz").cps.toList)) = decide (letters t) := by
        rw [Bool.eq_iff_iff, decide_eq_true_iff, List.all_eq_true]
        constructor
        · exact fun h => ⟨ht, fun c hc => (small_mem c).mp (of_decide_eq_true (h c hc))⟩
        · exact fun h c hc => decide_eq_true ((small_mem c).mpr (h.2 c hc))
      rw [e]
      exact k H2 sm
    · have ht : t = [] := Classical.byContradiction fun e => h (by rw [decide_eq_false e]; rfl)
      have e : decide (letters t) = false := decide_eq_false fun q => q.1 ht
      have k' := k H (Same.refl H)
      rw [e] at k'
      exact k'
theorem take_one {t : List Nat} {c : Nat} : t.take 1 = [c] ↔ t.head? = some c := by
  cases t with
  | nil => simp
  | cons a r => simp
def spIsN : Sp := fun vs H Q _ => ∃ t : List Nat, vs = [tV t] ∧ t.length ≤ 1000000 ∧ ∀ H', Same H H' → Q (.bl (decide (numB t))) H'
theorem c_is_number (D : FnAt K mg "is_number" s_is_number) (T : Bl mg) : Cal P w K mg base 1 "is_number" spIsN [] := by
  refine calOf D sc_is_number (fun _ _ _ _ _ _ us hl => match us, hl with | [_], _ => rfl) (fun vs H Q E h => ?_) (fun f cdv A outer s H vs Q E hr h => ?_)
  · obtain ⟨t, rfl, _⟩ := h
    rfl
  · obtain ⟨t, rfl, hz, k⟩ := h
    have nd := sc_is_number.nd
    have hz' := lt_lineT (Nat.le_trans hz (by decide))
    refine ⟨_, (pss_cut (ps_set (i := 1) nd rfl (by first | exact Or.inl rfl | exact Or.inr rfl) (pe_ifExp (pt_cmpR op_eq (pe_slice sl_txt (pv 0) po_none (po_some pe_int)) pe_str (nomark _)) (pe_slice sl_txt (pv 0) (po_some pe_int) po_none) (pv 0)))
      (pss_cons (ps_if (PW.pt (pw_or (pt_cmpR op_eq (pv 1) pe_str (nomark _)) (pw_or (pt_cmpR op_gt (pe_callB call_len_str (by rfl) T.b_len (by decide +kernel) (pa_cons (pv 1) pa_nil)) (pe_gc (by rfl) T.g_FIGURES) (nomark _)) (pw_or1 (pt_not (pt_val (pe_callB (crAll K) (by rfl) T.b_all (by decide +kernel) (pa_cons (pe_lc (own := [("sign", 2)]) (g := gName 2) (tt := tYes) rfl nd (pi_str (pv 1)) (blkOk_by (N := ["text", "digits", "sign"]) (sc := defScope s_is_number) (own := [("sign", 2)]) (by decide +kernel)) (fun _ _ _ _ _ => (pg_name (i := 2) nd rfl (by first | exact Or.inl rfl | exact Or.inr rfl))) (fun _ _ _ _ _ => pts_nil) (fun _ _ _ _ _ => (pe_cmpR op_in_sign (pv 2) (pe_gc (by rfl) T.g_DIGITS) (by rfl)))) pa_nil))))))))
        (pss_one (ps_ret pe_bl))
        pss_nil)
      (pss_one (ps_ret (pe_or (pe_cmpR op_ne (pe_ix ix_str (pv 1) pe_int (fun _ _ => rfl)) pe_str (nomark _)) (pe_one (pe_cmpR op_eq (pv 0) pe_str (nomark _)))))))), ?_⟩
    have kb : ∀ b : Bool, (b = true ↔ numB t) → ∀ H', Same H H' → Q (.bl b) H' := fun b hb H' sm => by
      have k' := k H' sm
      have e : decide (numB t) = b := by rw [Bool.eq_iff_iff, decide_eq_true_iff, hb]
      rw [e] at k'
      exact k'
    have no : ¬ numB t → ∀ H', Same H H' → Q (.bl false) H' := fun n => kb false ⟨fun z => absurd z Bool.false_ne_true, fun z => absurd z n⟩
    refine ⟨fun σ' H' => H' = H ∧ σ' = [some (tV t), some (tV (digs t)), none], ?_, ?_⟩
    · refine ⟨_, rfl, 1, rfl, S t, rfl, by rw [S_len]; exact hz', rfl, _, rfl, ?_⟩
      rw [slice_to (by decide : (0 : Int) ≤ 1)]
      show if decide (tV (t.take 1) = tV [45]) = true then _ else _
      rw [dec_t]
      refine ite2 (fun h => ?_) (fun h => ?_)
      · refine ⟨_, rfl, 1, rfl, S t, rfl, by rw [S_len]; exact hz', ?_⟩
        rw [slice_from (by decide : (0 : Int) ≤ 1)]
        exact ⟨rfl, by unfold digs; rw [if_pos (of_decide_eq_true h)]; rfl⟩
      · exact ⟨_, rfl, rfl, by unfold digs; rw [if_neg fun q => h (decide_eq_true q)]; rfl⟩
    · rintro σ' H' ⟨rfl, rfl⟩
      have hl : (digs t).length ≤ t.length := by
        unfold digs
        split
        · rw [List.length_drop]; omega
        · exact Nat.le_refl _
      obtain ⟨d, hd⟩ : ∃ d, d = digs t := ⟨_, rfl⟩
      rw [← hd] at hl ⊢
      have hzd : (S d).length ≤ sizeLine := by rw [S_len]; exact lt_lineT (by omega)
      unfold numB at no kb
      rw [← hd] at no kb
      refine ⟨_, rfl, rfl, _, rfl, ?_⟩
      show if decide (tV d = tV []) = true then _ else _
      rw [dec_t]
      refine ite2 (fun h => no (fun q => q.1 (of_decide_eq_true h)) _ (Same.refl _)) (fun h1 => ?_)
      have d0 : d ≠ [] := fun e => h1 (decide_eq_true e)
      refine ⟨_, rfl, S d, rfl, hzd, _, 100, rfl, rfl, _, rfl, ?_⟩
      rw [S_len]
      refine ite2 (fun h => no (fun q => absurd (of_decide_eq_true h) (by have := q.2.1; omega)) _ (Same.refl _)) (fun h2 => ?_)
      have d100 : d.length ≤ 100 := Classical.byContradiction fun e => h2 (decide_eq_true (by omega))
      refine ⟨_, rfl, S d, rfl, fun D hD => lc_strT (sel := fun _ => true) (P := fun i y _ => y = V.bl (decide (d.getD i 0 ∈ (Str.ofString "0123456789").cps.toList))) ⟨fun _ _ _ _ _ h => h, fun i H2 _ _ R r => r H2 (Same.refl H2), fun i H2 hi _ _ R r => ⟨_, rfl, d.getD i 0, _, rfl, rfl, r _ H2 (Same.refl H2) rfl⟩⟩ hD (lt_lineT (by omega)) (fun H2 bs sm hb _ pb => ?_)⟩
      rw [filter_yes] at pb
      rw [bl_signs (p := fun c => decide (c ∈ (Str.ofString "0123456789").cps.toList)) pb] at hb
      refine ⟨D, _, rfl, SqL.of hb, _, rfl, ?_⟩
      rw [all_id]
      have e : (d.all fun c => decide (c ∈ (Str.ofString "0123456789").cps.toList)) = decide (∀ c ∈ d, 48 ≤ c ∧ c ≤ 57) := by
        rw [Bool.eq_iff_iff, decide_eq_true_iff, List.all_eq_true]
        constructor
        · exact fun h c hc => (digit_mem c).mp (of_decide_eq_true (h c hc))
        · exact fun h c hc => decide_eq_true ((digit_mem c).mpr (h c hc))
      rw [e]
      refine ite2 (fun h => no (fun q => ?_) H2 sm) (fun h3 => ?_)
      · rw [decide_eq_true q.2.2.1] at h
        cases h
      · have d3 : ∀ c ∈ d, 48 ≤ c ∧ c ≤ 57 := Classical.byContradiction fun e => h3 (by rw [decide_eq_false e]; rfl)
        obtain ⟨c, r, rfl⟩ : ∃ c r, d = c :: r := by
          cases d with
          | nil => exact absurd rfl d0
          | cons c r => exact ⟨c, r, rfl⟩
        refine ⟨_, rfl, S (c :: r), 0, c, rfl, rfl, hzd, (show atI (c :: r) 0 = some c from atI_nat (j := 0) rfl), rfl, _, rfl, ?_⟩
        show if (!decide (tV [c] = tV [48])) = true then _ else _
        rw [dec_t]
        have fin : ∀ b : Bool, (b = true ↔ c ≠ 48 ∨ t = [48]) → Q (.bl b) H2 := fun b hb => by
          refine kb b ?_ H2 sm
          rw [hb]
          constructor
          · exact fun q => ⟨d0, d100, d3, q.imp (fun n e => n (Option.some.inj e)) id⟩
          · exact fun q => q.2.2.2.imp (fun n e => n (by rw [e]; rfl)) id
        refine ite2 (fun h4 => fin true ⟨fun _ => .inl fun e => by rw [e] at h4; exact absurd h4 (by decide), fun _ => rfl⟩) (fun h4 => ?_)
        refine ⟨_, rfl, rfl, ?_⟩
        show Q (.bl (decide (tV t = tV [48]))) H2
        rw [dec_t]
        have c48 : c = 48 := Classical.byContradiction fun e => h4 (by
          rw [decide_eq_false fun q => e (List.cons.inj q).1]
          rfl)
        exact fin _ (by rw [decide_eq_true_iff]; exact ⟨.inr, fun q => q.elim (fun n => absurd c48 n) id⟩)
end
end L2.KK
namespace L2.KK
open PySem PySem.Spec PyProof.Rows C8 SX MT
theorem sc_BadText_init : FnScope ["self", "line"] ["self", "line"] (defScope s_BadText_init) := ⟨rfl, rfl, rfl, by decide +kernel, rfl, by decide +kernel, by decide +kernel⟩
theorem sc_read_part : FnScope ["text", "line"] ["text", "line"] (defScope s_read_part) := ⟨rfl, rfl, rfl, by decide +kernel, rfl, by decide +kernel, by decide +kernel⟩
theorem sc_parts_of : FnScope ["text", "sign"] ["text"] (defScope s_parts_of) := ⟨rfl, rfl, rfl, by decide +kernel, rfl, by decide +kernel, by decide +kernel⟩
/-- what BadText leaves -/
def OverV (C : Addr) (fld : Str) (H : Hp) (E : XK) (v : V) : Prop := ∀ d H', Same H H' → H d = none → H' d = some (.xd [(fld, v)]) → E (.ref C) (some d) H'
theorem OverV.pass {C : Addr} {fld : Str} {H H' : Hp} {E : XK} {v : V} (h : OverV C fld H E v) (sm : Same H H') : OverV C fld H' E v := fun d H2 s2 hd e => h d H2 (sm.trans s2) (sm.free hd) e
section
variable {P : Program} {w : World} {K : PySem.W.Frag} {mg : Str → Option Value} {base : Heap}
theorem x_BadText (Z : Ev K mg) (T : Bl mg) : MakX P w K mg base 1 "BadText" Z.BadText (spX1 K Z.BadText "line") := by
  refine makXOf Z.k_BadText Z.o_BadText Z.d_BadText sc_BadText_init (fun _ _ _ _ _ _ us hl => match us, hl with | [_, _], _ => rfl) (fun vs H Q E h => ?_) (fun f cdv A outer s H vs Q E hr h => ?_)
  · obtain ⟨a, v, rfl, _⟩ := h
    rfl
  · obtain ⟨a, v, rfl, ha, q⟩ := h
    refine ⟨_, (pss_cons (ps_expr (pe_pinit Z.b_PricedError Z.k_PricedError (by rfl) (pa_cons (pv 0) (pa_cons pe_str pa_nil))))
      (pss_one (ps_ost (pv 0) (pv 1)))), ?_⟩
    exact ⟨_, rfl, a, Z.BadText, _, rfl, by decide, Z.o_BadText.oex, ha, _, rfl, _, rfl, a, Z.BadText, rfl, Z.o_BadText.oex, Z.n_BadText_line, .inl ⟨ha, fun dx hd ne => q dx hd ne⟩⟩
def spReadP (C : Addr) : Sp := fun vs H Q E => ∃ (t : List Nat) (ln : V), vs = [tV t, ln] ∧ t.length ≤ 1000000 ∧ (∀ v, readPart t = some v → ∀ y H', Same H H' → LeafV y v → Q y H') ∧ (readPart t = none → OverV C "line" H E ln)
theorem c_read_part (D : FnAt K mg "read_part" s_read_part) (Z : Ev K mg) (T : Bl mg) (x_BadText : MakX P w K mg base 1 "BadText" Z.BadText (spX1 K Z.BadText "line")) (c_is_word : Cal P w K mg base 1 "is_word" spIsW []) (c_is_number : Cal P w K mg base 1 "is_number" spIsN []) :
    CalX P w K mg base 3 "read_part" (spReadP Z.BadText) := by
  refine calOfX D sc_read_part (fun _ _ _ _ _ _ us hl => match us, hl with | [_, _], _ => rfl) (fun vs H Q E h => ?_) (fun f cdv A outer s H vs Q E hr h => ?_)
  · obtain ⟨t, ln, rfl, _⟩ := h
    rfl
  · obtain ⟨t, ln, rfl, hz, kQ, kE⟩ := h
    refine ⟨_, (pss_cons (ps_if (pt_cmpR op_eq (pv 0) pe_str (nomark _))
        (pss_one (ps_ret pe_non))
        pss_nil)
      (pss_cons (ps_if (pt_val (pe_c c_is_word hr (by decide) (by rfl) (pa_cons (pv 0) pa_nil)))
        (pss_one (ps_ret (pv 0)))
        pss_nil)
      (pss_cons (ps_if (pt_not (pt_val (pe_c c_is_number hr (by decide) (by rfl) (pa_cons (pv 0) pa_nil))))
        (pss_one (ps_rx x_BadText hr (by decide) (by rfl) rfl (takes_of rfl rfl rfl rfl) (pa_cons (pv 1) pa_nil)))
        pss_nil)
      (pss_one (ps_ret (pe_ifExp (pt_cmpR op_eq (pe_ix ix_str (pv 0) pe_int (fun _ _ => rfl)) pe_str (nomark _)) (pe_un un_neg (pe_callTy call_int_str (by rfl) T.b_int (by decide +kernel) (pa_cons (pe_slice sl_txt (pv 0) (po_some pe_int) po_none) pa_nil))) (pe_callTy call_int_str (by rfl) T.b_int (by decide +kernel) (pa_cons (pv 0) pa_nil)))))))), ?_⟩
    unfold readPart at kQ kE
    refine ⟨_, rfl, rfl, _, rfl, ?_⟩
    show if decide (tV t = tV [45]) = true then _ else _
    rw [dec_t]
    refine ite2 (fun h => ?_) (fun h => ?_)
    · rw [if_pos (of_decide_eq_true h)] at kQ
      exact kQ .non rfl .non _ (Same.refl _) rfl
    · have h1 : ¬ t = [45] := fun e => h (decide_eq_true e)
      rw [if_neg h1] at kQ kE
      refine ⟨_, rfl, t, rfl, hz, fun H1 sm1 => ⟨_, rfl, ite2 (fun h => ?_) (fun h => ?_)⟩⟩
      · have h2 := of_decide_eq_true h
        rw [if_pos h2] at kQ
        exact ⟨_, rfl, kQ _ rfl _ H1 sm1 rfl⟩
      · have h2 : ¬ letters t := fun e => h (decide_eq_true e)
        rw [if_neg h2] at kQ kE
        refine ⟨_, rfl, t, rfl, hz, fun H2 sm2 => ⟨_, rfl, ?_⟩⟩
        by_cases h3 : numB t
        · rw [decide_eq_true h3]
          refine iteF ?_
          rw [if_pos h3] at kQ
          have kQ' := kQ _ rfl
          obtain ⟨n1, n2, n3, n4⟩ := h3
          have ht : t ≠ [] := fun e => by
            rw [e] at n1
            exact n1 rfl
          obtain ⟨c, r, rfl⟩ : ∃ c r, t = c :: r := by
            cases t with
            | nil => exact absurd rfl ht
            | cons c r => exact ⟨c, r, rfl⟩
          have hs : (S (c :: r)).length ≤ sizeLine := by rw [S_len]; exact lt_lineT (Nat.le_trans hz (by decide))
          have okd : ∀ d : List Nat, (∀ x ∈ d, 48 ≤ x ∧ x ≤ 57) → d.all (fun c => decide (48 ≤ c) && decide (c ≤ 57)) = true := fun d hd => List.all_eq_true.mpr fun x hx => by
            rw [decide_eq_true (hd x hx).1, decide_eq_true (hd x hx).2]
            rfl
          have bound : ∀ n : Int, Ok (.int n) → n.natAbs < 10 ^ 100 := fun n h => h
          have hv := (readPart_toks (t := c :: r) (v := .int (valI (c :: r))) (by unfold readPart; rw [if_neg h1, if_neg h2, if_pos ⟨n1, n2, n3, n4⟩])).2.1
          refine ⟨_, rfl, S (c :: r), 0, c, rfl, rfl, hs, (show atI (c :: r) 0 = some c from atI_nat (j := 0) rfl), rfl, _, rfl, ?_⟩
          show if decide (tV [c] = tV [45]) = true then _ else _
          rw [dec_t]
          refine ite2 (fun h => ?_) (fun h => ?_)
          · have ec : (c :: r).take 1 = [45] := of_decide_eq_true h
            unfold digs at n1 n2 n3
            rw [if_pos ec] at n1 n2 n3
            unfold valI at kQ' hv
            rw [if_pos ec] at kQ' hv
            refine ⟨_, rfl, 1, rfl, S (c :: r), rfl, hs, ?_⟩
            rw [slice_from (by decide : (0 : Int) ≤ 1)]
            exact ⟨_, _, rfl, int_S (okd _ n3) n1 (Nat.le_trans n2 (by decide)), by rw [S_len]; exact Nat.le_trans n2 (by decide), _, rfl, kQ' _ H2 (sm1.trans sm2) ⟨rfl, hv⟩⟩
          · have ec : ¬ (c :: r).take 1 = [45] := fun e => h (decide_eq_true e)
            unfold digs at n1 n2 n3
            rw [if_neg ec] at n1 n2 n3
            unfold valI at kQ' hv
            rw [if_neg ec] at kQ' hv
            exact ⟨_, rfl, _, _, rfl, int_S (okd _ n3) n1 (Nat.le_trans n2 (by decide)), by rw [S_len]; exact Nat.le_trans n2 (by decide), kQ' _ H2 (sm1.trans sm2) ⟨rfl, hv⟩⟩
        · rw [decide_eq_false h3]
          refine iteT ?_
          rw [if_neg h3] at kE
          exact ⟨_, rfl, (by show 1 ≤ 1000; decide), mkO_1 fun d H' sm hd e => ((kE rfl).pass (sm1.trans sm2)) d H' sm hd e⟩
def spParts : Sp := fun vs H Q _ => ∃ l : List Nat, vs = [tV l] ∧ l.length ≤ 100000 ∧ ∀ p H', Same H H' → H p = none → H' p = some (.lst (tL (wordsL l))) → Q (.ref p) H'
theorem c_parts_of (D : FnAt K mg "parts_of" s_parts_of) (T : Bl mg) : Cal P w K mg base 1 "parts_of" spParts [] := by
  refine calOf D sc_parts_of (fun _ _ _ _ _ _ us hl => match us, hl with | [_], _ => rfl) (fun vs H Q E h => ?_) (fun f cdv A outer s H vs Q E hr h => ?_)
  · obtain ⟨l, rfl, _⟩ := h
    rfl
  · obtain ⟨l, rfl, hz, k⟩ := h
    have nd := sc_parts_of.nd
    refine ⟨_, (pss_cons (ps_signs PassesOwn.never rfl nd (it := 0) (is := 1) rfl rfl rfl rfl (by decide) (by decide +kernel) rfl rfl)
      (pss_one (ps_ret (pe_words (pv 0))))), ?_⟩
    have l1 := surL_len 40 l
    have l2 := surL_len 41 (surL 40 l)
    refine ⟨fun i => match i with | 0 => S l | 1 => S (surL 40 l) | _ => S (par2 l), rfl, fun i c hc => ?_, fun σ' hσ => ?_⟩
    · have hcs : (Str.ofString "()").cps = #[40, 41] := by decide
      rw [hcs] at hc
      match i, hc with
      | 0, hc =>
        obtain rfl : 40 = c := Option.some.inj hc
        refine ⟨?_, ?_⟩
        · show (S l).length + ((S l).length + 1) * 3 ≤ _
          rw [S_len]
          omega
        · exact (replace_sur l 40).symm
      | 1, hc =>
        obtain rfl : 41 = c := Option.some.inj hc
        refine ⟨?_, ?_⟩
        · show (S (surL 40 l)).length + ((S (surL 40 l)).length + 1) * 3 ≤ _
          rw [S_len]
          omega
        · exact (replace_sur (surL 40 l) 41).symm
    · have hcs : (Str.ofString "()").cps.size = 2 := by decide
      rw [hcs] at hσ
      refine ⟨_, hσ, ⟨_, rfl⟩, S (par2 l), rfl, rfl, ?_, fun p hp => ?_⟩
      · rw [S_len]
        have := par2_len l
        exact lt_lineT (by omega)
      · refine k p _ (same_new hp) hp ?_
        rw [upd_same, words_par2, List.map_map]
        rfl
end
end L2.KK
namespace L2.KK
open PySem PySem.Spec PyProof.Rows C8 SX MT
theorem sc_read_telling : FnScope ["text", "line", "open_lots", "whole", "part", "inner"] ["text", "line"] (defScope s_read_telling) := ⟨rfl, rfl, rfl, by decide +kernel, rfl, by decide +kernel, by decide +kernel⟩
theorem paired_imp {α β : Type} {F G : α → β → Prop} : ∀ {xs : List α} {ys : List β}, Paired F xs ys → (∀ x ∈ xs, ∀ y, F x y → G x y) → Paired G xs ys
  | _, _, .nil, _ => .nil
  | _, _, .cons r t, h => .cons (h _ List.mem_cons_self _ r) (paired_imp t fun x hx => h x (List.mem_cons_of_mem _ hx))
theorem wtT_eq (ts : List (List Nat)) : wtT ts = (ts.map (·.length)).sum + ts.length := by
  induction ts with
  | nil => rfl
  | cons t ts ih =>
    have e : wtT (t :: ts) = t.length + 1 + wtT ts := by unfold wtT; rw [List.map_cons, List.sum_cons]
    rw [e, ih, List.map_cons, List.sum_cons, List.length_cons]
    omega
theorem words_wt (l : List Nat) : wtT (wordsL l) ≤ 9 * l.length + 1 := by
  have h := StrLaws.words_weight (S (par2 l))
  rw [words_par2, lens, List.length_map, S_len] at h
  have := par2_len l
  rw [wtT_eq]
  omega
/-- a list of values at a -/
def LotAt (K : PySem.W.Frag) (H : Hp) (a : Addr) (vs : List Tv) : Prop := ∃ ys, H a = some (.lst ys) ∧ Paired (TvAt K H) ys vs
section
variable {K : PySem.W.Frag} {H H' : Hp} {a b : Addr} {vs : List Tv} {xs ys : List V}
theorem LotAt.grow (h : LotAt K H a vs) (e : Same H H') : LotAt K H' a vs := by
  obtain ⟨ys, h1, h2⟩ := h
  exact ⟨ys, e _ _ h1, prT (sameT_of e) h2⟩
theorem LotAt.upd (h : LotAt K H a vs) (n : a ≠ b) (hb : H b = some (.lst xs)) : LotAt K (upd H b (.lst ys)) a vs := by
  obtain ⟨zs, h1, h2⟩ := h
  exact ⟨zs, by rw [upd_ne n]; exact h1, prT (sameT_upd hb) h2⟩
theorem LotAt.new {o : HO} (h : LotAt K H a vs) (hb : H b = none) : LotAt K (L2.upd H b o) a vs := h.grow (same_new hb)
end
/-- the reading's state in the heap -/
structure RSt (K : PySem.W.Frag) (H0 H : Hp) (p O w : Addr) (ws : List (List Nat)) (as : List Addr) (st : RS) : Prop where
  sm : Same H0 H
  hp : H p = some (.lst (tL ws))
  hO : H O = some (.lst (as.map V.ref))
  hw : LotAt K H w st.2
  hs : Paired (LotAt K H) as st.1
  nd : (as ++ [w]).Nodup
  nO : O ∉ as ++ [w]
  np : p ∉ as ++ [w]
  pO : p ≠ O
  fr : ∀ a ∈ as ++ [w], H0 a = none
  fO : H0 O = none
section
variable {K : PySem.W.Frag} {H0 H H' : Hp} {p O w : Addr} {ws : List (List Nat)} {as : List Addr} {st : RS}
theorem RSt.grow (R : RSt K H0 H p O w ws as st) (e : Same H H') : RSt K H0 H' p O w ws as st :=
  ⟨R.sm.trans e, e _ _ R.hp, e _ _ R.hO, R.hw.grow e, paired_imp R.hs fun _ _ _ h => h.grow e, R.nd, R.nO, R.np, R.pO, R.fr, R.fO⟩
theorem RSt.wO (R : RSt K H0 H p O w ws as st) : w ≠ O := fun z => R.nO (by rw [← z]; exact List.mem_append_right _ (List.mem_singleton.mpr rfl))
theorem RSt.wp (R : RSt K H0 H p O w ws as st) : w ≠ p := fun z => R.np (by rw [← z]; exact List.mem_append_right _ (List.mem_singleton.mpr rfl))
theorem RSt.wa (R : RSt K H0 H p O w ws as st) : ∀ a ∈ as, a ≠ w := fun a ha z => by
  have := (List.nodup_append.mp R.nd).2.2 a ha w (List.mem_singleton.mpr rfl)
  exact this z
/-- a part is put to the open list -/
theorem RSt.app (R : RSt K H0 H p O w ws as st) {ys : List V} {y : V} {v : Tv} (hw : H w = some (.lst ys)) (pr : Paired (TvAt K H) ys st.2) (hy : TvAt K H y v) : RSt K H0 (upd H w (.lst (ys ++ [y]))) p O w ws as (st.1, st.2 ++ [v]) := by
  have sT := sameT_upd (ys := ys ++ [y]) hw
  refine ⟨same_fresh R.sm (R.fr w (List.mem_append_right _ (List.mem_singleton.mpr rfl))), by rw [upd_ne R.wp.symm]; exact R.hp, by rw [upd_ne R.wO.symm]; exact R.hO, ⟨_, upd_same, paired_append (prT sT pr) (.cons (TvAt.step sT v y hy) .nil)⟩, paired_imp R.hs fun a ha vs h => h.upd (R.wa a ha) hw, R.nd, R.nO, R.np, R.pO, R.fr, R.fO⟩
/-- an open list more -/
theorem RSt.open_ (R : RSt K H0 H p O w ws as st) {w2 : Addr} (hw2 : upd H O (.lst (as.map V.ref ++ [.ref w])) w2 = none) : RSt K H0 (upd (upd H O (.lst (as.map V.ref ++ [.ref w]))) w2 (.lst [])) p O w2 ws (as ++ [w]) (st.1 ++ [st.2], []) := by
  have eO : upd H O (.lst (as.map V.ref ++ [.ref w])) O = some (.lst ((as ++ [w]).map V.ref)) := by rw [upd_same, List.map_append]; rfl
  have sm1 : Same H0 (upd H O (.lst (as.map V.ref ++ [.ref w]))) := same_fresh R.sm R.fO
  have n2 : ∀ a ∈ as ++ [w], a ≠ w2 := fun a ha z => by
    subst z
    have nO : a ≠ O := fun z => R.nO (z ▸ ha)
    rw [upd_ne nO] at hw2
    rcases List.mem_append.mp ha with h | h
    · obtain ⟨vs, ys, e, _⟩ := paired_left R.hs a h
      rw [e] at hw2
      cases hw2
    · rw [List.mem_singleton.mp h] at hw2
      obtain ⟨ys, e, _⟩ := R.hw
      rw [e] at hw2
      cases hw2
  have nO2 : O ≠ w2 := ne_of_none eO hw2
  have np2 : p ≠ w2 := by
    have ep : upd H O (.lst (as.map V.ref ++ [.ref w])) p = some (.lst (tL ws)) := by rw [upd_ne R.pO]; exact R.hp
    exact ne_of_none ep hw2
  refine ⟨same_fresh sm1 (sm1.free hw2), ?_, ?_, ⟨[], upd_same, .nil⟩, ?_, ?_, ?_, ?_, R.pO, fun a ha => ?_, R.fO⟩
  · rw [upd_ne np2, upd_ne R.pO]
    exact R.hp
  · rw [upd_ne nO2]
    exact eO
  · refine paired_append (paired_imp R.hs fun a ha vs h => ?_) (.cons ?_ .nil)
    · exact (h.upd (fun z => R.nO (by rw [← z]; exact List.mem_append_left _ ha)) R.hO).new hw2
    · exact (R.hw.upd R.wO R.hO).new hw2
  · rw [List.nodup_append]
    refine ⟨R.nd, by simp, fun a ha b hb => ?_⟩
    rw [List.mem_singleton.mp hb]
    exact n2 a ha
  · intro h
    rcases List.mem_append.mp h with h | h
    · exact R.nO h
    · exact nO2 (List.mem_singleton.mp h)
  · intro h
    rcases List.mem_append.mp h with h | h
    · exact R.np h
    · exact np2 (List.mem_singleton.mp h)
  · rcases List.mem_append.mp ha with h | h
    · exact R.fr a h
    · rw [List.mem_singleton.mp h]
      exact sm1.free hw2
/-- an open list is closed, behind the tuple's making -/
theorem RSt.close {a : Addr} {l : List Tv} {O' : List (List Tv)} {W : List Tv} {y : V} (R : RSt K H0 H p O w ws (as ++ [a]) (O' ++ [l], W)) (hy : TvAt K H y (.tup W)) {ys : List V} (ha : H a = some (.lst ys)) (pr : Paired (TvAt K H) ys l) :
    RSt K H0 (upd (upd H O (.lst (as.map V.ref))) a (.lst (ys ++ [y]))) p O a ws as (O', l ++ [.tup W]) := by
  have hma : a ∈ (as ++ [a]) ++ [w] := List.mem_append_left _ (List.mem_append_right _ (List.mem_singleton.mpr rfl))
  have naO : a ≠ O := fun z => R.nO (by rw [← z]; exact hma)
  have nap : a ≠ p := fun z => R.np (by rw [← z]; exact hma)
  have nd1 := (List.nodup_append.mp R.nd).1
  have naa : ∀ b ∈ as, b ≠ a := fun b hb => (List.nodup_append.mp nd1).2.2 b hb a (List.mem_singleton.mpr rfl)
  have sub : ∀ b ∈ as ++ [a], b ∈ (as ++ [a]) ++ [w] := fun b hb => List.mem_append_left _ hb
  have sT1 := sameT_upd (ys := as.map V.ref) R.hO
  have ha1 : upd H O (.lst (as.map V.ref)) a = some (.lst ys) := by rw [upd_ne naO]; exact ha
  have sT2 := sameT_upd (ys := ys ++ [y]) ha1
  have sT := sameT_trans sT1 sT2
  have hs1 : Paired (LotAt K H) as O' := by
    have q := prT_rev R.hs
    rw [List.reverse_append, List.reverse_append] at q
    cases q with
    | cons _ t =>
      have t2 : Paired (LotAt K H) as.reverse O'.reverse := t
      have q2 := prT_rev t2
      rw [List.reverse_reverse, List.reverse_reverse] at q2
      exact q2
  refine ⟨same_fresh (same_fresh R.sm R.fO) (R.fr a hma), ?_, ?_, ⟨_, upd_same, paired_append (prT sT pr) (.cons (TvAt.step sT _ y hy) .nil)⟩, paired_imp hs1 fun b hb vs h => ?_, nd1, fun h => R.nO (sub _ h), fun h => R.np (sub _ h), R.pO, fun b hb => R.fr b (sub b hb), R.fO⟩
  · rw [upd_ne nap.symm, upd_ne R.pO]
    exact R.hp
  · rw [upd_ne naO.symm]
    exact upd_same
  · have nbO : b ≠ O := fun z => R.nO (by rw [← z]; exact sub b (List.mem_append_left _ hb))
    exact (h.upd nbO R.hO).upd (naa b hb) ha1
end
section
variable {P : Program} {w : World} {K : PySem.W.Frag} {mg : Str → Option Value} {base : Heap}
def spRead (K : PySem.W.Frag) (C : Addr) : Sp := fun vs H Q E => ∃ (l : List Nat) (ln : V), vs = [tV l, ln] ∧ l.length ≤ 100000 ∧ (∀ v, readM l = some v → ∀ y H', Same H H' → TvAt K H' y v → Q y H') ∧ (readM l = none → OverV C "line" H E ln)
theorem run_none {ws : List (List Nat)} {st : RS} {i : Nat} {s : RS} {t : List Nat} (h : runR (ws.take i) st = some s) (ht : ws[i]? = some t) (hn : stepR s t = none) : runR ws st = none := by
  have e : ws = ws.take i ++ t :: ws.drop (i + 1) := by
    have hlt := (List.getElem?_eq_some_iff.mp ht)
    obtain ⟨h1, h2⟩ := hlt
    rw [← h2, ← List.drop_eq_getElem_cons h1, List.take_append_drop]
  rw [e, runR_append, h]
  show (match stepR s t with | none => none | some s => runR (ws.drop (i + 1)) s) = none
  rw [hn]
theorem run_step {ws : List (List Nat)} {st : RS} {i : Nat} {s s' : RS} {t : List Nat} (h : runR (ws.take i) st = some s) (ht : ws[i]? = some t) (hn : stepR s t = some s') : runR (ws.take (i + 1)) st = some s' := by
  rw [tl_take_snoc ht, runR_append, h]
  show (match stepR s t with | none => none | some s => runR [] s) = some s'
  rw [hn]
  rfl
theorem leaf_at {H : Hp} {y : V} {v : Tv} (h : LeafV y v) : TvAt K H y v := by
  cases v with
  | non => exact tvAt_non.mpr h
  | int n => exact tvAt_int.mpr h.1
  | str s => exact tvAt_str.mpr h
  | tup vs => exact h.elim
theorem c_read_telling (D : FnAt K mg "read_telling" s_read_telling) (Z : Ev K mg) (T : Bl mg) (x_BadText : MakX P w K mg base 1 "BadText" Z.BadText (spX1 K Z.BadText "line")) (c_parts_of : Cal P w K mg base 1 "parts_of" spParts []) (c_read_part : CalX P w K mg base 3 "read_part" (spReadP Z.BadText)) (c_telling : Cal P w K mg base 2 "telling" (spTell K) []) :
    CalX P w K mg base 4 "read_telling" (spRead K Z.BadText) := by
  refine calOfX D sc_read_telling (fun _ _ _ _ _ _ us hl => match us, hl with | [_, _], _ => rfl) (fun vs H Q E h => ?_) (fun f cdv A outer s H vs Q E hr h => ?_)
  · obtain ⟨l, ln, rfl, _⟩ := h
    rfl
  · obtain ⟨l, ln, rfl, hz, kQ, kE⟩ := h
    have nd := sc_read_telling.nd
    refine ⟨_, (pss_cons (ps_set (i := 2) nd rfl (by first | exact Or.inl rfl | exact Or.inr rfl) (pe_lst pa_nil))
      (pss_cons (ps_set (i := 3) nd rfl (by first | exact Or.inl rfl | exact Or.inr rfl) (pe_lst pa_nil))
      (pss_cons (ps_for (passes_of rfl) rfl (piList K (pe_c c_parts_of hr (by decide) (by rfl) (pa_cons (pv 0) pa_nil))) (pg_name (i := 4) nd rfl (by first | exact Or.inl rfl | exact Or.inr rfl))
        (pss_one (ps_if (pt_cmpR op_eq (pv 4) pe_str (nomark _))
          (pss_cons (ps_expr (pe_bm PySem.F.plainAttrs_list PySem.F.slot_list_append PySem.F.type_list_append mt_append (pv 2) (pa_cons (pv 3) pa_nil)))
          (pss_cons (ps_set (i := 3) nd rfl (by first | exact Or.inl rfl | exact Or.inr rfl) (pe_lst pa_nil))
          (pss_one (ps_if (pt_cmpR op_gt (pe_callB (crLen K) (by rfl) T.b_len (by decide +kernel) (pa_cons (pv 2) pa_nil)) (pe_gc (by rfl) T.g_DEEP) (nomark _))
            (pss_one (ps_rx x_BadText hr (by decide) (by rfl) rfl (takes_of rfl rfl rfl rfl) (pa_cons (pv 1) pa_nil)))
            pss_nil))))
          (pss_one (ps_if (pt_cmpR op_eq (pv 4) pe_str (nomark _))
            (pss_cons (ps_if (pt_not (ptTru K (pv 2)))
              (pss_one (ps_rx x_BadText hr (by decide) (by rfl) rfl (takes_of rfl rfl rfl rfl) (pa_cons (pv 1) pa_nil)))
              pss_nil)
            (pss_cons (ps_set (i := 5) nd rfl (by first | exact Or.inl rfl | exact Or.inr rfl) (pe_callTy (crTup K) (by rfl) T.b_tuple (by decide +kernel) (pa_cons (pv 3) pa_nil)))
            (pss_cons (ps_set (i := 3) nd rfl (by first | exact Or.inl rfl | exact Or.inr rfl) (pe_bm0 PySem.F.plainAttrs_list PySem.F.slot_list_pop PySem.F.type_list_pop mt_pop (pv 2)))
            (pss_one (ps_expr (pe_bm PySem.F.plainAttrs_list PySem.F.slot_list_append PySem.F.type_list_append mt_append (pv 3) (pa_cons (pv 5) pa_nil)))))))
            (pss_one (ps_expr (pe_bm PySem.F.plainAttrs_list PySem.F.slot_list_append PySem.F.type_list_append mt_append (pv 3) (pa_cons (pe_cx c_read_part hr (by decide) (by rfl) (takes_of rfl rfl rfl rfl) (pa_cons (pv 4) (pa_cons (pv 1) pa_nil))) pa_nil)))))))))
      (pss_cons (ps_if (PW.pt (pw_or (ptTru K (pv 2)) (pw_or (pt_cmpR op_ne (pe_callB (crLen K) (by rfl) T.b_len (by decide +kernel) (pa_cons (pv 3) pa_nil)) pe_int (nomark _)) (pw_or1 (pt_cmpR op_ne (pe_c c_telling hr (by decide) (by rfl) (pa_cons (pe_ix (ixL K) (pv 3) pe_int (fun _ _ => rfl)) pa_nil)) (pv 0) (nomark _))))))
        (pss_one (ps_rx x_BadText hr (by decide) (by rfl) rfl (takes_of rfl rfl rfl rfl) (pa_cons (pv 1) pa_nil)))
        pss_nil)
      (pss_one (ps_ret (pe_ix (ixL K) (pv 3) pe_int (fun _ _ => rfl)))))))), ?_⟩
    have wt := words_wt l
    refine ⟨Nat.zero_le _, fun O hO => ?_⟩
    refine ⟨Nat.zero_le _, fun w0 hw0 => ?_⟩
    have smO : Same H (upd H O (.lst [])) := same_new hO
    have eO0 : upd H O (.lst []) O = some (.lst []) := upd_same
    have smw : Same H (upd (upd H O (.lst [])) w0 (.lst [])) := same_fresh smO (smO.free hw0)
    refine ⟨_, rfl, l, rfl, hz, fun p H1 sm1 hp0 hp => ?_⟩
    refine ⟨p, rfl, ⟨_, SqL.of hp⟩, ?_⟩
    have nOw : O ≠ w0 := ne_of_none eO0 hw0
    have eOw : upd (upd H O (.lst [])) w0 (.lst []) O = some (.lst []) := by rw [upd_ne nOw]; exact eO0
    have npO : p ≠ O := (ne_of_none eOw hp0).symm
    have npw : p ≠ w0 := (ne_of_none (show upd (upd H O (.lst [])) w0 (.lst []) w0 = some (.lst []) from upd_same) hp0).symm
    have R0 : RSt K H H1 p O w0 (wordsL l) [] ([], []) := ⟨smw.trans sm1, hp, sm1 _ _ eOw, ⟨[], sm1 _ _ upd_same, .nil⟩, .nil, by simp, by simpa using nOw, by simpa using npw, npO, fun a ha => by
      have e : a = w0 := by simpa using ha
      rw [e]
      exact smO.free hw0, hO⟩
    have bad : readM l = none → ∀ {H2 : Hp}, Same H H2 → OverV Z.BadText "line" H2 E ln := fun h H2 s => (kE h).pass s
    refine for_list (xs := tL (wordsL l)) (fun i σ' H' => ∃ (w : Addr) (as : List Addr) (c4 c5 : Option V) (st : RS), σ' = [some (tV l), some ln, some (.ref O), some (.ref w), c4, c5] ∧ runR ((wordsL l).take i) ([], []) = some st ∧ st.1.length ≤ 12 ∧ RSt K H H' p O w (wordsL l) as st)
      ⟨w0, [], none, none, ([], []), rfl, rfl, Nat.zero_le _, R0⟩ (fun i σ' H' _ ⟨_, _, _, _, _, _, _, _, R⟩ => SqL.of R.hp) (fun i x σ' H' hx hp => ?_) (fun σ' H' hp => ?_)
    · obtain ⟨w1, as, c4, c5, st, rfl, hrun, l12, R⟩ := hp
      obtain ⟨t, ht, rfl⟩ := tl_get hx
      have htm := List.mem_of_getElem? ht
      have hwt := wtT_mem htm
      have las : as.length = st.1.length := R.hs.length
      obtain ⟨ysw, hw1, prw⟩ := id R.hw
      -- the open list isn't long
      have lysw : ysw.length ≤ 1000000 := by
        have e1 : ysw.length = st.2.length := prw.length
        have e2 := runR_flat hrun
        have e3 := congrArg List.length e2
        have e4 : (flatR st).length ≤ (wordsL l).length := by
          rw [e3]
          show ([] ++ (wordsL l).take i).length ≤ _
          rw [List.nil_append, List.length_take]
          omega
        unfold flatR at e4
        rw [List.length_append] at e4
        have e5 := len_le_toksL st.2
        have e6 := pos_wtT (wordsL l)
        omega
      have fail : stepR st t = none → readM l = none := fun h => by
        unfold readM
        rw [run_none hrun ht h]
      refine ⟨_, rfl, rfl, _, rfl, ?_⟩
      show if decide (tV t = tV [40]) = true then _ else _
      rw [dec_t]
      refine ite2 (fun h => ?_) (fun h => ?_)
      · have e40 : t = [40] := of_decide_eq_true h
        subst e40
        refine ⟨_, rfl, .inl ⟨rfl, _, SqL.of R.hO⟩, _, rfl, O, _, _, rfl, rfl, R.hO, Nat.lt_of_le_of_lt (show (as.map V.ref).length ≤ 12 by rw [List.length_map]; omega) (by decide), ?_⟩
        refine ⟨Nat.zero_le _, fun w2 hw2 => ?_⟩
        have R2 := R.open_ hw2
        refine ⟨_, rfl, O, _, rfl, .inl (SqL.of R2.hO), _, 12, rfl, rfl, _, rfl, ?_⟩
        rw [List.length_map, List.length_append]
        refine ite2 (fun h => ?_) (fun h => ?_)
        · have hd := of_decide_eq_true h
          have hd' : st.1.length + 1 > 12 := by
            have : as.length + [w1].length = as.length + 1 := rfl
            omega
          refine ⟨_, rfl, (by show 1 ≤ 1000; decide), mkO_1 fun d H2 sm hd2 e => bad (fail ?_) R2.sm d H2 sm hd2 e⟩
          unfold stepR
          rw [if_pos rfl, if_pos hd']
        · have hd' : ¬ st.1.length + 1 > 12 := fun q => h (decide_eq_true (by
            show (12 : Int) < ((as.length + 1 : Nat) : Int)
            omega))
          refine ⟨w2, as ++ [w1], _, c5, (st.1 ++ [st.2], []), rfl, run_step hrun ht ?_, by rw [List.length_append]; show st.1.length + 1 ≤ 12; omega, R2⟩
          unfold stepR
          rw [if_pos rfl, if_neg hd']
      · have n40 : t ≠ [40] := fun e => h (decide_eq_true e)
        refine ⟨_, rfl, rfl, _, rfl, ?_⟩
        show if decide (tV t = tV [41]) = true then _ else _
        rw [dec_t]
        refine ite2 (fun h => ?_) (fun h => ?_)
        · have e41 : t = [41] := of_decide_eq_true h
          subst e41
          refine ⟨_, rfl, _, .inl ⟨_, SqL.of R.hO, rfl⟩, ?_⟩
          obtain ⟨O', W⟩ := st
          cases hO' : O' with
          | nil =>
            have ea : as = [] := by
              cases as with
              | nil => rfl
              | cons a b => rw [hO'] at las; cases las
            rw [ea]
            refine iteT ?_
            refine ⟨_, rfl, (by show 1 ≤ 1000; decide), mkO_1 fun d H2 sm hd2 e => bad (fail ?_) R.sm d H2 sm hd2 e⟩
            unfold stepR
            rw [if_neg n40, if_pos rfl, hO']
            rfl
          | cons o1 o2 =>
            have hne : O' ≠ [] := by rw [hO']; simp
            clear hO'
            obtain ⟨O2, lo, rfl⟩ : ∃ O2 lo, O' = O2 ++ [lo] := ⟨_, _, (List.dropLast_concat_getLast hne).symm⟩
            obtain ⟨as2, a, rfl, pa, ha⟩ := pr_snoc R.hs
            obtain ⟨ysa, ha1, pra⟩ := ha
            have ene : (!(!((as2 ++ [a]).map V.ref).isEmpty)) = false := by
              rw [List.map_append]
              cases as2 <;> rfl
            rw [ene]
            refine iteF ?_
            refine ⟨_, rfl, w1, _, rfl, .inl ⟨SqL.of hw1, fun tp htp => ?_⟩⟩
            have smt : Same H' (upd H' tp (.tup ysw)) := same_new htp
            have R3 := R.grow smt
            have hy : TvAt K (upd H' tp (.tup ysw)) (.ref tp) (.tup W) := tvAt_tup.mpr ⟨tp, ysw, rfl, .inl (.inl upd_same), prT (sameT_of smt) prw⟩
            have ha3 := smt _ _ ha1
            have pra3 := prT (sameT_of smt) pra
            have eO3 := R3.hO
            generalize upd H' tp (.tup ysw) = H3 at *
            have lya : ysa.length ≤ 1000000 := by
              have e1 : ysa.length = lo.length := pra.length
              have e2 := congrArg List.length (runR_flat hrun)
              have e4 : (flatR (O2 ++ [lo], W)).length ≤ (wordsL l).length := by
                rw [e2]
                show ([] ++ (wordsL l).take i).length ≤ _
                rw [List.nil_append, List.length_take]
                omega
              unfold flatR at e4
              rw [List.flatMap_append] at e4
              have e7 : ([lo].flatMap fun l => toksL l ++ [[40]]) = toksL lo ++ [[40]] := List.append_nil _
              rw [List.length_append, List.length_append, e7, List.length_append] at e4
              have e5 := len_le_toksL lo
              have e6 := pos_wtT (wordsL l)
              omega
            refine ⟨_, rfl, .inl ⟨rfl, _, SqL.of eO3⟩, O, _, .ref a, rfl, rfl, eO3, by rw [List.map_append]; simp, ?_⟩
            have edl : ((as2 ++ [a]).map V.ref).dropLast = as2.map V.ref := by
              rw [List.map_append]
              exact List.dropLast_concat
            rw [edl]
            have hma : a ∈ (as2 ++ [a]) ++ [w1] := List.mem_append_left _ (List.mem_append_right _ (List.mem_singleton.mpr rfl))
            have naO : a ≠ O := fun z => R3.nO (by rw [← z]; exact hma)
            have ea4 : upd H3 O (.lst (as2.map V.ref)) a = some (.lst ysa) := by rw [upd_ne naO]; exact ha3
            refine ⟨_, rfl, .inl ⟨rfl, _, SqL.of ea4⟩, _, rfl, a, _, _, rfl, rfl, ea4, Nat.lt_of_le_of_lt lya (by decide), ?_⟩
            refine ⟨a, as2, _, _, (O2, lo ++ [.tup W]), rfl, run_step hrun ht ?_, ?_, R3.close hy ha3 pra3⟩
            · unfold stepR
              rw [if_neg n40, if_pos rfl]
              show (match (O2 ++ [lo]).getLast? with | none => none | some l => some ((O2 ++ [lo]).dropLast, l ++ [Tv.tup W])) = _
              rw [List.getLast?_concat, List.dropLast_concat]
            · rw [List.length_append] at l12
              show O2.length ≤ 12
              have : O2.length + 1 ≤ 12 := l12
              omega
        · have n41 : t ≠ [41] := fun e => h (decide_eq_true e)
          refine ⟨_, rfl, .inl ⟨rfl, _, SqL.of hw1⟩, _, rfl, _, rfl, t, ln, rfl, by omega, fun v hv y H2 sm2 leaf => ?_, fun hn => ?_⟩
          · have R2 := R.grow sm2
            refine ⟨w1, _, _, rfl, rfl, sm2 _ _ hw1, Nat.lt_of_le_of_lt lysw (by decide), ?_⟩
            refine ⟨w1, as, _, c5, (st.1, st.2 ++ [v]), rfl, run_step hrun ht ?_, l12, R2.app (sm2 _ _ hw1) (prT (sameT_of sm2) prw) (leaf_at leaf)⟩
            unfold stepR
            rw [if_neg n40, if_neg n41, hv]
          · refine bad (fail ?_) R.sm
            unfold stepR
            rw [if_neg n40, if_neg n41, hn]
    · obtain ⟨w1, as, c4, c5, st, rfl, hrun, l12, R⟩ := hp
      rw [List.length_map, List.take_length] at hrun
      obtain ⟨O', W⟩ := st
      have las : as.length = O'.length := R.hs.length
      obtain ⟨ysw, hw1, prw⟩ := id R.hw
      have lyw : ysw.length = W.length := prw.length
      have rais : readM l = none → ∀ {H2 : Hp}, Same H H2 → OverV Z.BadText "line" H2 E ln := bad
      refine ⟨_, rfl, _, .inl ⟨_, SqL.of R.hO, rfl⟩, ite2 (fun h => ?_) (fun h => ?_)⟩
      · refine ⟨_, rfl, (by show 1 ≤ 1000; decide), mkO_1 fun d H2 sm hd2 e => bad ?_ R.sm d H2 sm hd2 e⟩
        unfold readM
        rw [hrun]
        cases O' with
        | nil =>
          cases as with
          | nil => exact absurd h (by decide)
          | cons a b => cases las
        | cons o1 o2 => rfl
      · have eO' : O' = [] := by
          cases O' with
          | nil => rfl
          | cons o1 o2 =>
            cases as with
            | nil => cases las
            | cons a b => exact absurd rfl h
        subst eO'
        refine ⟨_, rfl, w1, _, rfl, .inl (SqL.of hw1), rfl, _, rfl, ite2 (fun h => ?_) (fun h => ?_)⟩
        · refine ⟨_, rfl, (by show 1 ≤ 1000; decide), mkO_1 fun d H2 sm hd2 e => bad ?_ R.sm d H2 sm hd2 e⟩
          unfold readM
          rw [hrun]
          match W, lyw with
          | [], _ => rfl
          | [v], lyw =>
            have e1 : ysw.length = 1 := lyw
            rw [e1] at h
            exact absurd h (by decide)
          | _ :: _ :: _, _ => rfl
        · have l1 : ysw.length = 1 := Classical.byContradiction fun e => h (by
            have : decide (V.int (ysw.length : Int) = V.int 1) = false := decide_eq_false fun q => e (by have := V.int.inj q; omega)
            show (!decide (V.int (ysw.length : Int) = V.int 1)) = true
            rw [this]
            rfl)
          rw [l1] at lyw
          obtain ⟨v, rfl⟩ : ∃ v, W = [v] := by
            match W, lyw with
            | [v], _ => exact ⟨v, rfl⟩
          obtain ⟨y, rfl⟩ : ∃ y, ysw = [y] := by
            match ysw, l1 with
            | [y], _ => exact ⟨y, rfl⟩
          have hy : TvAt K H' y v := by
            cases prw with
            | cons a _ => exact a
          have hf := runR_flat hrun
          have hg := runR_good hrun ⟨fun _ z => (List.not_mem_nil z).elim, trivial⟩
          have ht : toks v = wordsL l := by
            have e1 : flatR ([], [v]) = toks v := by
              unfold flatR
              rw [toksL_one]
              rfl
            rw [← e1, hf]
            rfl
          have at0 : atI [y] 0 = some y := atI_nat (j := 0) rfl
          refine ⟨_, rfl, w1, [y], 0, y, rfl, rfl, SqL.of hw1, at0, y, v, rfl, hy, hg.2.1, by rw [ht]; omega, fun H2 sm2 => ?_⟩
          refine ⟨_, rfl, rfl, _, rfl, ?_⟩
          show if (!decide (tV (tellM v) = tV l)) = true then _ else _
          rw [dec_t]
          refine ite2 (fun h => ?_) (fun h => ?_)
          · refine ⟨_, rfl, (by show 1 ≤ 1000; decide), mkO_1 fun d H3 sm hd2 e => bad ?_ (R.sm.trans sm2) d H3 sm hd2 e⟩
            unfold readM
            rw [hrun]
            show (if joinS (wordsL l) = l then some v else none) = none
            rw [if_neg]
            intro q
            have : tellM v = l := by unfold tellM; rw [ht]; exact q
            rw [decide_eq_true this] at h
            exact absurd h (by decide)
          · have e : tellM v = l := Classical.byContradiction fun q => h (by rw [decide_eq_false q]; rfl)
            have hM : readM l = some v := by
              unfold readM
              rw [hrun]
              show (if joinS (wordsL l) = l then some v else none) = some v
              rw [if_pos]
              rw [← ht]
              exact e
            exact ⟨_, rfl, w1, [y], 0, y, rfl, rfl, SqL.of (sm2 _ _ hw1), at0, kQ v hM y H2 (R.sm.trans sm2) (TvAt.step (sameT_of sm2) v y hy)⟩
end
end L2.KK
namespace L2.KK
open PySem PySem.Spec PyProof.Rows C8 SX MT
theorem sc_law_is_part : FnScope ["text", "sign", "digits"] ["text"] (defScope s_law_is_part) := ⟨rfl, rfl, rfl, by decide +kernel, rfl, by decide +kernel, by decide +kernel⟩
theorem sc_law_next : FnScope ["text", "at", "end"] ["text", "at"] (defScope s_law_next) := ⟨rfl, rfl, rfl, by decide +kernel, rfl, by decide +kernel, by decide +kernel⟩
def ahT : Ah → List Nat
  | .start => [115, 116, 97, 114, 116]
  | .part => [112, 97, 114, 116]
  | .blank => [98, 108, 97, 110, 107]
  | .opn => [111, 112, 101, 110]
theorem dec_ah {a b : Ah} : decide (tV (ahT a) = tV (ahT b)) = decide (a = b) := by
  rw [dec_t]
  cases a <;> cases b <;> decide
theorem starts_sg (z : List Nat) (c : Nat) : Txt.startswith (S z) (S [c]) = decide (z.take 1 = [c]) := by
  unfold Txt.startswith
  rw [StrLaws.subAt_eq, S_len, S_len]
  cases z with
  | nil => rfl
  | cons a r =>
    have h1 : decide (0 + [c].length ≤ (a :: r).length) = true := decide_eq_true (by rw [List.length_cons]; show 0 + 1 ≤ _ + 1; omega)
    rw [h1, Bool.true_and]
    show ((List.drop 0 (a :: r)).take 1 == [c]) = _
    rw [List.drop_zero, Bool.eq_iff_iff, beq_iff_eq, decide_eq_true_iff]
theorem mem_sep (c : Nat) : (!decide (c ∈ (S [32, 40, 41]).cps.toList)) = !sep c := by
  have e : decide (c ∈ ([32, 40, 41] : List Nat)) = sep c := by
    unfold sep
    rw [Bool.eq_iff_iff, decide_eq_true_iff, Bool.or_eq_true, Bool.or_eq_true, beq_iff_eq, beq_iff_eq, beq_iff_eq]
    simp [or_assoc]
  show (!decide (c ∈ ([32, 40, 41] : List Nat))) = _
  rw [e]
theorem rest_drop (l : List Nat) : MT.rest l = l.drop (word l).length := by
  conv => rhs; rw [← word_rest l]
  have : ((word l ++ MT.rest l).drop (word (word l ++ MT.rest l)).length) = (word l ++ MT.rest l).drop (word l).length := by rw [word_rest]
  rw [this, List.drop_left]
theorem word_take (l : List Nat) : l.take (word l).length = word l := by
  have : (word l ++ MT.rest l).take (word l).length = word l := List.take_left
  rw [word_rest] at this
  exact this
theorem word_len (l : List Nat) : (word l).length ≤ l.length := by
  have := congrArg List.length (word_rest l)
  rw [List.length_append] at this
  omega
section
variable {P : Program} {w : World} {K : PySem.W.Frag} {mg : Str → Option Value} {base : Heap}
def spLPart : Sp := fun vs H Q _ => ∃ t : List Nat, vs = [tV t] ∧ t.length ≤ 1000000 ∧ ∀ H', Same H H' → Q (.bl (readPart t).isSome) H'
theorem c_law_is_part (D : FnAt K mg "_law_is_part" s_law_is_part) (T : Bl mg) : Cal P w K mg base 1 "_law_is_part" spLPart [] := by
  refine calOf D sc_law_is_part (fun _ _ _ _ _ _ us hl => match us, hl with | [_], _ => rfl) (fun vs H Q E h => ?_) (fun f cdv A outer s H vs Q E hr h => ?_)
  · obtain ⟨t, rfl, _⟩ := h
    rfl
  · obtain ⟨t, rfl, hz, k⟩ := h
    have nd := sc_law_is_part.nd
    have hz' := lt_lineT (Nat.le_trans hz (by decide))
    refine ⟨_, (pss_cons (ps_if (pt_cmpR op_eq (pv 0) pe_str (nomark _))
        (pss_one (ps_ret pe_bl))
        pss_nil)
      (pss_cut (ps_if (PW.pt (pw_and (pt_cmpR op_ne (pv 0) pe_str (nomark _)) (pw_and1 (pt_val (pe_callB (crAll K) (by rfl) T.b_all (by decide +kernel) (pa_cons (pe_lc (own := [("sign", 1)]) (g := gName 1) (tt := tYes) rfl nd (pi_str (pv 0)) (blkOk_by (N := ["text", "sign", "digits"]) (sc := defScope s_law_is_part) (own := [("sign", 1)]) (by decide +kernel)) (fun _ _ _ _ _ => (pg_name (i := 1) nd rfl (by first | exact Or.inl rfl | exact Or.inr rfl))) (fun _ _ _ _ _ => pts_nil) (fun _ _ _ _ _ => (pe_cmpR op_in_sign (pv 1) pe_str (by rfl)))) pa_nil))))))
        (pss_one (ps_ret pe_bl))
        pss_nil)
      (pss_cut (ps_set (i := 2) nd rfl (by first | exact Or.inl rfl | exact Or.inr rfl) (pe_ifExp (pt_val (pe_m1 PySem.F.slot_str_startswith PySem.F.type_str_startswith mt_startswith (pv 0) pe_str)) (pe_slice sl_txt (pv 0) (po_some pe_int) po_none) (pv 0)))
      (pss_cons (ps_if (PW.pt (pw_or (pt_cmpR op_eq (pv 2) pe_str (nomark _)) (pw_or (pt_cmpR op_gt (pe_callB call_len_str (by rfl) T.b_len (by decide +kernel) (pa_cons (pv 2) pa_nil)) pe_int (nomark _)) (pw_or1 (pt_not (pt_val (pe_callB (crAll K) (by rfl) T.b_all (by decide +kernel) (pa_cons (pe_lc (own := [("sign", 1)]) (g := gName 1) (tt := tYes) rfl nd (pi_str (pv 2)) (blkOk_by (N := ["text", "sign", "digits"]) (sc := defScope s_law_is_part) (own := [("sign", 1)]) (by decide +kernel)) (fun _ _ _ _ _ => (pg_name (i := 1) nd rfl (by first | exact Or.inl rfl | exact Or.inr rfl))) (fun _ _ _ _ _ => pts_nil) (fun _ _ _ _ _ => (pe_cmpR op_in_sign (pv 1) pe_str (by rfl)))) pa_nil))))))))
        (pss_one (ps_ret pe_bl))
        pss_nil)
      (pss_one (ps_ret (pe_or (pe_cmpR op_eq (pv 0) pe_str (nomark _)) (pe_one (pe_cmpR op_ne (pe_ix ix_str (pv 2) pe_int (fun _ _ => rfl)) pe_str (nomark _)))))))))), ?_⟩
    unfold readPart at k
    refine ⟨_, rfl, rfl, _, rfl, ?_⟩
    show if decide (tV t = tV [45]) = true then _ else _
    rw [dec_t]
    refine ite2 (fun h => ?_) (fun h => ?_)
    · rw [if_pos (of_decide_eq_true h)] at k
      exact k _ (Same.refl _)
    · have h1 : ¬ t = [45] := fun e => h (decide_eq_true e)
      rw [if_neg h1] at k
      refine ⟨fun σ' H' => Same H H' ∧ ¬ letters t ∧ σ' = [some (tV t), none, none], ?_, ?_⟩
      · refine ⟨_, rfl, rfl, _, rfl, ?_⟩
        show if (!decide (tV t = tV [])) = true then _ else _
        rw [dec_t]
        refine ite2 (fun h => ?_) (fun h => ?_)
        · have ht : t ≠ [] := fun e => by rw [e] at h; exact absurd h (by decide)
          refine ⟨_, rfl, S t, rfl, fun D hD => lc_strT (sel := fun _ => true) (P := fun i y _ => y = V.bl (decide (t.getD i 0 ∈ (Str.ofString "abcdefghijklmnopqrstuvwxyz").cps.toList))) ⟨fun _ _ _ _ _ h => h, fun i H2 _ _ R r => r H2 (Same.refl H2), fun i H2 hi _ _ R r => ⟨_, rfl, t.getD i 0, _, rfl, rfl, r _ H2 (Same.refl H2) rfl⟩⟩ hD hz' (fun H2 bs sm hb _ pb => ?_)⟩
          rw [filter_yes] at pb
          rw [bl_signs (p := fun c => decide (c ∈ (Str.ofString "abcdefghijklmnopqrstuvwxyz").cps.toList)) pb] at hb
          refine ⟨D, _, rfl, SqL.of hb, _, rfl, ?_⟩
          rw [all_id]
          have e : (t.all fun c => decide (c ∈ (Str.ofString "abcdefghijklmnopqrstuvwxyz").cps.toList)) = decide (letters t) := by
            rw [Bool.eq_iff_iff, decide_eq_true_iff, List.all_eq_true]
            constructor
            · exact fun h => ⟨ht, fun c hc => (small_mem c).mp (of_decide_eq_true (h c hc))⟩
            · exact fun h c hc => decide_eq_true ((small_mem c).mpr (h.2 c hc))
          rw [e]
          refine ite2 (fun h2 => ?_) (fun h2 => ⟨sm, fun q => h2 (decide_eq_true q), rfl⟩)
          have k' := k H2 sm
          rw [if_pos (of_decide_eq_true h2)] at k'
          exact k'
        · have ht : t = [] := Classical.byContradiction fun e => h (by rw [decide_eq_false e]; rfl)
          exact ⟨Same.refl _, fun q => q.1 ht, rfl⟩
      · rintro σ1 H1 ⟨sm1, hnl, rfl⟩
        rw [if_neg hnl] at k
        have kb : ∀ b : Bool, (b = true ↔ numB t) → ∀ H', Same H1 H' → Q (.bl b) H' := fun b hb H' sm => by
          have k' := k H' (sm1.trans sm)
          have e : (if numB t then some (Tv.int (valI t)) else none).isSome = b := by
            by_cases c2 : numB t
            · rw [if_pos c2]
              exact (hb.mpr c2).symm
            · rw [if_neg c2]
              cases b with
              | false => rfl
              | true => exact absurd (hb.mp rfl) c2
          rw [e] at k'
          exact k'
        refine ⟨fun σ' H' => H' = H1 ∧ σ' = [some (tV t), none, some (tV (digs t))], ?_, ?_⟩
        · refine ⟨_, rfl, ⟨_, rfl⟩, S t, S [45], rfl, rfl, _, rfl, ?_⟩
          rw [starts_sg]
          refine ite2 (fun h => ?_) (fun h => ?_)
          · refine ⟨_, rfl, 1, rfl, S t, rfl, by rw [S_len]; exact hz', ?_⟩
            rw [slice_from (by decide : (0 : Int) ≤ 1)]
            exact ⟨rfl, by unfold digs; rw [if_pos (of_decide_eq_true h)]; rfl⟩
          · exact ⟨_, rfl, rfl, by unfold digs; rw [if_neg fun q => h (decide_eq_true q)]; rfl⟩
        · rintro σ' H' ⟨rfl, rfl⟩
          have no : ¬ numB t → ∀ H2, Same H' H2 → Q (.bl false) H2 := fun n => kb false ⟨fun z => absurd z Bool.false_ne_true, fun z => absurd z n⟩
          have hl : (digs t).length ≤ t.length := by
            unfold digs
            split
            · rw [List.length_drop]; omega
            · exact Nat.le_refl _
          obtain ⟨d, hd⟩ : ∃ d, d = digs t := ⟨_, rfl⟩
          rw [← hd] at hl ⊢
          have hzd : (S d).length ≤ sizeLine := by rw [S_len]; exact lt_lineT (by omega)
          unfold numB at no kb
          rw [← hd] at no kb
          refine ⟨_, rfl, rfl, _, rfl, ?_⟩
          show if decide (tV d = tV []) = true then _ else _
          rw [dec_t]
          refine ite2 (fun h => no (fun q => q.1 (of_decide_eq_true h)) _ (Same.refl _)) (fun h1 => ?_)
          have d0 : d ≠ [] := fun e => h1 (decide_eq_true e)
          refine ⟨_, rfl, S d, rfl, hzd, _, 100, rfl, rfl, _, rfl, ?_⟩
          rw [S_len]
          refine ite2 (fun h => no (fun q => absurd (of_decide_eq_true h) (by have := q.2.1; omega)) _ (Same.refl _)) (fun h2 => ?_)
          have d100 : d.length ≤ 100 := Classical.byContradiction fun e => h2 (decide_eq_true (by omega))
          refine ⟨_, rfl, S d, rfl, fun D hD => lc_strT (sel := fun _ => true) (P := fun i y _ => y = V.bl (decide (d.getD i 0 ∈ (Str.ofString "0123456789").cps.toList))) ⟨fun _ _ _ _ _ h => h, fun i H2 _ _ R r => r H2 (Same.refl H2), fun i H2 hi _ _ R r => ⟨_, rfl, d.getD i 0, _, rfl, rfl, r _ H2 (Same.refl H2) rfl⟩⟩ hD (lt_lineT (by omega)) (fun H2 bs sm hb _ pb => ?_)⟩
          rw [filter_yes] at pb
          rw [bl_signs (p := fun c => decide (c ∈ (Str.ofString "0123456789").cps.toList)) pb] at hb
          refine ⟨D, _, rfl, SqL.of hb, _, rfl, ?_⟩
          rw [all_id]
          have e : (d.all fun c => decide (c ∈ (Str.ofString "0123456789").cps.toList)) = decide (∀ c ∈ d, 48 ≤ c ∧ c ≤ 57) := by
            rw [Bool.eq_iff_iff, decide_eq_true_iff, List.all_eq_true]
            constructor
            · exact fun h c hc => (digit_mem c).mp (of_decide_eq_true (h c hc))
            · exact fun h c hc => decide_eq_true ((digit_mem c).mpr (h c hc))
          rw [e]
          refine ite2 (fun h => no (fun q => ?_) H2 sm) (fun h3 => ?_)
          · rw [decide_eq_true q.2.2.1] at h
            cases h
          · have d3 : ∀ c ∈ d, 48 ≤ c ∧ c ≤ 57 := Classical.byContradiction fun e => h3 (by rw [decide_eq_false e]; rfl)
            obtain ⟨c, r, rfl⟩ : ∃ c r, d = c :: r := by
              cases d with
              | nil => exact absurd rfl d0
              | cons c r => exact ⟨c, r, rfl⟩
            have fin : ∀ b : Bool, (b = true ↔ c ≠ 48 ∨ t = [48]) → Q (.bl b) H2 := fun b hb => by
              refine kb b ?_ H2 sm
              rw [hb]
              constructor
              · exact fun q => ⟨d0, d100, d3, q.imp (fun n e => n (Option.some.inj e)) id⟩
              · exact fun q => q.2.2.2.imp (fun n e => n (by rw [e]; rfl)) id
            refine ⟨_, rfl, rfl, _, rfl, ?_⟩
            show if decide (tV t = tV [48]) = true then _ else _
            rw [dec_t]
            refine ite2 (fun h4 => ?_) (fun h4 => ?_)
            · exact fin true ⟨fun _ => .inr (of_decide_eq_true h4), fun _ => rfl⟩
            · have n48 : ¬ t = [48] := fun q => h4 (decide_eq_true q)
              refine ⟨_, rfl, S (c :: r), 0, c, rfl, rfl, hzd, (show atI (c :: r) 0 = some c from atI_nat (j := 0) rfl), rfl, ?_⟩
              show Q (.bl (!decide (tV [c] = tV [48]))) H2
              rw [dec_t]
              refine fin _ ?_
              rw [Bool.not_eq_true', decide_eq_false_iff_not]
              constructor
              · exact fun q => .inl fun e => q (by rw [e])
              · exact fun q e => q.elim (fun n => n (List.cons.inj e).1) n48
def spNext : Sp := fun vs H Q _ => ∃ (t : List Nat) (a : Nat), vs = [tV t, nV a] ∧ a ≤ t.length ∧ t.length ≤ 1000000 ∧ Q (nV (a + (word (t.drop a)).length)) H
theorem c_law_next (D : FnAt K mg "_law_next" s_law_next) (T : Bl mg) : Cal P w K mg base 1 "_law_next" spNext [] := by
  refine calOf D sc_law_next (fun _ _ _ _ _ _ us hl => match us, hl with | [_, _], _ => rfl) (fun vs H Q E h => ?_) (fun f cdv A outer s H vs Q E hr h => ?_)
  · obtain ⟨t, a, rfl, _⟩ := h
    rfl
  · obtain ⟨t, a, rfl, ha, hz, k⟩ := h
    have nd := sc_law_next.nd
    refine ⟨_, (pss_cons (ps_set (i := 2) nd rfl (by first | exact Or.inl rfl | exact Or.inr rfl) (pv 1))
      (pss_cons (ps_while PassesOwn.never (PW.pt (pw_and (pt_cmpR op_lt (pv 2) (pe_callB call_len_str (by rfl) T.b_len (by decide +kernel) (pa_cons (pv 0) pa_nil)) (nomark _)) (pw_and1 (pt_cmpR op_notIn_sign (pe_ix ix_str (pv 0) (pv 2) (fun _ _ => rfl)) pe_str (by rfl)))))
        (pss_one (ps_aug (i := 2) nd rfl (by first | exact Or.inl rfl | exact Or.inr rfl) pe_int ip_add)))
      (pss_one (ps_ret (pv 2))))), ?_⟩
    have hz' : (S t).length ≤ sizeLine := by rw [S_len]; exact lt_lineT (Nat.le_trans hz (by decide))
    refine ⟨_, rfl, ?_⟩
    refine ⟨fun m σ' H' => ∃ e : Nat, σ' = [some (tV t), some (nV a), some (nV e)] ∧ H' = H ∧ e ≤ t.length ∧ e + (word (t.drop e)).length = a + (word (t.drop a)).length ∧ m = t.length - e, ⟨_, a, rfl, rfl, ha, rfl, rfl⟩, ?_⟩
    rintro m σ' H' ⟨e, rfl, rfl, he, hw, rfl⟩
    refine ⟨_, rfl, _, rfl, S t, rfl, hz', _, _, rfl, rfl, _, rfl, ?_⟩
    rw [S_len]
    have stop : ¬ e < t.length ∨ (∃ c r, t.drop e = c :: r ∧ sep c = true) → Q (nV e) H' := fun h => by
      have hw0 : (word (t.drop e)).length = 0 := by
        rcases h with h | ⟨c, r, h, hs⟩
        · rw [List.drop_eq_nil_of_le (by omega)]
          rfl
        · rw [h]
          unfold word
          rw [List.takeWhile_cons, hs]
          rfl
      have e2 : e = a + (word (t.drop a)).length := by omega
      rw [e2]
      exact k
    refine ite2 (fun h => ?_) (fun h => ⟨_, rfl, stop (.inl fun q => h (decide_eq_true (by omega)))⟩)
    have hlt : e < t.length := by have := of_decide_eq_true h; omega
    have hde := List.drop_eq_getElem_cons hlt
    refine ⟨_, rfl, _, rfl, S t, (e : Int), t[e], rfl, rfl, hz', (show atI t (e : Int) = some t[e] from atI_nat (List.getElem?_eq_getElem hlt)), t[e], _, rfl, rfl, _, rfl, ?_⟩
    show if (!decide (t[e] ∈ (S [32, 40, 41]).cps.toList)) = true then _ else _
    rw [mem_sep]
    cases hs : sep t[e] with
    | true => exact ite2 (fun h => by cases h) (fun _ => ⟨_, rfl, stop (.inr ⟨_, _, hde, hs⟩)⟩)
    | false =>
      refine ite2 (fun _ => ?_) (fun h => absurd rfl h)
      refine ⟨_, fun _ _ n => n, ?_⟩
      refine ⟨_, rfl, e, 1, rfl, rfl, t.length - (e + 1), by omega, e + 1, rfl, rfl, hlt, ?_, rfl⟩
      have hwd : word (t.drop e) = t[e] :: word (t.drop (e + 1)) := by
        rw [hde]
        unfold word
        rw [List.takeWhile_cons, hs]
        rfl
      rw [hwd, List.length_cons] at hw
      omega
end
end L2.KK
namespace L2.KK
open PySem PySem.Spec PyProof.Rows C8 SX MT
theorem sc_law_fits : FnScope ["text", "deep", "at", "ahead", "whole", "sign", "end"] ["text"] (defScope s_law_fits) := ⟨rfl, rfl, rfl, by decide +kernel, rfl, by decide +kernel, by decide +kernel⟩
theorem dec_n {a b : Nat} : decide (nV a = V.int (b : Int)) = decide (a = b) := by
  rw [Bool.eq_iff_iff, decide_eq_true_iff, decide_eq_true_iff]
  exact ⟨fun h => by have := V.int.inj h; omega, fun h => by rw [h]⟩
theorem b2i_dec {a w : Nat} : V.int ((w : Int) + (if decide (a = 0) = true then 1 else 0)) = nV (w + if a = 0 then 1 else 0) := by
  by_cases h : a = 0
  · rw [decide_eq_true h, if_pos h, if_pos rfl]
    rfl
  · rw [decide_eq_false h, if_neg h, if_neg Bool.false_ne_true]
    rfl
section
variable {P : Program} {w : World} {K : PySem.W.Frag} {mg : Str → Option Value} {base : Heap}
def spFits : Sp := fun vs H Q _ => ∃ t : List Nat, vs = [tV t] ∧ t.length ≤ 100000 ∧ ∀ H', Same H H' → Q (.bl (fit (t.length + 1) t 0 .start 0)) H'
theorem c_law_fits (D : FnAt K mg "_law_fits" s_law_fits) (T : Bl mg) (c_law_next : Cal P w K mg base 1 "_law_next" spNext []) (c_law_is_part : Cal P w K mg base 1 "_law_is_part" spLPart []) : Cal P w K mg base 2 "_law_fits" spFits [] := by
  refine calOf D sc_law_fits (fun _ _ _ _ _ _ us hl => match us, hl with | [_], _ => rfl) (fun vs H Q E h => ?_) (fun f cdv A outer s H vs Q E hr h => ?_)
  · obtain ⟨t, rfl, _⟩ := h
    rfl
  · obtain ⟨t, rfl, hz, k⟩ := h
    have nd := sc_law_fits.nd
    refine ⟨_, (pss_cons (ps_set (i := 1) nd rfl (by first | exact Or.inl rfl | exact Or.inr rfl) pe_int)
      (pss_cons (ps_set (i := 2) nd rfl (by first | exact Or.inl rfl | exact Or.inr rfl) pe_int)
      (pss_cons (ps_set (i := 3) nd rfl (by first | exact Or.inl rfl | exact Or.inr rfl) pe_str)
      (pss_cons (ps_set (i := 4) nd rfl (by first | exact Or.inl rfl | exact Or.inr rfl) pe_int)
      (pss_cons (ps_while PassesOwn.never (pt_cmpR op_lt (pv 2) (pe_callB call_len_str (by rfl) T.b_len (by decide +kernel) (pa_cons (pv 0) pa_nil)) (nomark _))
        (pss_cons (ps_set (i := 5) nd rfl (by first | exact Or.inl rfl | exact Or.inr rfl) (pe_ix ix_str (pv 0) (pv 2) (fun _ _ => rfl)))
        (pss_one (ps_if (pt_cmpR op_eq (pv 5) pe_str (nomark _))
          (pss_cons (ps_if (PW.pt (pw_or (pt_cmpR op_ne (pv 3) pe_str (nomark _)) (pw_or1 (pt_cmpR op_eq (pv 1) pe_int (nomark _)))))
            (pss_one (ps_ret pe_bl))
            pss_nil)
          (pss_cons (ps_set (i := 3) nd rfl (by first | exact Or.inl rfl | exact Or.inr rfl) pe_str)
          (pss_one (ps_aug (i := 2) nd rfl (by first | exact Or.inl rfl | exact Or.inr rfl) pe_int ip_add))))
          (pss_one (ps_if (pt_cmpR op_eq (pv 5) pe_str (nomark _))
            (pss_cons (ps_if (PW.pt (pw_or (pt_cmpR op_eq (pv 1) pe_int (nomark _)) (pw_or1 (pt_cmpR op_eq (pv 3) pe_str (nomark _)))))
              (pss_one (ps_ret pe_bl))
              pss_nil)
            (pss_cons (ps_aug (i := 1) nd rfl (by first | exact Or.inl rfl | exact Or.inr rfl) pe_int ip_sub)
            (pss_cons (ps_set (i := 3) nd rfl (by first | exact Or.inl rfl | exact Or.inr rfl) pe_str)
            (pss_cons (ps_aug (i := 2) nd rfl (by first | exact Or.inl rfl | exact Or.inr rfl) pe_int ip_add)
            (pss_one (ps_aug (i := 4) nd rfl (by first | exact Or.inl rfl | exact Or.inr rfl) (pe_callTy call_int1 (by rfl) T.b_int (by decide +kernel) (pa_cons (pe_cmpR op_eq (pv 1) pe_int (nomark _)) pa_nil)) ip_add))))))
            (pss_cut (ps_if (PW.pt (pw_or (pt_cmpR op_eq (pv 3) pe_str (nomark _)) (pw_or1 (PW.pt (pw_and (pt_cmpR op_eq (pv 1) pe_int (nomark _)) (pw_and1 (pt_cmpR op_gt (pv 4) pe_int (nomark _))))))))
              (pss_one (ps_ret pe_bl))
              pss_nil)
            (pss_one (ps_if (pt_cmpR op_eq (pv 5) pe_str (nomark _))
              (pss_cons (ps_aug (i := 1) nd rfl (by first | exact Or.inl rfl | exact Or.inr rfl) pe_int ip_add)
              (pss_cons (ps_set (i := 3) nd rfl (by first | exact Or.inl rfl | exact Or.inr rfl) pe_str)
              (pss_cons (ps_aug (i := 2) nd rfl (by first | exact Or.inl rfl | exact Or.inr rfl) pe_int ip_add)
              (pss_one (ps_if (pt_cmpR op_gt (pv 1) pe_int (nomark _))
                (pss_one (ps_ret pe_bl))
                pss_nil)))))
              (pss_cons (ps_set (i := 6) nd rfl (by first | exact Or.inl rfl | exact Or.inr rfl) (pe_c c_law_next hr (by decide) (by rfl) (pa_cons (pv 0) (pa_cons (pv 2) pa_nil))))
              (pss_cons (ps_if (pt_not (pt_val (pe_c c_law_is_part hr (by decide) (by rfl) (pa_cons (pe_slice sl_txt (pv 0) (po_some (pv 2)) (po_some (pv 6))) pa_nil))))
                (pss_one (ps_ret pe_bl))
                pss_nil)
              (pss_cons (ps_set (i := 2) nd rfl (by first | exact Or.inl rfl | exact Or.inr rfl) (pv 6))
              (pss_cons (ps_set (i := 3) nd rfl (by first | exact Or.inl rfl | exact Or.inr rfl) pe_str)
              (pss_one (ps_aug (i := 4) nd rfl (by first | exact Or.inl rfl | exact Or.inr rfl) (pe_callTy call_int1 (by rfl) T.b_int (by decide +kernel) (pa_cons (pe_cmpR op_eq (pv 1) pe_int (nomark _)) pa_nil)) ip_add)))))))))))))))
      (pss_one (ps_ret (pe_and (pe_cmpR op_eq (pv 1) pe_int (nomark _)) (pe_one (pe_cmpR op_eq (pv 4) pe_int (nomark _))))))))))), ?_⟩
    have hz' : (S t).length ≤ sizeLine := by rw [S_len]; exact lt_lineT (Nat.le_trans hz (by decide))
    generalize hR : fit (t.length + 1) t 0 .start 0 = R at k
    refine ⟨fun m σ' H' => ∃ (deep at_ whole : Nat) (a : Ah) (c5 c6 : Option V), σ' = [some (tV t), some (nV deep), some (nV at_), some (tV (ahT a)), some (nV whole), c5, c6] ∧ Same H H' ∧ at_ ≤ t.length ∧ (t.drop at_).length < m ∧ fit m (t.drop at_) deep a whole = R,
      ⟨t.length + 1, 0, 0, 0, .start, none, none, rfl, Same.refl H, Nat.zero_le _, Nat.lt_succ_self _, hR⟩, ?_⟩
    rintro m σ' H' ⟨deep, at_, whole, a, c5, c6, rfl, sm, hat, hm, hf⟩
    obtain ⟨m, rfl⟩ : ∃ n, m = n + 1 := ⟨m - 1, by omega⟩
    refine ⟨_, rfl, _, rfl, S t, rfl, hz', _, _, rfl, rfl, _, rfl, ?_⟩
    rw [S_len]
    refine ite2 (fun h => ?_) (fun h => ?_)
    · have hlt : at_ < t.length := by have := of_decide_eq_true h; omega
      have hde := List.drop_eq_getElem_cons hlt
      refine ⟨_, fun _ _ n => n, ?_⟩
      refine ⟨_, rfl, _, rfl, S t, (at_ : Int), t[at_], rfl, rfl, hz', (show atI t (at_ : Int) = some t[at_] from atI_nat (List.getElem?_eq_getElem hlt)), ?_⟩
      rw [hde] at hf hm
      rw [List.length_cons] at hm
      generalize t[at_] = c at hf hde
      have hdl : (t.drop at_).length = (t.drop (at_ + 1)).length + 1 := by rw [hde, List.length_cons]
      unfold fit at hf
      have stop : false = R → Q (.bl false) H' := fun e => by
        rw [e]
        exact k H' sm
      refine ⟨_, rfl, rfl, _, rfl, ?_⟩
      show if decide (tV [c] = tV [32]) = true then _ else _
      rw [dec_t]
      refine ite2 (fun h => ?_) (fun h => ?_)
      · have e32 : c = 32 := (List.cons.inj (of_decide_eq_true h)).1
        rw [if_pos e32] at hf
        refine ⟨_, rfl, rfl, _, rfl, ?_⟩
        show if (!decide (tV (ahT a) = tV (ahT .part))) = true then _ else _
        rw [dec_ah]
        refine ite2 (fun h => ?_) (fun h => ?_)
        · have ha : a ≠ .part := fun e => by rw [e] at h; exact absurd h (by decide)
          rw [if_pos (.inl ha)] at hf
          exact stop hf
        · have ha : a = .part := Classical.byContradiction fun e => h (by rw [decide_eq_false e]; rfl)
          refine ⟨_, rfl, rfl, _, rfl, ?_⟩
          rw [show decide (nV deep = V.int 0) = decide (deep = 0) from dec_n]
          refine ite2 (fun h => ?_) (fun h => ?_)
          · rw [if_pos (.inr (of_decide_eq_true h))] at hf
            exact stop hf
          · have hd : ¬ deep = 0 := fun e => h (decide_eq_true e)
            rw [if_neg (fun q => q.elim (fun z => z ha) hd)] at hf
            refine ⟨_, rfl, (at_ : Int), 1, rfl, rfl, m, Nat.lt_succ_self _, deep, at_ + 1, whole, .blank, _, c6, rfl, sm, hlt, by omega, hf⟩
      · have n32 : ¬ c = 32 := fun e => h (decide_eq_true (by rw [e]))
        rw [if_neg n32] at hf
        refine ⟨_, rfl, rfl, _, rfl, ?_⟩
        show if decide (tV [c] = tV [41]) = true then _ else _
        rw [dec_t]
        refine ite2 (fun h => ?_) (fun h => ?_)
        · have e41 : c = 41 := (List.cons.inj (of_decide_eq_true h)).1
          rw [if_pos e41] at hf
          refine ⟨_, rfl, rfl, _, rfl, ?_⟩
          rw [show decide (nV deep = V.int 0) = decide (deep = 0) from dec_n]
          refine ite2 (fun h => ?_) (fun h => ?_)
          · rw [if_pos (.inl (of_decide_eq_true h))] at hf
            exact stop hf
          · have hd : ¬ deep = 0 := fun e => h (decide_eq_true e)
            refine ⟨_, rfl, rfl, _, rfl, ?_⟩
            show if decide (tV (ahT a) = tV (ahT .blank)) = true then _ else _
            rw [dec_ah]
            refine ite2 (fun h => ?_) (fun h => ?_)
            · rw [if_pos (.inr (of_decide_eq_true h))] at hf
              exact stop hf
            · have ha : ¬ a = .blank := fun e => h (decide_eq_true e)
              rw [if_neg (fun q => q.elim hd ha)] at hf
              refine ⟨_, rfl, (deep : Int), 1, rfl, rfl, ?_⟩
              dsimp only
              rw [show (deep : Int) - 1 = ((deep - 1 : Nat) : Int) by omega]
              refine ⟨_, rfl, (at_ : Int), 1, rfl, rfl, ?_⟩
              refine ⟨_, rfl, _, rfl, rfl, .inr ⟨_, rfl, (whole : Int), _, rfl, rfl, ?_⟩⟩
              refine ⟨m, Nat.lt_succ_self _, deep - 1, at_ + 1, whole + (if deep - 1 = 0 then 1 else 0), .part, some (tV [c]), c6, ?_, sm, hlt, by omega, hf⟩
              rw [← b2i_dec, show decide (deep - 1 = 0) = decide (nV (deep - 1) = V.int 0) from dec_n.symm]
              rfl
        · have n41 : ¬ c = 41 := fun e => h (decide_eq_true (by rw [e]))
          rw [if_neg n41] at hf
          refine ⟨fun σ2 H2 => H2 = H' ∧ ¬ (a = .part ∨ (deep = 0 ∧ whole > 0)) ∧ σ2 = [some (tV t), some (nV deep), some (nV at_), some (tV (ahT a)), some (nV whole), some (tV [c]), c6], ?_, ?_⟩
          · refine ⟨_, rfl, rfl, _, rfl, ?_⟩
            show if decide (tV (ahT a) = tV (ahT .part)) = true then _ else _
            rw [dec_ah]
            refine ite2 (fun h => ?_) (fun h => ?_)
            · rw [if_pos (.inl (of_decide_eq_true h))] at hf
              exact stop hf
            · have ha : ¬ a = .part := fun e => h (decide_eq_true e)
              refine ⟨_, rfl, rfl, _, rfl, ?_⟩
              rw [show decide (nV deep = V.int 0) = decide (deep = 0) from dec_n]
              refine ite2 (fun h => ?_) (fun h => ?_)
              · refine ⟨_, rfl, _, _, rfl, rfl, _, rfl, ite2 (fun h2 => ?_) (fun h2 => ?_)⟩
                · rw [if_pos (.inr ⟨of_decide_eq_true h, by have := of_decide_eq_true h2; omega⟩)] at hf
                  exact stop hf
                · exact ⟨rfl, fun q => q.elim ha fun z => h2 (decide_eq_true (by omega)), rfl⟩
              · exact ⟨rfl, fun q => q.elim ha fun z => h (decide_eq_true z.1), rfl⟩
          · rintro σ2 H2 ⟨rfl, hno, rfl⟩
            rw [if_neg hno] at hf
            refine ⟨_, rfl, rfl, _, rfl, ?_⟩
            show if decide (tV [c] = tV [40]) = true then _ else _
            rw [dec_t]
            refine ite2 (fun h => ?_) (fun h => ?_)
            · have e40 : c = 40 := (List.cons.inj (of_decide_eq_true h)).1
              rw [if_pos e40] at hf
              refine ⟨_, rfl, (deep : Int), 1, rfl, rfl, ?_⟩
              refine ⟨_, rfl, (at_ : Int), 1, rfl, rfl, ?_⟩
              refine ⟨_, rfl, _, 12, rfl, rfl, _, rfl, ite2 (fun h => ?_) (fun h => ?_)⟩
              · have h' : (12 : Int) < (deep : Int) + 1 := of_decide_eq_true h
                rw [if_pos (by omega)] at hf
                exact stop hf
              · rw [if_neg (fun q => h (decide_eq_true (show (12 : Int) < (deep : Int) + 1 by omega)))] at hf
                exact ⟨m, Nat.lt_succ_self _, deep + 1, at_ + 1, whole, .opn, _, c6, rfl, sm, hlt, by omega, hf⟩
            · have n40 : ¬ c = 40 := fun e => h (decide_eq_true (by rw [e]))
              rw [if_neg n40, ← hde] at hf
              refine ⟨_, rfl, _, rfl, t, at_, rfl, hat, by omega, ?_⟩
              have hwl := word_len (t.drop at_)
              rw [List.length_drop] at hwl
              refine ⟨_, rfl, _, rfl, _, rfl, _, rfl, _, rfl, S t, rfl, hz', ?_⟩
              rw [slice_two (Nat.le_add_right _ _) (by omega), Nat.add_sub_cancel_left, word_take]
              refine ⟨word (t.drop at_), rfl, by omega, fun H3 sm3 => ⟨_, rfl, ?_⟩⟩
              have hw1 : 1 ≤ (word (t.drop at_)).length := by
                have hsc : sep c = false := by
                  unfold sep
                  rw [beq_eq_false_iff_ne.mpr n32, beq_eq_false_iff_ne.mpr n40, beq_eq_false_iff_ne.mpr n41]
                  rfl
                rw [hde]
                unfold word
                rw [List.takeWhile_cons, hsc]
                show 1 ≤ (c :: _).length
                rw [List.length_cons]
                omega
              cases hp : (readPart (word (t.drop at_))).isSome with
              | false =>
                rw [if_pos hp] at hf
                refine iteT ?_
                have e : false = R := hf
                rw [e]
                exact k H3 (sm.trans sm3)
              | true =>
                rw [if_neg (by rw [hp]; decide)] at hf
                refine iteF ?_
                refine ⟨_, rfl, ?_⟩
                refine ⟨_, rfl, _, rfl, rfl, .inr ⟨_, rfl, (whole : Int), _, rfl, rfl, ?_⟩⟩
                rw [rest_drop, List.drop_drop] at hf
                refine ⟨m, Nat.lt_succ_self _, deep, at_ + (word (t.drop at_)).length, whole + (if deep = 0 then 1 else 0), .part, some (tV [c]), some (nV (at_ + (word (t.drop at_)).length)), ?_, sm.trans sm3, by omega, ?_, hf⟩
                · rw [← b2i_dec, show decide (deep = 0) = decide (nV deep = V.int 0) from dec_n.symm]
                  rfl
                · rw [List.length_drop] at hm ⊢
                  omega
    · have e0 : at_ = t.length := by
        have : ¬ at_ < t.length := fun q => h (decide_eq_true (by omega))
        omega
      rw [e0, List.drop_length] at hf
      refine ⟨_, rfl, rfl, _, rfl, ?_⟩
      have hf' : (decide (deep = 0) && decide (whole = 1)) = R := hf
      rw [show decide (nV deep = V.int 0) = decide (deep = 0) from dec_n]
      refine ite2 (fun h => ?_) (fun h => ?_)
      · refine ⟨_, rfl, rfl, ?_⟩
        rw [show decide (nV whole = V.int 1) = decide (whole = 1) from dec_n]
        rw [h, Bool.true_and] at hf'
        rw [hf']
        exact k H' sm
      · rw [show decide (deep = 0) = false from by cases q : decide (deep = 0) with | true => exact absurd q h | false => rfl, Bool.false_and] at hf'
        rw [hf']
        exact k H' sm
end
end L2.KK
namespace L2.KK
open PySem PySem.Spec PyProof.Rows C8 SX MT
theorem sc_law_base : FnScope ["d", "parts", "text", "level", "row", "k"] ["d"] (defScope s_law_base) := ⟨rfl, rfl, rfl, by decide +kernel, rfl, by decide +kernel, by decide +kernel⟩
theorem kp_freeB {H H' : Hp} {d p : Addr} (k : Kp d H H') (h : H' p = none) (n : p ≠ d) : H p = none := by
  cases e : H p with
  | none => rfl
  | some o =>
    rw [k p o e n] at h
    cases h
/-! ### good texts -/
structure GoodT (v : Tv) (dp wt : Nat) : Prop where
  ok : Ok v
  dp : dep v ≤ dp
  wt : wtT (toks v) ≤ wt
theorem n0 : numT 0 = [48] := (numT_nat 0).trans (TL.numL_lt (by decide))
theorem n1 : numT 1 = [49] := (numT_nat 1).trans (TL.numL_lt (by decide))
theorem n7 : numT 7 = [55] := (numT_nat 7).trans (TL.numL_lt (by decide))
theorem n10 : numT 10 = [49, 48] := (numT_nat 10).trans ((TL.numL_step (by decide)).trans (by rw [show 10 / 10 = 1 from rfl, TL.numL_lt (by decide)]; rfl))
theorem n3 : numT (-3) = [45, 51] := (numT_neg (n := 3) (by decide)).trans (by rw [TL.numL_lt (by decide)])
def baseV : List Tv := [.non, .str [97], .str [98, 97, 115, 101, 115], .int 0, .int 7, .int (-3), .int 10, .tup [], .tup [.str [97]], .tup [.int 1, .non], .tup [.str [114, 105, 110, 103], .tup [.int 0, .int 1], .str [120]]]
theorem base_txt : [V.str (Str.ofString "-"), V.str (Str.ofString "a"), V.str (Str.ofString "bases"), V.str (Str.ofString "0"), V.str (Str.ofString "7"), V.str (Str.ofString "-3"), V.str (Str.ofString "10"), V.str (Str.ofString "()"), V.str (Str.ofString "(a)"), V.str (Str.ofString "(1 -)"), V.str (Str.ofString "(ring (0 1) x)")] =
    tL (baseV.map tellM) := by
  have e : baseV.map tellM = [[45], [97], [98, 97, 115, 101, 115], [48], [55], [45, 51], [49, 48], [40, 41], [40, 97, 41], [40, 49, 32, 45, 41], [40, 114, 105, 110, 103, 32, 40, 48, 32, 49, 41, 32, 120, 41]] := by
    have a0 : tellM (.int 0) = [48] := by show joinS [numT 0] = _; rw [n0]; decide
    have a7 : tellM (.int 7) = [55] := by show joinS [numT 7] = _; rw [n7]; decide
    have a3 : tellM (.int (-3)) = [45, 51] := by show joinS [numT (-3)] = _; rw [n3]; decide
    have a10 : tellM (.int 10) = [49, 48] := by show joinS [numT 10] = _; rw [n10]; decide
    have b1 : tellM (.tup [.int 1, .non]) = [40, 49, 32, 45, 41] := by show joinS [[40], numT 1, [45], [41]] = _; rw [n1]; decide
    have b2 : tellM (.tup [.str [114, 105, 110, 103], .tup [.int 0, .int 1], .str [120]]) = [40, 114, 105, 110, 103, 32, 40, 48, 32, 49, 41, 32, 120, 41] := by
      show joinS [[40], [114, 105, 110, 103], [40], numT 0, numT 1, [41], [120], [41]] = _
      rw [n0, n1]
      decide
    show [tellM .non, tellM (.str [97]), tellM (.str [98, 97, 115, 101, 115]), tellM (.int 0), tellM (.int 7), tellM (.int (-3)), tellM (.int 10), tellM (.tup []), tellM (.tup [.str [97]]), tellM (.tup [.int 1, .non]), tellM (.tup [.str [114, 105, 110, 103], .tup [.int 0, .int 1], .str [120]])] = _
    rw [a0, a7, a3, a10, b1, b2]
    rfl
  rw [e]
  decide
theorem let_ok {s : List Nat} (h : s ≠ [] ∧ s.all (fun c => decide (97 ≤ c) && decide (c ≤ 122)) = true) : letters s := ⟨h.1, fun c hc => by
  have := List.all_eq_true.mp h.2 c hc
  rw [Bool.and_eq_true, decide_eq_true_iff, decide_eq_true_iff] at this
  exact this⟩
theorem base_good : ∀ v ∈ baseV, GoodT v 2 40 := by
  have w : ∀ n : Int, n = 0 ∨ n = 1 ∨ n = 7 ∨ n = -3 ∨ n = 10 → (numT n).length ≤ 2 := fun n h => by
    rcases h with h | h | h | h | h
    · rw [h, n0]; decide
    · rw [h, n1]; decide
    · rw [h, n7]; decide
    · rw [h, n3]; decide
    · rw [h, n10]; decide
  have i : ∀ n : Int, n = 0 ∨ n = 1 ∨ n = 7 ∨ n = -3 ∨ n = 10 → GoodT (.int n) 2 40 := fun n h => ⟨by
    show n.natAbs < 10 ^ 100
    rcases h with h | h | h | h | h <;> rw [h] <;> decide, Nat.zero_le _, by
    have := w n h
    show (numT n).length + 1 ≤ 40
    omega⟩
  intro v hv
  unfold baseV at hv
  repeat (rcases List.mem_cons.mp hv with e | hv; · first
    | (subst e; exact i _ (by decide))
    | (subst e; exact ⟨trivial, by decide, by decide⟩)
    | (subst e; exact ⟨let_ok (by decide), by decide, by decide⟩)
    | (subst e; exact ⟨⟨let_ok (by decide), trivial⟩, by decide, by decide⟩)
    | (subst e; exact ⟨⟨(i 1 (by decide)).ok, trivial, trivial⟩, by decide, by show (1 + 1) + ((numT 1).length + 1 + ((1 + 1) + ((1 + 1) + 0))) ≤ 40; have := w 1 (by decide); omega⟩)
    | (subst e; exact ⟨⟨let_ok (by decide), ⟨(i 0 (by decide)).ok, (i 1 (by decide)).ok, trivial⟩, let_ok (by decide), trivial⟩, by decide, by show (1 + 1) + ((4 + 1) + ((1 + 1) + ((numT 0).length + 1 + ((numT 1).length + 1 + ((1 + 1) + ((1 + 1) + ((1 + 1) + 0))))))) ≤ 40; have := w 1 (by decide); have := w 0 (by decide); omega⟩))
  cases hv
theorem wt_tupB (vs : List Tv) : wtT (toks (.tup vs)) = wtT (toksL vs) + 4 := by
  show wtT ([[40]] ++ (toksL vs ++ [[41]])) = _
  rw [wtT_append, wtT_append]
  show 2 + (wtT (toksL vs) + 2) = _
  omega
theorem tells_len : ∀ vs : List Tv, ((vs.map tellM).map (·.length)).sum ≤ wtT (toksL vs)
  | [] => Nat.le_refl _
  | v :: vs => by
    show (tellM v).length + ((vs.map tellM).map (·.length)).sum ≤ wtT (toks v ++ toksL vs)
    rw [wtT_append]
    have := joinS_len (toks v)
    have := tells_len vs
    have e : (tellM v).length ≤ wtT (toks v) := joinS_len (toks v)
    omega
section
variable {P : Program} {w : World} {K : PySem.W.Frag} {mg : Str → Option Value} {base : Heap}
def spBase : Sp := fun vs H Q _ => ∃ (d c : Addr), vs = [.ref d] ∧ Dr H d c ∧ ∀ (v : Tv) H', GoodT v 5 400 → Dr H' d c → Kp d H H' → Q (tV (tellM v)) H'
theorem c_law_base (D : FnAt K mg "_law_base" s_law_base) (T : Bl mg) (c_law_pick : Cal P w K mg base 2 "_law_pick" spPick []) (c_law_draw : Cal P w K mg base 1 "_law_draw" spDraw []) : Cal P w K mg base 3 "_law_base" spBase [] := by
  refine calOf D sc_law_base (fun _ _ _ _ _ _ us hl => match us, hl with | [_], _ => rfl) (fun vs H Q E h => ?_) (fun f cdv A outer s H vs Q E hr h => ?_)
  · obtain ⟨d, c, rfl, _⟩ := h
    rfl
  · obtain ⟨d, c, rfl, D, k⟩ := h
    have nd := sc_law_base.nd
    refine ⟨_, (pss_cons (ps_set (i := 1) nd rfl (by first | exact Or.inl rfl | exact Or.inr rfl) (pe_lst (pa_cons pe_str (pa_cons pe_str (pa_cons pe_str (pa_cons pe_str (pa_cons pe_str (pa_cons pe_str (pa_cons pe_str (pa_cons pe_str (pa_cons pe_str (pa_cons pe_str (pa_cons pe_str pa_nil)))))))))))))
      (pss_cons (ps_set (i := 2) nd rfl (by first | exact Or.inl rfl | exact Or.inr rfl) (pe_c c_law_pick hr (by decide) (by rfl) (pa_cons (pv 0) (pa_cons (pv 1) pa_nil))))
      (pss_cons (ps_for PassesOwn.never rfl (pi_range1 (by rfl) T.b_range (pa_cons (pe_c c_law_draw hr (by decide) (by rfl) (pa_cons (pv 0) (pa_cons pe_int pa_nil))) pa_nil)) (pg_name (i := 3) nd rfl (by first | exact Or.inl rfl | exact Or.inr rfl))
        (pss_cons (ps_setLc (i := 4) (own := [("k", 5)]) (g := gName 5) (tt := tYes) rfl nd rfl rfl (sw_true rfl rfl rfl (by decide +kernel)) (pi_range1 (by rfl) T.b_range (pa_cons (pe_c c_law_draw hr (by decide) (by rfl) (pa_cons (pv 0) (pa_cons pe_int pa_nil))) pa_nil)) (blkOk_by (N := ["d", "parts", "text", "level", "row", "k"]) (sc := defScope s_law_base) (own := [("k", 5)]) (by decide +kernel)) (fun _ _ _ _ _ => (pg_name (i := 5) nd rfl (by first | exact Or.inl rfl | exact Or.inr rfl))) (fun _ _ _ _ _ => pts_nil) (fun _ _ _ _ _ => (pe_c c_law_pick hr (by decide) (by rfl) (pa_cons (pv 0) (pa_cons (pv 1) pa_nil)))))
        (pss_cons (ps_expr (pe_bm PySem.F.plainAttrs_list PySem.F.slot_list_insert PySem.F.type_list_insert mt_insert (pv 4) (pa_cons (pe_c c_law_draw hr (by decide) (by rfl) (pa_cons (pv 0) (pa_cons (pe_op op_addNN (pe_callB (crLen K) (by rfl) T.b_len (by decide +kernel) (pa_cons (pv 4) pa_nil)) pe_int) pa_nil))) (pa_cons (pv 2) pa_nil))))
        (pss_one (ps_set (i := 2) nd rfl (by first | exact Or.inl rfl | exact Or.inr rfl) (pe_op op_add_str (pe_op op_add_str pe_str (pe_join pe_str (pv 4))) pe_str))))))
      (pss_one (ps_ret (pv 2)))))), ?_⟩
    refine ⟨by show 11 ≤ sizeLine; decide, fun pa hpa => ?_⟩
    obtain ⟨npd, npc⟩ := D.ne hpa
    have epa : upd H pa (.lst (tL (baseV.map tellM))) pa = some (.lst (tL (baseV.map tellM))) := upd_same
    rw [base_txt]
    have D1 := D.put (o := .lst (tL (baseV.map tellM))) npd npc
    have kp1 : Kp d H (upd H pa (.lst (tL (baseV.map tellM)))) := (Kp.refl d H).new hpa
    have drawn : ∀ {i : Nat} {v : V}, (tL (baseV.map tellM))[i]? = some v → ∃ u ∈ baseV, v = tV (tellM u) := fun {i v} h => by
      obtain ⟨a, ha, rfl⟩ := tl_get h
      obtain ⟨u, hu, rfl⟩ := tl_get ha
      exact ⟨u, List.mem_of_getElem? hu, rfl⟩
    refine ⟨_, rfl, _, rfl, d, c, pa, _, rfl, D1, epa, npd, npc, by decide, by decide, fun i v H2 hv D2 kp2 => ?_⟩
    obtain ⟨u, hu, rfl⟩ := drawn hv
    have gu := base_good u hu
    refine ⟨_, rfl, d, c, 4, rfl, D2, by decide, by decide, fun n H3 hn D3 kp3 => ⟨_, rfl, by omega, by omega, ?_⟩⟩
    rw [Int.toNat_natCast]
    have e3 := kp3 _ _ (kp2 _ _ epa npd) npd
    refine for_range (lo := 0) (n := n) (fun i σ' H' => ∃ (v : Tv) (c3 c4 c5 : Option V), σ' = [some (.ref d), some (.ref pa), some (tV (tellM v)), c3, c4, c5] ∧ GoodT v (2 + i) (40 + 90 * i) ∧ H' pa = some (.lst (tL (baseV.map tellM))) ∧ Dr H' d c ∧ Kp d H H')
      ⟨u, none, none, none, rfl, gu, e3, D3, (kp1.trans kp2).trans kp3⟩ ?_ ?_
    · rintro i σ' H' hi ⟨v, c3, c4, c5, rfl, gv, ep, D', kp'⟩
      refine ⟨_, rfl, d, c, 3, rfl, D', by decide, by decide, fun n2 H4 hn2 D4 kp4 => ⟨_, rfl, by omega, by omega, ?_⟩⟩
      rw [Int.toNat_natCast]
      have ep4 := kp4 _ _ ep npd
      intro R hR
      obtain ⟨nRd, nRc⟩ := D4.ne hR
      have nRp : pa ≠ R := ne_of_none ep4 hR
      refine lc_range (lo := 0) (n := n2) (fun j H3 => ∃ vs : List Tv, H3 R = some (.lst (tL (vs.map tellM))) ∧ (∀ v ∈ vs, GoodT v 2 40) ∧ vs.length = j ∧ H3 pa = some (.lst (tL (baseV.map tellM))) ∧ Dr H3 d c ∧ Kp d H4 H3)
        ⟨[], upd_same, fun v hv => (List.not_mem_nil hv).elim, rfl, by rw [upd_ne nRp]; exact ep4, D4.put nRd nRc, (Kp.refl d H4).new hR⟩ ?_ ?_
      · rintro j H3 hj ⟨vs, g1, gs, nl, ep3, D3, kp3⟩
        refine ⟨rfl, ?_⟩
        refine ⟨_, rfl, _, rfl, d, c, pa, _, rfl, D3, ep3, npd, npc, by decide, by decide, fun i x H5 hx D5 kp5 => ?_⟩
        obtain ⟨u2, hu2, rfl⟩ := drawn hx
        refine ⟨_, kp5 _ _ g1 nRd, Nat.lt_of_le_of_lt (show (tL (vs.map tellM)).length ≤ 40 by rw [List.length_map, List.length_map]; omega) (by decide), vs ++ [u2], ?_, fun x hx => ?_, by rw [List.length_append, nl]; rfl, by rw [upd_ne nRp]; exact kp5 _ _ ep3 npd, D5.put nRd nRc, (kp3.trans kp5).new hR⟩
        · rw [upd_same, List.map_append]
          show _ = some (HO.lst (tL (vs.map tellM ++ [tellM u2])))
          rw [tL_snoc]
        · rcases List.mem_append.mp hx with h | h
          · exact gs x h
          · rw [List.mem_singleton.mp h]
            exact base_good u2 hu2
      · rintro H5 ⟨vs, g1, gs, nl, ep5, D5, kp5⟩
        refine ⟨_, rfl, .inl ⟨rfl, _, SqL.of g1⟩, ?_⟩
        refine ⟨_, rfl, _, rfl, R, _, rfl, .inl (SqL.of g1), _, 1, rfl, rfl, d, c, _, rfl, D5, by rw [List.length_map, List.length_map]; omega, by rw [List.length_map, List.length_map]; omega, fun j H6 hj D6 kp6 => ?_⟩
        have g6 := kp6 _ _ g1 nRd
        refine ⟨_, rfl, R, _, (j : Int), tV (tellM v), rfl, rfl, g6, Nat.lt_of_le_of_lt (show (tL (vs.map tellM)).length ≤ 40 by rw [List.length_map, List.length_map]; omega) (by decide), by omega, by rw [List.length_map, List.length_map] at hj; omega, ?_⟩
        have eR : (tL (vs.map tellM)).take (j : Int).toNat ++ [tV (tellM v)] ++ (tL (vs.map tellM)).drop (j : Int).toNat = (((vs.take (j : Int).toNat ++ [v] ++ vs.drop (j : Int).toNat).map tellM).map S).map V.str := by
          simp only [List.map_append, List.map_take, List.map_drop, List.map_map]
          rfl
        have gR : upd H6 R (.lst ((tL (vs.map tellM)).take (j : Int).toNat ++ [tV (tellM v)] ++ (tL (vs.map tellM)).drop (j : Int).toNat)) R = some (.lst ((((vs.take (j : Int).toNat ++ [v] ++ vs.drop (j : Int).toNat).map tellM).map S).map V.str)) := by rw [upd_same, eR]
        have okn : ∀ x ∈ vs.take (j : Int).toNat ++ [v] ++ vs.drop (j : Int).toNat, Ok x ∧ dep x ≤ 2 + i := fun x hx => by
          rcases List.mem_append.mp hx with h | h
          · rcases List.mem_append.mp h with h | h
            · have := gs x (List.mem_of_mem_take h)
              exact ⟨this.ok, Nat.le_trans this.dp (Nat.le_add_right _ _)⟩
            · rw [List.mem_singleton.mp h]
              exact ⟨gv.ok, gv.dp⟩
          · have := gs x (List.mem_of_mem_drop h)
            exact ⟨this.ok, Nat.le_trans this.dp (Nat.le_add_right _ _)⟩
        have wtv : ∀ (l : List Tv), (∀ v ∈ l, GoodT v 2 40) → wtT (toksL l) ≤ 40 * l.length := by
          intro l
          induction l with
          | nil => intro _; exact Nat.le_refl _
          | cons a l ih =>
            intro h
            show wtT (toks a ++ toksL l) ≤ _
            rw [wtT_append, List.length_cons]
            have := (h a List.mem_cons_self).wt
            have := ih fun x hx => h x (List.mem_cons_of_mem _ hx)
            omega
        have wtn : wtT (toksL (vs.take (j : Int).toNat ++ [v] ++ vs.drop (j : Int).toNat)) ≤ 40 + 90 * i + 80 := by
          rw [toksL_append, toksL_append, toksL_one, wtT_append, wtT_append]
          have a1 := wtv (vs.take (j : Int).toNat) fun x hx => gs x (List.mem_of_mem_take hx)
          have a2 := wtv (vs.drop (j : Int).toNat) fun x hx => gs x (List.mem_of_mem_drop hx)
          have a3 := gv.wt
          rw [List.length_take] at a1
          rw [List.length_drop] at a2
          omega
        have lenn : (vs.take (j : Int).toNat ++ [v] ++ vs.drop (j : Int).toNat).length ≤ 3 := by
          rw [List.length_append, List.length_append, List.length_take, List.length_drop]
          show _ + 1 + _ ≤ 3
          omega
        have kpI : Kp d H (upd H6 R (.lst ((tL (vs.map tellM)).take (j : Int).toNat ++ [tV (tellM v)] ++ (tL (vs.map tellM)).drop (j : Int).toNat))) := (((kp'.trans kp4).trans kp5).trans kp6).new (kp_freeB (kp'.trans kp4) hR nRd)
        have DI := D6.put (o := .lst ((tL (vs.map tellM)).take (j : Int).toNat ++ [tV (tellM v)] ++ (tL (vs.map tellM)).drop (j : Int).toNat)) nRd nRc
        have epI : upd H6 R (.lst ((tL (vs.map tellM)).take (j : Int).toNat ++ [tV (tellM v)] ++ (tL (vs.map tellM)).drop (j : Int).toNat)) pa = some (.lst (tL (baseV.map tellM))) := by rw [upd_ne nRp]; exact kp6 _ _ ep5 npd
        generalize vs.take (j : Int).toNat ++ [v] ++ vs.drop (j : Int).toNat = us at *
        generalize upd H6 R (.lst ((tL (vs.map tellM)).take (j : Int).toNat ++ [tV (tellM v)] ++ (tL (vs.map tellM)).drop (j : Int).toNat)) = H7 at *
        have okL : OkL us := okL_of fun x hx => (okn x hx).1
        have tl := tells_len us
        have ej : Txt.join (S [32]) ((us.map tellM).map S) = S (TL.joinL [32] (us.map tellM)) := join_S [32] (us.map tellM)
        have et := tell_tup us okL
        have lt : (tellM (.tup us)).length ≤ wtT (toks (.tup us)) := joinS_len _
        rw [wt_tupB] at lt
        have ljo : (TL.joinL [32] (us.map tellM)).length + 2 = (tellM (.tup us)).length := by
          rw [et]
          simp only [List.length_append, List.length_cons, List.length_nil]
          omega
        refine ⟨⟨_, rfl⟩, _, rfl, S [32], R, (us.map tellM).map S, rfl, rfl, .inl (SqL.of gR), ?_, ?_⟩
        · rw [lens, List.length_map, List.length_map]
          show _ + us.length * 1 ≤ _
          omega
        · rw [ej]
          refine ⟨S [40], S (TL.joinL [32] (us.map tellM)), rfl, rfl, ?_, ?_⟩
          · rw [S_len, S_len]
            refine lt_lineT ?_
            show 1 + _ ≤ _
            omega
          · refine ⟨S [40] ++ S (TL.joinL [32] (us.map tellM)), S [41], rfl, rfl, ?_, ?_⟩
            · rw [S_cat, S_len, S_len]
              refine lt_lineT ?_
              rw [List.length_append]
              show 1 + _ + 1 ≤ _
              omega
            · rw [S_cat, S_cat]
              refine ⟨.tup us, some (.int (0 + (i : Int))), some (.ref R), c5, ?_, ⟨okL, ?_, ?_⟩, epI, DI, kpI⟩
              · rw [et]
                rfl
              · show depL us + 1 ≤ _
                have := depL_le.mpr fun x hx => (okn x hx).2
                omega
              · rw [wt_tupB]
                omega
    · rintro σ' H' ⟨v, c3, c4, c5, rfl, gv, ep, D', kp'⟩
      exact ⟨_, rfl, k v H' ⟨gv.ok, Nat.le_trans gv.dp (by omega), Nat.le_trans gv.wt (by omega)⟩ D' kp'⟩
end
end L2.KK
namespace L2.KK
open PySem PySem.Spec PyProof.Rows C8 SX MT
theorem sc_law_spoilt : FnScope ["d", "text", "way", "at"] ["d", "text"] (defScope s_law_spoilt) := ⟨rfl, rfl, rfl, by decide +kernel, rfl, by decide +kernel, by decide +kernel⟩
theorem sc_law_read : FnScope ["text", "line", "error"] ["text", "line"] (defScope s_law_read) := ⟨rfl, rfl, rfl, by decide +kernel, rfl, by decide +kernel, by decide +kernel⟩
theorem sc_law : FnScope ["script", "d", "k", "line", "good", "told", "text"] ["script"] (defScope s_law) := ⟨rfl, rfl, rfl, by decide +kernel, rfl, by decide +kernel, by decide +kernel⟩
/-- a text of at most so many signs -/
def TB (B : Nat) (v : V) : Prop := ∃ z : Str, v = .str z ∧ z.length ≤ B
theorem TB.t {B : Nat} {v : V} (h : TB B v) : ∃ l : List Nat, v = tV l ∧ l.length ≤ B := by
  obtain ⟨z, rfl, hz⟩ := h
  refine ⟨z.cps.toList, by rw [show tV z.cps.toList = V.str (S z.cps.toList) from rfl, S_tl], ?_⟩
  rw [← TL.len_tl]
  exact hz
theorem tb_at {B : Nat} {xs : List V} {i : Nat} {v : V} (h : ∀ v ∈ xs, TB B v) (e : xs[i]? = some v) : ∃ l : List Nat, v = tV l ∧ l.length ≤ B := (h v (List.mem_of_getElem? e)).t
section
variable {P : Program} {w : World} {K : PySem.W.Frag} {mg : Str → Option Value} {base : Heap}
def spSpoilt : Sp := fun vs H Q _ => ∃ (d c : Addr) (t : List Nat), vs = [.ref d, tV t] ∧ Dr H d c ∧ t.length ≤ 1000 ∧ ∀ (l : List Nat) H', l.length ≤ 5000 → Dr H' d c → Kp d H H' → Q (tV l) H'
theorem c_law_spoilt (D : FnAt K mg "_law_spoilt" s_law_spoilt) (T : Bl mg) (c_law_pick : Cal P w K mg base 2 "_law_pick" spPick []) (c_law_draw : Cal P w K mg base 1 "_law_draw" spDraw []) : Cal P w K mg base 3 "_law_spoilt" spSpoilt [] := by
  refine calOf D sc_law_spoilt (fun _ _ _ _ _ _ us hl => match us, hl with | [_, _], _ => rfl) (fun vs H Q E h => ?_) (fun f cdv A outer s H vs Q E hr h => ?_)
  · obtain ⟨d, c, t, rfl, _⟩ := h
    rfl
  · obtain ⟨d, c, t, rfl, D, ht, k⟩ := h
    have nd := sc_law_spoilt.nd
    refine ⟨_, (pss_cons (ps_set (i := 2) nd rfl (by first | exact Or.inl rfl | exact Or.inr rfl) (pe_c c_law_draw hr (by decide) (by rfl) (pa_cons (pv 0) (pa_cons pe_int pa_nil))))
      (pss_cons (ps_set (i := 3) nd rfl (by first | exact Or.inl rfl | exact Or.inr rfl) (pe_c c_law_draw hr (by decide) (by rfl) (pa_cons (pv 0) (pa_cons (pe_op op_addNN (pe_callB call_len_str (by rfl) T.b_len (by decide +kernel) (pa_cons (pv 1) pa_nil)) pe_int) pa_nil))))
      (pss_cons (ps_if (pt_cmpR op_lt (pv 2) pe_int (nomark _))
        (pss_one (ps_ret (pe_op op_add_str (pe_op op_add_str (pe_slice sl_txt (pv 1) po_none (po_some (pv 3))) (pe_c c_law_pick hr (by decide) (by rfl) (pa_cons (pv 0) (pa_cons (pe_lst (pa_cons pe_str (pa_cons pe_str (pa_cons pe_str (pa_cons pe_str (pa_cons pe_str (pa_cons pe_str (pa_cons pe_str (pa_cons pe_str (pa_cons pe_str (pa_cons pe_str (pa_cons pe_str pa_nil)))))))))))) pa_nil)))) (pe_slice sl_txt (pv 1) (po_some (pv 3)) po_none))))
        pss_nil)
      (pss_cons (ps_if (pt_cmpR op_lt (pv 2) pe_int (nomark _))
        (pss_one (ps_ret (pe_op op_add_str (pe_slice sl_txt (pv 1) po_none (po_some (pv 3))) (pe_slice sl_txt (pv 1) (po_some (pe_op op_addNN (pv 3) pe_int)) po_none))))
        pss_nil)
      (pss_cons (ps_if (pt_cmpR op_lt (pv 2) pe_int (nomark _))
        (pss_one (ps_ret (pe_op op_add_str (pe_op op_add_str (pe_slice sl_txt (pv 1) po_none (po_some (pv 3))) (pe_c c_law_pick hr (by decide) (by rfl) (pa_cons (pv 0) (pa_cons (pe_lst (pa_cons pe_str (pa_cons pe_str (pa_cons pe_str (pa_cons pe_str (pa_cons pe_str (pa_cons pe_str (pa_cons pe_str pa_nil)))))))) pa_nil)))) (pe_slice sl_txt (pv 1) (po_some (pe_op op_addNN (pv 3) pe_int)) po_none))))
        pss_nil)
      (pss_one (ps_ret (pe_c c_law_pick hr (by decide) (by rfl) (pa_cons (pv 0) (pa_cons (pe_lst (pa_cons pe_str (pa_cons pe_str (pa_cons (pe_op op_add_str (pe_op op_add_str (pv 1) pe_str) (pv 1)) (pa_cons (pe_op op_add_str pe_str (pv 1)) (pa_cons (pe_op op_add_str (pv 1) pe_str) (pa_cons pe_str (pa_cons pe_str (pa_cons pe_str (pa_cons pe_str (pa_cons pe_str (pa_cons pe_str (pa_cons (pe_op op_add_str (pe_op op_mulS pe_str pe_int) (pe_op op_mulS pe_str pe_int)) (pa_cons (pe_op op_add_str (pe_op op_mulS pe_str pe_int) (pe_op op_mulS pe_str pe_int)) (pa_cons (pe_op op_mulS pe_str pe_int) (pa_cons (pe_op op_mulS pe_str pe_int) (pa_cons (pe_op op_add_str (pv 1) pe_str) pa_nil))))))))))))))))) pa_nil)))))))))), ?_⟩
    have hz : (S t).length ≤ sizeLine := by rw [S_len]; exact lt_lineT (by omega)
    refine ⟨_, rfl, d, c, 12, rfl, D, by decide, by decide, fun n H1 hn D1 kp1 => ?_⟩
    refine ⟨_, rfl, _, rfl, S t, rfl, hz, _, 1, rfl, rfl, d, c, _, rfl, D1, by rw [S_len]; omega, by rw [S_len]; omega, fun a H2 ha D2 kp2 => ?_⟩
    rw [S_len] at ha
    have ha' : a ≤ t.length := by omega
    have kp12 := kp1.trans kp2
    have s1 : Txt.slice (S t) none (some (a : Int)) = S (t.take a) := slice_to (Int.natCast_nonneg a)
    have s2 : Txt.slice (S t) (some (a : Int)) none = S (t.drop a) := slice_from (Int.natCast_nonneg a)
    have s3 : Txt.slice (S t) (some ((a + 1 : Nat) : Int)) none = S (t.drop (a + 1)) := slice_from (Int.natCast_nonneg (a + 1))
    have l1 : (t.take a).length ≤ 1000 := by rw [List.length_take]; omega
    have l2 : (t.drop a).length ≤ 1000 := by rw [List.length_drop]; omega
    have l3 : (t.drop (a + 1)).length ≤ 1000 := by rw [List.length_drop]; omega
    refine ⟨_, rfl, _, _, rfl, rfl, _, rfl, ite2 (fun _ => ?_) (fun _ => ?_)⟩
    · refine ⟨_, rfl, _, rfl, _, rfl, S t, rfl, hz, ?_⟩
      rw [s1]
      refine ⟨_, rfl, by show 11 ≤ sizeLine; decide, fun q hq => ?_⟩
      obtain ⟨nqd, nqc⟩ := D2.ne hq
      refine ⟨d, c, q, _, rfl, D2.keep (same_new hq), upd_same, nqd, nqc, by decide, by decide, fun i v H3 hv D3 kp3 => ?_⟩
      obtain ⟨l, rfl, hl⟩ := tb_at (B := 10) (by
        repeat (first | exact List.forall_mem_nil _ | refine List.forall_mem_cons.mpr ⟨⟨_, rfl, by decide⟩, ?_⟩)) hv
      refine ⟨_, _, rfl, rfl, by rw [S_len, S_len]; exact lt_lineT (by omega), ?_⟩
      refine ⟨_, rfl, _, rfl, _, rfl, S t, rfl, hz, ?_⟩
      rw [s2]
      refine ⟨_, _, rfl, rfl, by rw [S_cat, S_len, S_len, List.length_append]; exact lt_lineT (by omega), ?_⟩
      rw [S_cat, S_cat]
      exact k _ H3 (by rw [List.length_append, List.length_append]; omega) D3 ((kp12.trans (Kp.of (same_new hq))).trans kp3)
    · refine ⟨_, rfl, _, _, rfl, rfl, _, rfl, ite2 (fun _ => ?_) (fun _ => ?_)⟩
      · refine ⟨_, rfl, _, rfl, _, rfl, S t, rfl, hz, ?_⟩
        rw [s1]
        refine ⟨_, rfl, _, rfl, a, 1, rfl, rfl, _, rfl, S t, rfl, hz, ?_⟩
        rw [s3]
        refine ⟨_, _, rfl, rfl, by rw [S_len, S_len]; exact lt_lineT (by omega), ?_⟩
        rw [S_cat]
        exact k _ H2 (by rw [List.length_append]; omega) D2 kp12
      · refine ⟨_, rfl, _, _, rfl, rfl, _, rfl, ite2 (fun _ => ?_) (fun _ => ?_)⟩
        · refine ⟨_, rfl, _, rfl, _, rfl, S t, rfl, hz, ?_⟩
          rw [s1]
          refine ⟨_, rfl, by show 7 ≤ sizeLine; decide, fun q hq => ?_⟩
          obtain ⟨nqd, nqc⟩ := D2.ne hq
          refine ⟨d, c, q, _, rfl, D2.keep (same_new hq), upd_same, nqd, nqc, by decide, by decide, fun i v H3 hv D3 kp3 => ?_⟩
          obtain ⟨l, rfl, hl⟩ := tb_at (B := 10) (by
            repeat (first | exact List.forall_mem_nil _ | refine List.forall_mem_cons.mpr ⟨⟨_, rfl, by decide⟩, ?_⟩)) hv
          refine ⟨_, _, rfl, rfl, by rw [S_len, S_len]; exact lt_lineT (by omega), ?_⟩
          refine ⟨_, rfl, _, rfl, a, 1, rfl, rfl, _, rfl, S t, rfl, hz, ?_⟩
          rw [s3]
          refine ⟨_, _, rfl, rfl, by rw [S_cat, S_len, S_len, List.length_append]; exact lt_lineT (by omega), ?_⟩
          rw [S_cat, S_cat]
          exact k _ H3 (by rw [List.length_append, List.length_append]; omega) D3 ((kp12.trans (Kp.of (same_new hq))).trans kp3)
        · have lt : (S t).length = t.length := S_len t
          have sz : ∀ {y z : Str} {m n : Nat}, y.length ≤ m → z.length ≤ n → m + n ≤ 5000 → y.length + z.length ≤ sizeLine := fun h1 h2 h3 => lt_lineT (by omega)
          have b1 : (Str.ofString " ").length ≤ 10 := by decide
          refine ⟨_, rfl, _, rfl, _, _, rfl, rfl, sz (m := 1000) (n := 10) (by omega) (by decide) (by decide), _, rfl, _, _, rfl, rfl, sz (m := 1010) (n := 1000) (by rw [len_app, lt]; omega) (by omega) (by decide), ?_⟩
          refine ⟨_, rfl, _, _, rfl, rfl, sz (m := 10) (n := 1000) (by decide) (by omega) (by decide), ?_⟩
          refine ⟨_, rfl, _, _, rfl, rfl, sz (m := 1000) (n := 10) (by omega) (by decide) (by decide), ?_⟩
          refine ⟨40, 13, rfl, rfl, by decide, by decide, 41, 13, rfl, rfl, by decide, by decide, _, _, rfl, rfl, sz (m := 13) (n := 13) (by decide) (by decide) (by decide), ?_⟩
          refine ⟨40, 12, rfl, rfl, by decide, by decide, 41, 12, rfl, rfl, by decide, by decide, _, _, rfl, rfl, sz (m := 13) (n := 13) (by decide) (by decide) (by decide), ?_⟩
          refine ⟨49, 101, rfl, rfl, by decide, by decide, 57, 100, rfl, rfl, by decide, by decide, ?_⟩
          refine ⟨_, rfl, _, _, rfl, rfl, sz (m := 1000) (n := 10) (by omega) (by decide) (by decide), ?_⟩
          refine ⟨by show 16 ≤ sizeLine; decide, fun q hq => ?_⟩
          obtain ⟨nqd, nqc⟩ := D2.ne hq
          refine ⟨d, c, q, _, rfl, D2.keep (same_new hq), upd_same, nqd, nqc, by show (0 : Nat) < 16; decide, by show 16 ≤ 100000; decide, fun i v H3 hv D3 kp3 => ?_⟩
          obtain ⟨l, rfl, hl⟩ := tb_at (B := 5000) (by
            have c1 : (Str.ofString " ").length = 1 := by decide
            have c2 : (Str.ofString "(").length = 1 := by decide
            have c3 : (Str.ofString ")").length = 1 := by decide
            have c4 : (Str.ofString "\n").length = 1 := by decide
            repeat (first | exact List.forall_mem_nil _ | refine List.forall_mem_cons.mpr ⟨⟨_, rfl, by first
              | decide
              | (rw [len_app, len_app, lt, c1]; omega)
              | (rw [len_app, lt, c2]; omega)
              | (rw [len_app, lt, c3]; omega)
              | (rw [len_app, lt, c4]; omega)⟩, ?_⟩)) hv
          exact k _ H3 hl D3 ((kp12.trans (Kp.of (same_new hq))).trans kp3)
def toldT : List Nat := [116, 111, 108, 100]
def badT : List Nat := [98, 97, 100]
def spLRead (K : PySem.W.Frag) : Sp := fun vs H Q _ => ∃ (l : List Nat) (ln : V), vs = [tV l, ln] ∧ l.length ≤ 100000 ∧ (∀ v, readM l = some v → ∀ p y H', Same H H' → H' p = some (.tup [tV toldT, y]) → TvAt K H' y v → Q (.ref p) H') ∧
  (readM l = none → ∀ p H', Same H H' → H' p = some (.tup [tV badT, ln]) → Q (.ref p) H')
theorem c_law_read (D : FnAt K mg "_law_read" s_law_read) (Z : Ev K mg) (T : Bl mg) (c_read_telling : CalX P w K mg base 4 "read_telling" (spRead K Z.BadText)) : Cal P w K mg base 5 "_law_read" (spLRead K) [] := by
  refine calOf D sc_law_read (fun _ _ _ _ _ _ us hl => match us, hl with | [_, _], _ => rfl) (fun vs H Q E h => ?_) (fun f cdv A outer s H vs Q E hr h => ?_)
  · obtain ⟨l, ln, rfl, _⟩ := h
    rfl
  · obtain ⟨l, ln, rfl, hz, k1, k2⟩ := h
    have nd := sc_law_read.nd
    refine ⟨_, (pss_one (ps_try_as (i := 2) (Wout := fun _ _ _ _ => False) rfl rfl nd rfl rfl ⟨by rfl, by decide, Or.inl Z.k_BadText⟩ takes0 (fun W pn xe tk _ =>
        (pss_one (ps_ret (pe_tup (pa_cons pe_str (pa_cons (pe_cx c_read_telling hr (by decide) (by rfl) tk (pa_cons (pv 0) (pa_cons (pv 1) pa_nil))) pa_nil))))))
        (fun a oe cls d pn hz hf => (pss_one (ps_ret (pe_tup (pa_cons pe_str (pa_cons (pe_ifExp (PW.pt (pw_and (pt_val (pe_callB (call_isO Z.x_BadText hz hf) (by rfl) T.b_isinstance (by decide +kernel) (pa_cons (pv 2) (pa_cons (pe_glob (v := .ref Z.PricedError) (by rfl) Z.k_PricedError (by rfl)) pa_nil)))) (pw_and1 (pt_val (pe_callB (call_isO Z.x_BadText hz hf) (by rfl) T.b_isinstance (by decide +kernel) (pa_cons (pv 2) (pa_cons (pe_bltn (v := .ty "ValueError") (u := .type "ValueError") (by rfl) T.b_ValueError (by decide +kernel) (by rfl)) pa_nil))))))) (pe_xf Z.o_BadText.xf Z.n_BadText_line hz hf (pv 2)) (pe_un un_neg pe_int)) pa_nil)))))))), ?_⟩
    refine ⟨_, rfl, _, rfl, l, ln, rfl, hz, fun v hv y H1 sm1 hy => ⟨by show 2 ≤ sizeLine; decide, fun p hp => ?_⟩, fun hn d H1 sm1 hd e => ?_⟩
    · have sm2 := same_new (o := .tup [tV toldT, y]) hp
      exact k1 v hv p y _ (sm1.trans sm2) upd_same (TvAt.step (sameT_of sm2) v y hy)
    · refine ⟨true, Z.e_BadText_BadText, fun _ a0 _ => ?_, fun q => Bool.noConfusion q⟩
      refine ⟨_, rfl, rfl, .ref Z.PricedError, _, true, d, _, rfl, rfl, e, fun u r => r, Z.s_BadText_PricedError, true, rfl, iteT ?_⟩
      refine ⟨_, rfl, rfl, .ty "ValueError", _, true, d, _, rfl, rfl, e, fun u r => r, Z.s_BadText_ValueError, true, rfl, iteT ?_⟩
      refine ⟨_, rfl, rfl, rfl, d, _, _, rfl, e, rfl, ?_⟩
      refine ⟨by show 2 ≤ sizeLine; decide, fun p hp => ?_⟩
      exact k2 hn p _ (sm1.trans (same_new hp)) upd_same
def spLaw (K : PySem.W.Frag) : Sp := fun vs H Q _ => ∃ (a : Addr) (ns : List Int), vs = [.ref a] ∧ SqL K H a (ns.map V.int) ∧ ns.length ≤ 63 ∧ ∀ H', Q (.bl true) H'
theorem ok_law {f : Addr} {fd : FuncData} (F : FnP K "law" "law" s_law f fd) (Z : Ev K mg) (T : Bl mg) (c_law_begin : Cal P w K mg base 1 "_law_begin" (spBegin K) []) (c_law_draw : Cal P w K mg base 1 "_law_draw" spDraw []) (c_law_base : Cal P w K mg base 3 "_law_base" spBase [])
    (c_law_spoilt : Cal P w K mg base 3 "_law_spoilt" spSpoilt []) (c_law_read : Cal P w K mg base 5 "_law_read" (spLRead K) []) (c_law_fits : Cal P w K mg base 2 "_law_fits" spFits []) (c_telling : Cal P w K mg base 2 "telling" (spTell K) []) :
    FnOk P w K mg base CX0 6 f fd ["script"] (spLaw K) := by
  refine okOf F sc_law (fun vs H Q E h => ?_) (fun f cdv A outer s H vs Q E hr h => ?_)
  · obtain ⟨a, ns, rfl, _⟩ := h
    rfl
  · obtain ⟨a, ns, rfl, hS, hl, k⟩ := h
    have nd := sc_law.nd
    have hu := hr.units
    refine ⟨_, (pss_cons (ps_set (i := 1) nd rfl (by first | exact Or.inl rfl | exact Or.inr rfl) (pe_c c_law_begin hr (by decide) (by rfl) (pa_cons (pv 0) pa_nil)))
      (pss_cons (ps_for PassesOwn.never rfl (pi_range1 (by rfl) T.b_range (pa_cons pe_int pa_nil)) (pg_name (i := 2) nd rfl (by first | exact Or.inl rfl | exact Or.inr rfl))
        (pss_cons (ps_set (i := 3) nd rfl (by first | exact Or.inl rfl | exact Or.inr rfl) (pe_c c_law_draw hr (by decide) (by rfl) (pa_cons (pv 1) (pa_cons pe_int pa_nil))))
        (pss_cons (ps_set (i := 4) nd rfl (by first | exact Or.inl rfl | exact Or.inr rfl) (pe_c c_law_base hr (by decide) (by rfl) (pa_cons (pv 1) pa_nil)))
        (pss_cons (ps_set (i := 5) nd rfl (by first | exact Or.inl rfl | exact Or.inr rfl) (pe_c c_law_read hr (by decide) (by rfl) (pa_cons (pv 4) (pa_cons (pv 3) pa_nil))))
        (pss_cons (ps_if (PW.pt (pw_or (pt_cmpR op_ne (pe_ix (ixT K) (pv 5) pe_int (fun _ _ => rfl)) pe_str (nomark _)) (pw_or1 (pt_cmpR op_ne (pe_c c_telling hr (by decide) (by rfl) (pa_cons (pe_ix (ixT K) (pv 5) pe_int (fun _ _ => rfl)) pa_nil)) (pv 4) (nomark _)))))
          (pss_one (ps_ret pe_bl))
          pss_nil)
        (pss_cons (ps_set (i := 6) nd rfl (by first | exact Or.inl rfl | exact Or.inr rfl) (pe_c c_law_spoilt hr (by decide) (by rfl) (pa_cons (pv 1) (pa_cons (pv 4) pa_nil))))
        (pss_cons (ps_set (i := 5) nd rfl (by first | exact Or.inl rfl | exact Or.inr rfl) (pe_c c_law_read hr (by decide) (by rfl) (pa_cons (pv 6) (pa_cons (pv 3) pa_nil))))
        (pss_one (ps_if (pt_val (pe_c c_law_fits hr (by decide) (by rfl) (pa_cons (pv 6) pa_nil)))
          (pss_one (ps_if (PW.pt (pw_or (pt_cmpR op_ne (pe_ix (ixT K) (pv 5) pe_int (fun _ _ => rfl)) pe_str (nomark _)) (pw_or1 (pt_cmpR op_ne (pe_c c_telling hr (by decide) (by rfl) (pa_cons (pe_ix (ixT K) (pv 5) pe_int (fun _ _ => rfl)) pa_nil)) (pv 6) (nomark _)))))
            (pss_one (ps_ret pe_bl))
            pss_nil))
          (pss_one (ps_if (pt_cmpR (neD K hu) (pv 5) (pe_tup (pa_cons pe_str (pa_cons (pv 3) pa_nil))) (nomark _))
            (pss_one (ps_ret pe_bl))
            pss_nil)))))))))))
      (pss_one (ps_ret pe_bl)))), ?_⟩
    refine ⟨_, rfl, a, ns, rfl, hS, hl, fun d c H1 sm1 hd0 hc0 D1 => ?_⟩
    refine ⟨4, rfl, by decide, by decide, ?_⟩
    refine for_range (lo := 0) (n := 4) (fun i σ' H' => ∃ c2 c3 c4 c5 c6 : Option V, σ' = [some (.ref a), some (.ref d), c2, c3, c4, c5, c6] ∧ Dr H' d c) ⟨none, none, none, none, none, rfl, D1⟩ ?_ ?_
    · rintro i σ' H' hi ⟨c2, c3, c4, c5, c6, rfl, D2⟩
      refine ⟨_, rfl, d, c, 1000, rfl, D2, by decide, by decide, fun n H3 hn D3 kp3 => ?_⟩
      refine ⟨_, rfl, d, c, rfl, D3, fun v H4 gv D4 kp4 => ?_⟩
      have hrt := read_tell gv.ok (Nat.le_trans gv.dp (by decide))
      have hlen : (tellM v).length ≤ wtT (toks v) := joinS_len _
      have hwt := gv.wt
      refine ⟨_, rfl, _, rfl, tellM v, nV n, rfl, by omega, fun v' hv' p y H5 sm5 ep hy => ?_, fun hno => by rw [hrt] at hno; cases hno⟩
      rw [hrt] at hv'
      cases hv'
      have D5 := D4.keep sm5
      refine ⟨_, rfl, p, _, 0, tV toldT, rfl, rfl, .inl (.inl ep), rfl, rfl, _, rfl, ite2 (fun h => ?_) (fun _ => ?_)⟩
      · exact absurd h (by decide)
      refine ⟨_, rfl, p, _, 1, y, rfl, rfl, .inl (.inl ep), rfl, y, v, rfl, hy, gv.ok, by omega, fun H6 sm6 => ⟨_, rfl, rfl, _, rfl, ite2 (fun h => ?_) (fun _ => ?_)⟩⟩
      · rw [decide_eq_true rfl] at h
        exact absurd h (by decide)
      have D6 := D5.keep sm6
      refine ⟨_, rfl, _, rfl, d, c, tellM v, rfl, D6, by omega, fun l H7 hl7 D7 kp7 => ?_⟩
      have hfit := fit_iff l
      refine ⟨_, rfl, _, rfl, l, nV n, rfl, by omega, fun v2 hv2 p2 y2 H8 sm8 ep2 hy2 => ?_, fun hno p2 H8 sm8 ep2 => ?_⟩
      · rw [hv2] at hfit
        obtain ⟨ok2, tk2, tl2, _⟩ := read_some hv2
        refine ⟨_, rfl, l, rfl, by omega, fun H9 sm9 => ⟨_, rfl, ?_⟩⟩
        rw [hfit]
        refine iteT ?_
        have ep9 := sm9 _ _ ep2
        have hy9 := TvAt.step (sameT_of sm9) v2 y2 hy2
        refine ⟨_, rfl, p2, _, 0, tV toldT, rfl, rfl, .inl (.inl ep9), rfl, rfl, _, rfl, ite2 (fun h => ?_) (fun _ => ?_)⟩
        · exact absurd h (by decide)
        have wl := words_wt l
        refine ⟨_, rfl, p2, _, 1, y2, rfl, rfl, .inl (.inl ep9), rfl, y2, v2, rfl, hy9, ok2, by rw [tk2]; omega, fun H10 sm10 => ⟨_, rfl, rfl, _, rfl, ite2 (fun h => ?_) (fun _ => ?_)⟩⟩
        · rw [tl2, decide_eq_true rfl] at h
          exact absurd h (by decide)
        exact ⟨_, _, _, _, _, rfl, ((D7.keep sm8).keep sm9).keep sm10⟩
      · rw [hno] at hfit
        refine ⟨_, rfl, l, rfl, by omega, fun H9 sm9 => ⟨_, rfl, ?_⟩⟩
        rw [hfit]
        refine iteF ?_
        have ep9 := sm9 _ _ ep2
        refine ⟨_, rfl, _, rfl, by show 2 ≤ sizeLine; decide, fun t2 ht2 => ?_⟩
        have smt := same_new (o := .tup [tV badT, nV n]) ht2
        have dp : ∀ {p : Addr} {H : Hp}, H p = some (.tup [tV badT, nV n]) → Dp K H (.ref p) (.tuple [.str (S badT), .int n]) := fun h => .tup (.inl (.inl h)) (.cons (.str _) (.cons (.int _) .nil))
        have p1 : pln (.tuple [.str (S badT), .int n]) = true := pln_tup fun x hx => by
          rcases List.mem_cons.mp hx with e | e
          · rw [e]; decide +kernel
          · rw [List.mem_singleton.mp e]; rfl
        have d1 : (PyData.tuple [.str (S badT), .int n]).depth ≤ 64 := Nat.le_trans (depth_tup (n := 0) fun x hx => by
          rcases List.mem_cons.mp hx with e | e
          · rw [e]; exact Nat.le_refl 0
          · rw [List.mem_singleton.mp e]; exact Nat.le_refl 0) (by decide)
        refine ned_pln (dp (smt _ _ ep9)) (dp upd_same) p1 p1 d1 d1 fun k hk => ⟨_, rfl, ite2 (fun h => ?_) (fun _ => ?_)⟩
        · rw [hk.mpr rfl] at h
          exact absurd h (by decide)
        · exact ⟨_, _, _, _, _, rfl, ((D7.keep sm8).keep sm9).keep smt⟩
    · rintro σ' H' ⟨c2, c3, c4, c5, c6, rfl, D2⟩
      exact k _
end
end L2.KK
namespace L2.KK
open PySem PySem.Spec PyProof.Rows C8
def evOf {K : PySem.W.Frag} {h : Heap} {mg : Str → Option Value} (X : K.In h) (G : h.Ns mainGlobals mg) (c : SaysK faL fnL myL K) : Ev K mg where
  s_BadText_PricedError := of_decide_eq_true (c.own 0 (f := isiB "BadText" "PricedError" true) rfl)
  BadText := He.ga K "BadText"
  f_BadText := He.ma K (He.ga K "BadText") "__init__"
  k_BadText := He.glo_ok X G (c.1.fact 33 (f := .glo "BadText") rfl)
  o_BadText := ownB_ok (c.own 1 (f := ownB "BadText") rfl)
  d_BadText := c.1.def_ 0 (d := dd_BadText_init) rfl
  n_BadText_line := He.noat_ok (c.1.fact 34 (f := .noat "BadText" "line") rfl)
  x_BadText := excB_ok (c.own 2 (f := excB "BadText") rfl)
  s_BadText_ValueError := of_decide_eq_true (c.own 3 (f := isiTB "BadText" "ValueError" true) rfl)
  PricedError := He.ga K "PricedError"
  k_PricedError := He.glo_ok X G (c.1.fact 35 (f := .glo "PricedError") rfl)
  b_PricedError := basB_ok (c.own 4 (f := basB "PricedError") rfl)
  e_BadText_BadText := He.exm_ok (c.1.fact 36 (f := .exm "BadText" "BadText" true) rfl)
theorem factsD {P : Program} {w : World} {K : PySem.W.Frag} {h : Heap} {mg : Str → Option Value} {f : Addr} (X : K.In h) (G : h.Ns mainGlobals mg) (hfa : mg ("law" : Str) = some (.ref f)) (c : SaysK faL fnL myL K) :
    ∃ fd : FuncData, (∀ (s : Shared) (v : Value), BindsTo s fd ⟨[v], []⟩ [("script", v)]) ∧ ∀ base : Heap, K.In base → base.Ns mainGlobals mg → FnOk P w K mg base CX0 6 f fd ["script"] (spLaw K) := by
  have D_told_part : FnAt K mg "told_part" s_told_part := by
    obtain ⟨fd, F⟩ := c.1.def_ 1 (d := dd_told_part) rfl
    exact ⟨_, fd, F, He.glo_ok X G (c.1.fact 0 (f := .glo "told_part") rfl)⟩
  have D_telling : FnAt K mg "telling" s_telling := by
    obtain ⟨fd, F⟩ := c.1.def_ 2 (d := dd_telling) rfl
    exact ⟨_, fd, F, He.glo_ok X G (c.1.fact 1 (f := .glo "telling") rfl)⟩
  have D_joined_signs : FnAt K mg "joined_signs" s_joined_signs := by
    obtain ⟨fd, F⟩ := c.1.def_ 3 (d := dd_joined_signs) rfl
    exact ⟨_, fd, F, He.glo_ok X G (c.1.fact 2 (f := .glo "joined_signs") rfl)⟩
  have D_is_word : FnAt K mg "is_word" s_is_word := by
    obtain ⟨fd, F⟩ := c.1.def_ 4 (d := dd_is_word) rfl
    exact ⟨_, fd, F, He.glo_ok X G (c.1.fact 3 (f := .glo "is_word") rfl)⟩
  have D_is_number : FnAt K mg "is_number" s_is_number := by
    obtain ⟨fd, F⟩ := c.1.def_ 5 (d := dd_is_number) rfl
    exact ⟨_, fd, F, He.glo_ok X G (c.1.fact 4 (f := .glo "is_number") rfl)⟩
  have D_read_part : FnAt K mg "read_part" s_read_part := by
    obtain ⟨fd, F⟩ := c.1.def_ 6 (d := dd_read_part) rfl
    exact ⟨_, fd, F, He.glo_ok X G (c.1.fact 5 (f := .glo "read_part") rfl)⟩
  have D_parts_of : FnAt K mg "parts_of" s_parts_of := by
    obtain ⟨fd, F⟩ := c.1.def_ 7 (d := dd_parts_of) rfl
    exact ⟨_, fd, F, He.glo_ok X G (c.1.fact 6 (f := .glo "parts_of") rfl)⟩
  have D_read_telling : FnAt K mg "read_telling" s_read_telling := by
    obtain ⟨fd, F⟩ := c.1.def_ 8 (d := dd_read_telling) rfl
    exact ⟨_, fd, F, He.glo_ok X G (c.1.fact 7 (f := .glo "read_telling") rfl)⟩
  have D_law_begin : FnAt K mg "_law_begin" s_law_begin := by
    obtain ⟨fd, F⟩ := c.1.def_ 9 (d := dd_law_begin) rfl
    exact ⟨_, fd, F, He.glo_ok X G (c.1.fact 8 (f := .glo "_law_begin") rfl)⟩
  have D_law_draw : FnAt K mg "_law_draw" s_law_draw := by
    obtain ⟨fd, F⟩ := c.1.def_ 10 (d := dd_law_draw) rfl
    exact ⟨_, fd, F, He.glo_ok X G (c.1.fact 9 (f := .glo "_law_draw") rfl)⟩
  have D_law_pick : FnAt K mg "_law_pick" s_law_pick := by
    obtain ⟨fd, F⟩ := c.1.def_ 11 (d := dd_law_pick) rfl
    exact ⟨_, fd, F, He.glo_ok X G (c.1.fact 10 (f := .glo "_law_pick") rfl)⟩
  have D_law_is_part : FnAt K mg "_law_is_part" s_law_is_part := by
    obtain ⟨fd, F⟩ := c.1.def_ 12 (d := dd_law_is_part) rfl
    exact ⟨_, fd, F, He.glo_ok X G (c.1.fact 11 (f := .glo "_law_is_part") rfl)⟩
  have D_law_next : FnAt K mg "_law_next" s_law_next := by
    obtain ⟨fd, F⟩ := c.1.def_ 13 (d := dd_law_next) rfl
    exact ⟨_, fd, F, He.glo_ok X G (c.1.fact 12 (f := .glo "_law_next") rfl)⟩
  have D_law_fits : FnAt K mg "_law_fits" s_law_fits := by
    obtain ⟨fd, F⟩ := c.1.def_ 14 (d := dd_law_fits) rfl
    exact ⟨_, fd, F, He.glo_ok X G (c.1.fact 13 (f := .glo "_law_fits") rfl)⟩
  have D_law_base : FnAt K mg "_law_base" s_law_base := by
    obtain ⟨fd, F⟩ := c.1.def_ 15 (d := dd_law_base) rfl
    exact ⟨_, fd, F, He.glo_ok X G (c.1.fact 14 (f := .glo "_law_base") rfl)⟩
  have D_law_spoilt : FnAt K mg "_law_spoilt" s_law_spoilt := by
    obtain ⟨fd, F⟩ := c.1.def_ 16 (d := dd_law_spoilt) rfl
    exact ⟨_, fd, F, He.glo_ok X G (c.1.fact 15 (f := .glo "_law_spoilt") rfl)⟩
  have D_law_read : FnAt K mg "_law_read" s_law_read := by
    obtain ⟨fd, F⟩ := c.1.def_ 17 (d := dd_law_read) rfl
    exact ⟨_, fd, F, He.glo_ok X G (c.1.fact 16 (f := .glo "_law_read") rfl)⟩
  have T : Bl mg := ⟨He.free_ok X G (c.1.fact 18 (f := .free "ValueError") rfl), He.free_ok X G (c.1.fact 19 (f := .free "abs") rfl), He.free_ok X G (c.1.fact 20 (f := .free "all") rfl), He.free_ok X G (c.1.fact 21 (f := .free "int") rfl), He.free_ok X G (c.1.fact 22 (f := .free "isinstance") rfl), He.free_ok X G (c.1.fact 23 (f := .free "len") rfl), He.free_ok X G (c.1.fact 24 (f := .free "range") rfl), He.free_ok X G (c.1.fact 25 (f := .free "reversed") rfl), He.free_ok X G (c.1.fact 26 (f := .free "str") rfl), He.free_ok X G (c.1.fact 27 (f := .free "tuple") rfl), (by obtain ⟨t, h⟩ := He.str_ok X G (c.1.fact 28 (f := .str "SIGNS" "abcdefghijklmnopqrstuvwxyz") rfl); exact ⟨_, h, ⟨t, rfl⟩⟩), (by obtain ⟨t, h⟩ := He.str_ok X G (c.1.fact 29 (f := .str "DIGITS" "0123456789") rfl); exact ⟨_, h, ⟨t, rfl⟩⟩), (by obtain ⟨t, h⟩ := He.int_ok X G (c.1.fact 30 (f := .int "DEEP" 12) rfl); exact ⟨_, h, ⟨t, rfl⟩⟩), (by obtain ⟨t, h⟩ := He.int_ok X G (c.1.fact 31 (f := .int "FIGURES" 100) rfl); exact ⟨_, h, ⟨t, rfl⟩⟩), (by obtain ⟨t, h⟩ := He.str_ok X G (c.1.fact 32 (f := .str "CLOSE" ")") rfl); exact ⟨_, h, ⟨t, rfl⟩⟩)⟩
  have Z : Ev K mg := evOf X G c
  obtain ⟨fd, F⟩ := c.1.def_ 18 (d := dd_law) rfl
  have e := hfa.symm.trans (He.glo_ok X G (c.1.fact 17 (f := .glo "law") rfl))
  cases e
  have b := FunD.bindsA (ps := ["script"]) F fun _ _ _ _ _ _ us hl => match us, hl with | [_], _ => rfl
  refine ⟨fd, fun s v => b s [v] rfl, fun base _ _ => ?_⟩
  have c_begin := c_begin (P := P) (w := w) (base := base) D_law_begin T
  have c_draw := c_draw (P := P) (w := w) (base := base) D_law_draw T
  have c_pick := c_pick D_law_pick T c_draw
  have c_told := c_told_part (P := P) (w := w) (base := base) D_told_part T
  have c_joined := c_joined_signs (P := P) (w := w) (base := base) D_joined_signs T
  have c_tell := c_telling D_telling T c_told c_joined
  have c_word := c_is_word (P := P) (w := w) (base := base) D_is_word T
  have c_numb := c_is_number (P := P) (w := w) (base := base) D_is_number T
  have x_Bad := x_BadText (P := P) (w := w) (base := base) Z T
  have c_part := c_read_part D_read_part Z T x_Bad c_word c_numb
  have c_parts := c_parts_of (P := P) (w := w) (base := base) D_parts_of T
  have c_read := c_read_telling D_read_telling Z T x_Bad c_parts c_part c_tell
  have c_lpart := c_law_is_part (P := P) (w := w) (base := base) D_law_is_part T
  have c_next := c_law_next (P := P) (w := w) (base := base) D_law_next T
  have c_fits := c_law_fits D_law_fits T c_next c_lpart
  have c_base := c_law_base D_law_base T c_pick c_draw
  have c_spoilt := c_law_spoilt D_law_spoilt T c_pick c_draw
  have c_lread := c_law_read D_law_read Z T c_read
  exact ok_law F Z T c_begin c_draw c_base c_spoilt c_lread c_fits c_tell
end L2.KK
open PySem PySem.W PySem.Calls PyProof.Rows
theorem PySem.Challenge.cw_pricedrules_k81_telling_refused_holds : PySem.Challenge.rw_pricedrules_k81_telling_refused.Holds := by
  w_on; o_law
  refine HandSHeadRun.head_any (r := OpenLaw.row PySem.Challenge.rw_pricedrules_k81_telling_refused) (q := view (OpenLaw.row PySem.Challenge.rw_pricedrules_k81_telling_refused).prog [27]) (H := L2.KK.hkD) (ob := L2.KK.obD) (M := 4000) (loose := L2.KK.looseL) (d := HandSHeadRun.topDef (OpenLaw.row PySem.Challenge.rw_pricedrules_k81_telling_refused).prog 27) (kwd := []) L2.KK.obD_eq
    (by kernel_rfl) (fun s => by kernel_rfl) L2.KK.runD (by kernel_rfl) (by kernel_rfl) (by kernel_rfl) (by rfl) (by first | assumption | decide +kernel) (by decide +kernel) ⟨rfl, rfl, rfl, rfl, rfl, by decide +kernel⟩ ?hw ?hc
  case hw => w_witness2
  case hc =>
    refine L2.walk_ofE (l := PySem.Challenge.rw_pricedrules_k81_telling_refused) (n := 63) (k := 6) (x := "script") (CX := L2.CX0) rfl (by decide) (by kernel_rfl) ⟨rfl, by decide, by decide⟩ ?F (fun _ _ _ _ z => z)
    intro w mg fa h Y G hmg0
    obtain ⟨K, KX, c⟩ := Y
    have hmg : mg ("law" : PySem.Str) = some (.ref fa) := by
      have e : (HandSHeadRun.topDef (OpenLaw.row PySem.Challenge.rw_pricedrules_k81_telling_refused).prog 27).name = ("law" : PySem.Str) := by kernel_rfl
      rw [← e]
      exact hmg0
    obtain ⟨fd, hb, hF⟩ := L2.KK.factsD (P := (PySem.Challenge.rw_pricedrules_k81_telling_refused).prog) (w := w) KX G hmg c
    exact ⟨K, fd, L2.KK.spLaw K, KX, hb, fun H a ns hl _ hS => ⟨a, ns, rfl, hS, hl, fun _ => rfl⟩, hF⟩
