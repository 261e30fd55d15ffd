import PyProof.Rows.All
import Wide.All
import OpenK.AllK
import Wide.FinOn
import KE.KStateDown
import Lean
import KE.KSortKey
import HandS.ForMost
import HandS.SortInts
import HandS.SortOrd
import HandS.SortRule
import HandS.SortKw
import HandS.Codes
import KE.Datum
import KE.KEqDeep
import HandS.NamedTupSort
import HandS.Strs
import HandS.SetFor
import HandS.Zip
import HandS.Conv
import HandS.IsInst
import HandS.WideBits
import KE.OsArith
import HandS.Defaults
import HandS.Head0
import HandS.Head1
import HandS.Head2
import HandS.HeadEnd
import HandS.HeadHook1
import HandS.HeadHook2
import HandS.TupAny
import HandS.Exc
import HandS.ExcOwn
import HandS.ExcField
import HandS.ExcInit
import HandS.WordsExc
import HandS.ClsMeth
import HandS.Dict
import HandS.Walk
import HandS.Rev
import HandS.ExcIs
import HandS.DeepEq
import HandS.OwnEq
import HandS.Style
import HandS.Star
import KE.GoesRaise
import HandS.Comp
import HandS.Base
import HandS.Call
import HandS.List
import HandS.Iter
import HandS.Replace
import PyProof.ToksMono
import HandS.Text
import KE.IntTextText
import HandS.More
import PyProof.StrOps2
import PySem.Challenge.RW_pricedrules_k82_text_refused_lines
set_option Elab.async false
set_option linter.all false
set_option maxRecDepth 100000
set_option maxHeartbeats 0
/-! Masks, least masks, blockers: plain mathematics for law k76 (and k77). -/
namespace MK
/-- a lies within b -/
abbrev sub (a b : Nat) : Prop := a &&& b = a
theorem sub_iff {a b : Nat} : sub a b ↔ ∀ i, a.testBit i = true → b.testBit i = true := by
  constructor
  · intro h i hi
    have e : (a &&& b).testBit i = a.testBit i := by rw [h]
    rw [Nat.testBit_and, hi] at e
    simpa using e
  · intro h
    apply Nat.eq_of_testBit_eq
    intro i
    rw [Nat.testBit_and]
    cases q : a.testBit i with
    | false => rfl
    | true => rw [h i q]; rfl
theorem sub_refl (a : Nat) : sub a a := Nat.and_self a
theorem sub_trans {a b c : Nat} (h : sub a b) (k : sub b c) : sub a c := sub_iff.mpr fun i x => sub_iff.mp k i (sub_iff.mp h i x)
theorem sub_anti {a b : Nat} (h : sub a b) (k : sub b a) : a = b := by
  have k' : b &&& a = b := k
  rw [Nat.and_comm] at k'
  exact h.symm.trans k'
theorem sub_zero (a : Nat) : sub 0 a := Nat.zero_and a
theorem sub_le {a b : Nat} (h : sub a b) : a ≤ b := by
  have e : a &&& b ≤ b := Nat.and_le_right
  rw [h] at e
  exact e
theorem sub_lt {a b n : Nat} (h : sub a b) (k : b < n) : a < n := Nat.lt_of_le_of_lt (sub_le h) k
theorem sub_or_left (a b : Nat) : sub a (a ||| b) := sub_iff.mpr fun i h => by rw [Nat.testBit_or, h]; rfl
theorem sub_or_right (a b : Nat) : sub b (a ||| b) := sub_iff.mpr fun i h => by rw [Nat.testBit_or, h, Bool.or_true]
theorem or_sub {a b c : Nat} (h : sub a c) (k : sub b c) : sub (a ||| b) c := sub_iff.mpr fun i x => by
  rw [Nat.testBit_or, Bool.or_eq_true] at x
  rcases x with x | x
  · exact sub_iff.mp h i x
  · exact sub_iff.mp k i x
theorem bit_sub {i b : Nat} : sub (2 ^ i) b ↔ b.testBit i = true := by
  rw [sub_iff]
  constructor
  · intro h
    exact h i (by rw [Nat.testBit_two_pow]; simp)
  · intro h j hj
    rw [Nat.testBit_two_pow] at hj
    have e : i = j := of_decide_eq_true hj
    rw [← e]; exact h
theorem and_ne {a b : Nat} : a &&& b ≠ 0 ↔ ∃ i, a.testBit i = true ∧ b.testBit i = true := by
  constructor
  · intro h
    obtain ⟨i, hi⟩ := Nat.exists_testBit_of_ne_zero h
    rw [Nat.testBit_and, Bool.and_eq_true] at hi
    exact ⟨i, hi⟩
  · rintro ⟨i, h1, h2⟩ e
    have : (a &&& b).testBit i = true := by rw [Nat.testBit_and, h1, h2]; rfl
    rw [e, Nat.zero_testBit] at this
    cases this
theorem meet_mono {a b m : Nat} (h : sub a b) (k : a &&& m ≠ 0) : b &&& m ≠ 0 := by
  obtain ⟨i, h1, h2⟩ := and_ne.mp k
  exact and_ne.mpr ⟨i, sub_iff.mp h i h1, h2⟩

/-! ### how many bits -/
def pcf : Nat → Nat → Nat
  | 0, _ => 0
  | f + 1, n => n % 2 + pcf f (n / 2)
theorem pcf_eq : ∀ (f n : Nat), n ≤ f → ∀ g, n ≤ g → pcf f n = pcf g n
  | 0, n, h, g, _ => by
    have e : n = 0 := by omega
    subst e
    clear h
    induction g with
    | zero => rfl
    | succ g ih => show 0 = 0 % 2 + pcf g (0 / 2); rw [← ih (Nat.zero_le _)]; rfl
  | f + 1, n, h, g, hg => by
    cases g with
    | zero =>
      have e : n = 0 := by omega
      subst e
      have : ∀ f, pcf f 0 = 0 := fun f => by
        induction f with
        | zero => rfl
        | succ f ih => show 0 % 2 + pcf f (0 / 2) = 0; rw [Nat.zero_div, ih]
      rw [this, this]
    | succ g =>
      show n % 2 + pcf f (n / 2) = n % 2 + pcf g (n / 2)
      rw [pcf_eq f (n / 2) (by omega) g (by omega)]
/-- how many bits are set -/
def pc (n : Nat) : Nat := pcf n n
theorem pc_zero : pc 0 = 0 := rfl
theorem pc_rec (n : Nat) : pc n = n % 2 + pc (n / 2) := by
  cases n with
  | zero => rfl
  | succ n =>
    show (n + 1) % 2 + pcf n ((n + 1) / 2) = (n + 1) % 2 + pcf ((n + 1) / 2) ((n + 1) / 2)
    rw [pcf_eq n ((n + 1) / 2) (by omega) ((n + 1) / 2) (Nat.le_refl _)]
theorem sub_half {a b : Nat} (h : sub a b) : sub (a / 2) (b / 2) ∧ a % 2 ≤ b % 2 := by
  constructor
  · show a / 2 &&& b / 2 = a / 2
    rw [← Nat.and_div_two, h]
  · have k := sub_iff.mp h 0
    rw [Nat.testBit_zero, Nat.testBit_zero, decide_eq_true_eq, decide_eq_true_eq] at k
    omega
theorem pc_mono : ∀ (n a b : Nat), b ≤ n → sub a b → pc a ≤ pc b ∧ (pc a = pc b → a = b)
  | 0, a, b, hn, h => by
    have e : b = 0 := by omega
    have e2 : a = 0 := by have := sub_le h; omega
    subst e; subst e2
    exact ⟨Nat.le_refl _, fun _ => rfl⟩
  | n + 1, a, b, hn, h => by
    by_cases hb : b = 0
    · have e2 : a = 0 := by have := sub_le h; omega
      subst hb; subst e2
      exact ⟨Nat.le_refl _, fun _ => rfl⟩
    · obtain ⟨h1, h2⟩ := sub_half h
      obtain ⟨k1, k2⟩ := pc_mono n (a / 2) (b / 2) (by omega) h1
      rw [pc_rec a, pc_rec b]
      refine ⟨by omega, fun e => ?_⟩
      have e1 : pc (a / 2) = pc (b / 2) := by omega
      have := k2 e1
      omega
theorem pc_le {a b : Nat} (h : sub a b) : pc a ≤ pc b := (pc_mono b a b (Nat.le_refl _) h).1
theorem pc_inj {a b : Nat} (h : sub a b) (e : pc b ≤ pc a) : a = b := (pc_mono b a b (Nat.le_refl _) h).2 (Nat.le_antisymm (pc_le h) e)
theorem clear_low : ∀ (n k : Nat), k ≤ n → 0 < k → pc (k &&& (k - 1)) + 1 = pc k ∧ k &&& (k - 1) < k
  | 0, k, h, h0 => by omega
  | n + 1, k, h, h0 => by
    have lt : k &&& (k - 1) < k := by
      have : k &&& (k - 1) ≤ k - 1 := Nat.and_le_right
      omega
    refine ⟨?_, lt⟩
    rw [pc_rec (k &&& (k - 1)), pc_rec k, Nat.and_div_two]
    by_cases hodd : k % 2 = 1
    · have e1 : (k &&& (k - 1)) % 2 = 0 := by
        have q := @Nat.and_mod_two_eq_one k (k - 1)
        have : ¬ (k - 1) % 2 = 1 := by omega
        omega
      have e2 : (k - 1) / 2 = k / 2 := by omega
      rw [e1, e2, Nat.and_self, hodd]
      omega
    · have e1 : (k &&& (k - 1)) % 2 = 0 := by
        have q := @Nat.and_mod_two_eq_one k (k - 1)
        omega
      have e2 : (k - 1) / 2 = k / 2 - 1 := by omega
      obtain ⟨i1, _⟩ := clear_low n (k / 2) (by omega) (by omega)
      rw [e1, e2]
      omega

/-! ### least ones -/
/-- x is least among S -/
def MinOf (S : Nat → Prop) (x : Nat) : Prop := S x ∧ ∀ k, S k → sub k x → k = x
/-- known first: keep x if none that is kept lies within it -/
def greedy : List Nat → List Nat → List Nat
  | acc, [] => acc
  | acc, x :: xs => if acc.any (fun k => k &&& x == k) then greedy acc xs else greedy (acc ++ [x]) xs
theorem greedy_append : ∀ (xs ys acc : List Nat), greedy acc (xs ++ ys) = greedy (greedy acc xs) ys
  | [], _, _ => rfl
  | x :: xs, ys, acc => by
    show (if _ then _ else _) = greedy (if _ then _ else _) ys
    split <;> exact greedy_append xs ys _
theorem any_sub {acc : List Nat} {x : Nat} : acc.any (fun k => k &&& x == k) = true ↔ ∃ k ∈ acc, sub k x := by
  rw [List.any_eq_true]
  constructor
  · rintro ⟨k, h, e⟩
    exact ⟨k, h, by simpa using e⟩
  · rintro ⟨k, h, e⟩
    exact ⟨k, h, by simpa using e⟩
theorem greedy_spec : ∀ (xs acc : List Nat), (acc ++ xs).Pairwise (fun a b => pc a ≤ pc b) → acc.Pairwise (fun a b => ¬ sub a b) →
    (∀ x ∈ greedy acc xs, x ∈ acc ++ xs) ∧ (∀ x ∈ acc ++ xs, ∃ k ∈ greedy acc xs, sub k x) ∧ (greedy acc xs).Pairwise (fun a b => ¬ sub a b) ∧ (greedy acc xs).Pairwise (fun a b => pc a ≤ pc b)
  | [], acc, h, h2 => by
    rw [List.append_nil] at h ⊢
    exact ⟨fun x hx => hx, fun x hx => ⟨x, hx, sub_refl x⟩, h2, h⟩
  | x :: xs, acc, h, h2 => by
    unfold greedy
    split
    · rename_i hs
      obtain ⟨k, hk, hkx⟩ := any_sub.mp hs
      have h' : (acc ++ xs).Pairwise (fun a b => pc a ≤ pc b) := h.sublist (List.Sublist.append (List.Sublist.refl _) (List.sublist_cons_self _ _))
      obtain ⟨a1, a2, a3, a4⟩ := greedy_spec xs acc h' h2
      refine ⟨fun y hy => ?_, fun y hy => ?_, a3, a4⟩
      · rcases List.mem_append.mp (a1 y hy) with z | z
        · exact List.mem_append_left _ z
        · exact List.mem_append_right _ (List.mem_cons_of_mem _ z)
      · rcases List.mem_append.mp hy with z | z
        · exact a2 y (List.mem_append_left _ z)
        · rcases List.mem_cons.mp z with z | z
          · subst z
            obtain ⟨k', hk', hs'⟩ := a2 k (List.mem_append_left _ hk)
            exact ⟨k', hk', sub_trans hs' hkx⟩
          · exact a2 y (List.mem_append_right _ z)
    · rename_i hs
      have no : ∀ k ∈ acc, ¬ sub k x := fun k hk hkx => hs (any_sub.mpr ⟨k, hk, hkx⟩)
      have e : acc ++ [x] ++ xs = acc ++ x :: xs := by simp
      have h2' : (acc ++ [x]).Pairwise (fun a b => ¬ sub a b) := by
        rw [List.pairwise_append]
        refine ⟨h2, List.pairwise_singleton _ _, fun a ha b hb => ?_⟩
        rw [List.mem_singleton.mp hb]
        exact no a ha
      obtain ⟨a1, a2, a3, a4⟩ := greedy_spec xs (acc ++ [x]) (by rw [e]; exact h) h2'
      rw [e] at a1 a2
      exact ⟨a1, a2, a3, a4⟩
/-- G holds just the least ones of S, smaller ones first, each once -/
structure Least (G : List Nat) (S : Nat → Prop) : Prop where
  nd : G.Nodup
  mem : ∀ x, x ∈ G ↔ MinOf S x
  up : G.Pairwise (fun a b => pc a ≤ pc b)
theorem pairwise_both {R : Nat → Nat → Prop} : ∀ {l : List Nat}, l.Pairwise R → ∀ {i j : Nat} {a b : Nat}, l[i]? = some a → l[j]? = some b → i < j → R a b := by
  intro l h i j a b ha hb hij
  obtain ⟨hi, e1⟩ := List.getElem?_eq_some_iff.mp ha
  obtain ⟨hj, e2⟩ := List.getElem?_eq_some_iff.mp hb
  rw [← e1, ← e2]
  exact List.pairwise_iff_getElem.mp h i j hi hj hij
theorem greedy_least {L : List Nat} (h : L.Pairwise (fun a b => pc a ≤ pc b)) : Least (greedy [] L) (· ∈ L) := by
  obtain ⟨a1, a2, a3, a4⟩ := greedy_spec L [] h List.Pairwise.nil
  have anti : ∀ a ∈ greedy [] L, ∀ b ∈ greedy [] L, sub a b → a = b := fun a ha b hb hs => by
    obtain ⟨i, hi⟩ := List.getElem?_of_mem ha
    obtain ⟨j, hj⟩ := List.getElem?_of_mem hb
    rcases Nat.lt_trichotomy i j with z | z | z
    · exact absurd hs (pairwise_both a3 hi hj z)
    · subst z
      rw [hi] at hj
      exact Option.some.inj hj
    · have := pairwise_both a4 hj hi z
      exact pc_inj hs this
  refine ⟨a3.imp fun {a b} (h : ¬ sub a b) (e : a = b) => h (by rw [e]; exact sub_refl b), fun x => ⟨fun hx => ⟨a1 x hx, fun k hk hs => ?_⟩, fun hx => ?_⟩, a4⟩
  · obtain ⟨k', hk', hs'⟩ := a2 k hk
    have e := anti k' hk' x hx (sub_trans hs' hs)
    subst e
    exact sub_anti hs hs'
  · obtain ⟨k', hk', hs'⟩ := a2 x hx.1
    rw [← hx.2 k' (a1 k' hk') hs']
    exact hk'
theorem Least.perm {G G' : List Nat} {S S' : Nat → Prop} (a : Least G S) (b : Least G' S') (h : ∀ x, MinOf S x ↔ MinOf S' x) : G.Perm G' :=
  (List.perm_ext_iff_of_nodup a.nd b.nd).mpr fun x => by rw [a.mem, b.mem, h]
theorem MinOf.congr {S S' : Nat → Prop} (h : ∀ x, S x ↔ S' x) (x : Nat) : MinOf S x ↔ MinOf S' x := by
  unfold MinOf
  rw [h x]
  exact and_congr_right fun _ => ⟨fun f k hk => f k ((h k).mpr hk), fun f k hk => f k ((h k).mp hk)⟩
/-- A among B, and each of B holds one of A: the least ones are the same -/
theorem MinOf.dense {A B : Nat → Prop} (h : ∀ x, A x → B x) (k : ∀ x, B x → ∃ y, A y ∧ sub y x) (x : Nat) : MinOf A x ↔ MinOf B x := by
  constructor
  · rintro ⟨ax, hx⟩
    refine ⟨h x ax, fun y hy hs => ?_⟩
    obtain ⟨z, az, hz⟩ := k y hy
    have e := hx z az (sub_trans hz hs)
    subst e
    exact sub_anti hs hz
  · rintro ⟨bx, hx⟩
    obtain ⟨z, az, hz⟩ := k x bx
    have e := hx z (h z az) hz
    subst e
    exact ⟨az, fun y hy hs => hx y (h y hy) hs⟩
/-- each holds a least one -/
theorem exists_min {S : Nat → Prop} : ∀ (n x : Nat), x ≤ n → S x → ∃ y, MinOf S y ∧ sub y x
  | n, x, hn, hx => by
    by_cases h : ∃ k, S k ∧ sub k x ∧ k ≠ x
    · obtain ⟨k, hk, hs, ne⟩ := h
      have lt : k < x := by
        have := sub_le hs
        omega
      cases n with
      | zero => omega
      | succ n =>
        obtain ⟨y, hy, hys⟩ := exists_min n k (by omega) hk
        exact ⟨y, hy, sub_trans hys hs⟩
    · refine ⟨x, ⟨hx, fun k hk hs => ?_⟩, sub_refl x⟩
      exact Classical.byContradiction fun ne => h ⟨k, hk, hs, ne⟩
theorem min_min {S : Nat → Prop} (x : Nat) : MinOf (MinOf S) x ↔ MinOf S x := MinOf.dense (fun _ h => h.1) (fun x hx => exists_min x x (Nat.le_refl _) hx) x

/-! ### meeting -/
/-- t meets each of ms, over many numbers -/
def Tr (ms : List Nat) (many : Nat) (t : Nat) : Prop := t < 2 ^ many ∧ ∀ m ∈ ms, t &&& m ≠ 0
def bitsOf (m many : Nat) : List Nat := (List.range many).filter fun i => m.testBit i
theorem mem_bitsOf {m many i : Nat} : i ∈ bitsOf m many ↔ i < many ∧ m.testBit i = true := by
  unfold bitsOf
  rw [List.mem_filter, List.mem_range]
/-- one step: what a known one grows into -/
def grow1 (m many k : Nat) : List Nat := if k &&& m ≠ 0 then [k] else (bitsOf m many).map fun i => k ||| 2 ^ i
def grow (m many : Nat) (found : List Nat) : List Nat := found.flatMap (grow1 m many)
theorem grow_append (m many : Nat) (xs ys : List Nat) : grow m many (xs ++ ys) = grow m many xs ++ grow m many ys := by
  unfold grow
  rw [List.flatMap_append]
theorem bit_of_lt {n many i : Nat} (h : n < 2 ^ many) (k : n.testBit i = true) : i < many := by
  cases Nat.lt_or_ge i many with
  | inl q => exact q
  | inr q =>
    rw [Nat.testBit_lt_two_pow (Nat.lt_of_lt_of_le h (Nat.pow_le_pow_right (by decide) q))] at k
    cases k
theorem grow_min {ms : List Nat} {many m : Nat} {found : List Nat} (hf : ∀ x, x ∈ found ↔ MinOf (Tr ms many) x) (x : Nat) :
    MinOf (· ∈ grow m many found) x ↔ MinOf (Tr (ms ++ [m]) many) x := by
  refine MinOf.dense (fun y hy => ?_) (fun t ht => ?_) x
  · obtain ⟨k, hk, hy⟩ := List.mem_flatMap.mp hy
    have hk' := (hf k).mp hk
    unfold grow1 at hy
    split at hy
    · rename_i hm
      rw [List.mem_singleton] at hy
      subst hy
      refine ⟨hk'.1.1, fun z hz => ?_⟩
      rcases List.mem_append.mp hz with hz | hz
      · exact hk'.1.2 z hz
      · rw [List.mem_singleton.mp hz]
        exact hm
    · obtain ⟨i, hi, rfl⟩ := List.mem_map.mp hy
      obtain ⟨h1, h2⟩ := mem_bitsOf.mp hi
      refine ⟨Nat.or_lt_two_pow hk'.1.1 (Nat.pow_lt_pow_right (by decide) h1), fun z hz => ?_⟩
      rcases List.mem_append.mp hz with hz | hz
      · exact meet_mono (sub_or_left _ _) (hk'.1.2 z hz)
      · rw [List.mem_singleton.mp hz]
        refine and_ne.mpr ⟨i, ?_, h2⟩
        rw [Nat.testBit_or, Nat.testBit_two_pow]
        simp
  · have ht' : Tr ms many t := ⟨ht.1, fun z hz => ht.2 z (List.mem_append_left _ hz)⟩
    obtain ⟨k, hk, hs⟩ := exists_min t t (Nat.le_refl _) ht'
    have hkf := (hf k).mpr hk
    by_cases hm : k &&& m ≠ 0
    · refine ⟨k, List.mem_flatMap.mpr ⟨k, hkf, ?_⟩, hs⟩
      unfold grow1
      rw [if_pos hm]
      exact List.mem_singleton.mpr rfl
    · obtain ⟨i, h1, h2⟩ := and_ne.mp (ht.2 m (List.mem_append_right _ (List.mem_singleton.mpr rfl)))
      refine ⟨k ||| 2 ^ i, List.mem_flatMap.mpr ⟨k, hkf, ?_⟩, or_sub hs (bit_sub.mpr h1)⟩
      unfold grow1
      rw [if_neg hm]
      exact List.mem_map.mpr ⟨i, mem_bitsOf.mpr ⟨bit_of_lt ht.1 h1, h2⟩, rfl⟩
theorem tr_nil (many x : Nat) : x ∈ [0] ↔ MinOf (Tr [] many) x := by
  rw [List.mem_singleton]
  constructor
  · rintro rfl
    exact ⟨⟨Nat.pow_pos (by decide), fun _ h => nomatch h⟩, fun k _ hs => by have := sub_le hs; omega⟩
  · intro h
    exact (h.2 0 ⟨Nat.pow_pos (by decide), fun _ h => nomatch h⟩ (sub_zero x)).symm
/-- the blocker of the blocker -/
theorem tr_tr {ms bs : List Nat} {many : Nat} (hm : ∀ m ∈ ms, m < 2 ^ many) (hb : ∀ x, x ∈ bs ↔ MinOf (Tr ms many) x) (x : Nat) : MinOf (Tr bs many) x ↔ MinOf (· ∈ ms) x := by
  refine (MinOf.dense (A := (· ∈ ms)) (B := Tr bs many) (fun m h => ⟨hm m h, fun b hb' => ?_⟩) (fun t ht => ?_) x).symm
  · have := ((hb b).mp hb').1.2 m h
    rw [Nat.and_comm]
    exact this
  · refine Classical.byContradiction fun no => ?_
    -- the complement of t meets each of ms
    have tr : Tr ms many ((2 ^ many - 1) ^^^ t) := by
      refine ⟨Nat.xor_lt_two_pow (by have := Nat.pow_pos (n := many) (show 0 < 2 by decide); omega) ht.1, fun m h => ?_⟩
      have : ¬ sub m t := fun hs => no ⟨m, h, hs⟩
      rw [sub_iff] at this
      obtain ⟨i, hi⟩ := Classical.not_forall.mp this
      obtain ⟨h1, h2⟩ := Classical.not_imp.mp hi
      refine and_ne.mpr ⟨i, ?_, h1⟩
      rw [Nat.testBit_xor, Nat.testBit_two_pow_sub_one, decide_eq_true (bit_of_lt (hm m h) h1)]
      simpa using h2
    obtain ⟨y, hy, hs⟩ := exists_min _ _ (Nat.le_refl _) tr
    obtain ⟨i, h1, h2⟩ := and_ne.mp (ht.2 y ((hb y).mpr hy))
    have h3 := sub_iff.mp hs i h2
    rw [Nat.testBit_xor, h1] at h3
    rw [Nat.testBit_two_pow_sub_one, decide_eq_true (bit_of_lt ht.1 h1)] at h3
    cases h3

/-! ### how many masks lie within one -/
def subs : Nat → Nat → List Nat
  | 0, _ => [0]
  | f + 1, n => if n % 2 = 1 then (subs f (n / 2)).flatMap fun x => [2 * x, 2 * x + 1] else (subs f (n / 2)).map fun x => 2 * x
theorem flat2_len (l : List Nat) : (l.flatMap fun x => [2 * x, 2 * x + 1]).length = 2 * l.length := by
  induction l with
  | nil => rfl
  | cons a l ih => rw [List.flatMap_cons, List.length_append, ih, List.length_cons]; simp only [List.length_cons, List.length_nil]; omega
theorem subs_len : ∀ (f n : Nat), (subs f n).length = 2 ^ pcf f n
  | 0, _ => rfl
  | f + 1, n => by
    unfold subs
    show _ = 2 ^ (n % 2 + pcf f (n / 2))
    split
    · rename_i h
      rw [flat2_len, subs_len f, h, Nat.pow_add]
    · rename_i h
      have e : n % 2 = 0 := by omega
      rw [List.length_map, subs_len f, e, Nat.zero_add]
theorem mem_subs : ∀ (f n x : Nat), n ≤ f → sub x n → x ∈ subs f n
  | 0, n, x, h, hs => by
    have e : x = 0 := by have := sub_le hs; omega
    subst e
    exact List.mem_singleton.mpr rfl
  | f + 1, n, x, h, hs => by
    obtain ⟨h1, h2⟩ := sub_half hs
    have ih := mem_subs f (n / 2) (x / 2) (by omega) h1
    unfold subs
    split
    · refine List.mem_flatMap.mpr ⟨x / 2, ih, ?_⟩
      have : x % 2 = 0 ∨ x % 2 = 1 := by omega
      rcases this with e | e
      · have : x = 2 * (x / 2) := by omega
        rw [this]
        simp
      · have : x = 2 * (x / 2) + 1 := by omega
        rw [this]
        simp
        omega
    · exact List.mem_map.mpr ⟨x / 2, ih, by omega⟩
theorem within_len {l : List Nat} {U : Nat} (h : l.Nodup) (k : ∀ x ∈ l, sub x U) : l.length ≤ 2 ^ pc U := by
  have := h.length_le_of_subset (l₂ := subs U U) fun x hx => mem_subs U U x (Nat.le_refl _) (k x hx)
  rw [subs_len] at this
  exact this
theorem min_within {ms : List Nat} {U many : Nat} (h : ∀ m ∈ ms, sub m U) (hU : U < 2 ^ many) {x : Nat} (hx : MinOf (Tr ms many) x) : sub x U := by
  have tr : Tr ms many (x &&& U) := by
    refine ⟨Nat.lt_of_le_of_lt Nat.and_le_right hU, fun m hm => ?_⟩
    obtain ⟨i, h1, h2⟩ := and_ne.mp (hx.1.2 m hm)
    refine and_ne.mpr ⟨i, ?_, h2⟩
    rw [Nat.testBit_and, h1, sub_iff.mp (h m hm) i h2]
    rfl
  have e := hx.2 (x &&& U) tr (sub_iff.mpr fun i hi => by
    rw [Nat.testBit_and, Bool.and_eq_true] at hi
    exact hi.1)
  exact e
theorem grow1_len (m many k : Nat) : (grow1 m many k).length ≤ many + 1 := by
  unfold grow1
  split
  · show 1 ≤ many + 1
    omega
  · rw [List.length_map]
    unfold bitsOf
    have := List.length_filter_le (fun i => m.testBit i) (List.range many)
    rw [List.length_range] at this
    omega
theorem grow_len (m many : Nat) : ∀ found : List Nat, (grow m many found).length ≤ found.length * (many + 1)
  | [] => by
    show 0 ≤ _
    omega
  | k :: l => by
    show (grow1 m many k ++ grow m many l).length ≤ (l.length + 1) * (many + 1)
    rw [List.length_append, Nat.succ_mul]
    have h1 := grow1_len m many k
    have h2 := grow_len m many l
    omega

/-! ### groups that have no number in common -/
theorem half_or_pow (k i : Nat) : (k ||| 2 ^ (i + 1)) / 2 = k / 2 ||| 2 ^ i ∧ (k ||| 2 ^ (i + 1)) % 2 = k % 2 := by
  constructor
  · apply Nat.eq_of_testBit_eq
    intro j
    rw [← Nat.testBit_add_one, Nat.testBit_or, Nat.testBit_or, Nat.testBit_two_pow, Nat.testBit_two_pow, ← Nat.testBit_add_one]
    congr 1
    simp
  · have e : (k ||| 2 ^ (i + 1)).testBit 0 = k.testBit 0 := by
      rw [Nat.testBit_or, Nat.testBit_two_pow]
      simp
    rw [Nat.testBit_zero, Nat.testBit_zero] at e
    have : (k ||| 2 ^ (i + 1)) % 2 = 1 ↔ k % 2 = 1 := by
      rw [← decide_eq_true_eq (p := (k ||| 2 ^ (i + 1)) % 2 = 1), e, decide_eq_true_eq]
    omega
theorem half_or_one (k : Nat) : (k ||| 2 ^ 0) / 2 = k / 2 ∧ (k ||| 2 ^ 0) % 2 = 1 := by
  constructor
  · apply Nat.eq_of_testBit_eq
    intro j
    rw [← Nat.testBit_add_one, Nat.testBit_or, Nat.testBit_two_pow, ← Nat.testBit_add_one]
    simp
  · have e : (k ||| 2 ^ 0).testBit 0 = true := by
      rw [Nat.testBit_or, Nat.testBit_two_pow]
      simp
    rw [Nat.testBit_zero] at e
    exact of_decide_eq_true e
theorem pc_set : ∀ (i k : Nat), k.testBit i = false → pc (k ||| 2 ^ i) = pc k + 1
  | 0, k, h => by
    obtain ⟨e1, e2⟩ := half_or_one k
    rw [Nat.testBit_zero] at h
    have h' := of_decide_eq_false h
    rw [pc_rec (k ||| 2 ^ 0), e1, e2, pc_rec k]
    omega
  | i + 1, k, h => by
    obtain ⟨e1, e2⟩ := half_or_pow k i
    rw [Nat.testBit_add_one] at h
    rw [pc_rec (k ||| 2 ^ (i + 1)), e1, e2, pc_set i (k / 2) h, pc_rec k]
    omega
theorem pc_or_pow (i k : Nat) : pc (k ||| 2 ^ i) ≤ pc k + 1 := by
  cases h : k.testBit i with
  | false => rw [pc_set i k h]; exact Nat.le_refl _
  | true =>
    have e : k ||| 2 ^ i = k := by
      apply Nat.eq_of_testBit_eq
      intro j
      rw [Nat.testBit_or, Nat.testBit_two_pow]
      by_cases hj : i = j
      · subst hj; rw [h]; rfl
      · rw [decide_eq_false hj, Bool.or_false]
    rw [e]
    omega
/-- the mask of numbers -/
def maskOf (g : List Nat) : Nat := g.foldl (fun m i => m ||| 2 ^ i) 0
theorem foldl_or_bit : ∀ (g : List Nat) (m i : Nat), (g.foldl (fun m i => m ||| 2 ^ i) m).testBit i = (m.testBit i || decide (i ∈ g))
  | [], m, i => by simp
  | a :: g, m, i => by
    rw [List.foldl_cons, foldl_or_bit g, Nat.testBit_or, Nat.testBit_two_pow, Bool.or_assoc]
    congr 1
    rw [← Bool.decide_or]
    apply decide_eq_decide.mpr
    rw [List.mem_cons, eq_comm]
theorem maskOf_bit (g : List Nat) (i : Nat) : (maskOf g).testBit i = decide (i ∈ g) := by
  unfold maskOf
  rw [foldl_or_bit, Nat.zero_testBit, Bool.false_or]
theorem foldl_pc : ∀ (g : List Nat) (m : Nat), pc (g.foldl (fun m i => m ||| 2 ^ i) m) ≤ pc m + g.length
  | [], m => Nat.le_refl _
  | a :: g, m => by
    rw [List.foldl_cons, List.length_cons]
    have h1 := foldl_pc g (m ||| 2 ^ a)
    have h2 := pc_or_pow a m
    omega
theorem maskOf_pc (g : List Nat) : pc (maskOf g) ≤ g.length := by
  have := foldl_pc g 0
  rw [pc_zero] at this
  unfold maskOf
  omega
theorem foldl_or_lt : ∀ (g : List Nat) (m n : Nat), m < 2 ^ n → (∀ i ∈ g, i < n) → g.foldl (fun m i => m ||| 2 ^ i) m < 2 ^ n
  | [], m, n, h, _ => h
  | a :: g, m, n, h, k => foldl_or_lt g _ n (Nat.or_lt_two_pow h (Nat.pow_lt_pow_right (by decide) (k a List.mem_cons_self))) fun i hi => k i (List.mem_cons_of_mem _ hi)
theorem maskOf_lt {g : List Nat} {n : Nat} (h : ∀ i ∈ g, i < n) : maskOf g < 2 ^ n := foldl_or_lt g 0 n (Nat.pow_pos (by decide)) h
theorem or_add : ∀ (a b n : Nat), a ≤ n → a &&& b = 0 → a ||| b = a + b
  | a, b, 0, h, _ => by
    have e : a = 0 := by omega
    subst e
    rw [Nat.zero_or, Nat.zero_add]
  | a, b, n + 1, h, e => by
    by_cases h0 : a = 0
    · subst h0
      rw [Nat.zero_or, Nat.zero_add]
    have e1 : a / 2 &&& b / 2 = 0 := by rw [← Nat.and_div_two, e]
    have ih := or_add (a / 2) (b / 2) n (by omega) e1
    have e2 : (a ||| b) / 2 = a / 2 ||| b / 2 := by
      apply Nat.eq_of_testBit_eq
      intro j
      rw [← Nat.testBit_add_one, Nat.testBit_or, Nat.testBit_or, Nat.testBit_add_one, Nat.testBit_add_one]
    have e3 : ¬ (a % 2 = 1 ∧ b % 2 = 1) := fun z => by
      have := Nat.and_mod_two_eq_one.mpr z
      omega
    have e4 : (a ||| b).testBit 0 = (a.testBit 0 || b.testBit 0) := Nat.testBit_or a b 0
    rw [Nat.testBit_zero, Nat.testBit_zero, Nat.testBit_zero, ← Bool.decide_or, decide_eq_decide] at e4
    omega
theorem or_and_xor (a b : Nat) : a ||| b = (a ^^^ b) + (a &&& b) := by
  rw [← or_add (a ^^^ b) (a &&& b) _ (Nat.le_refl _)]
  · apply Nat.eq_of_testBit_eq
    intro i
    rw [Nat.testBit_or, Nat.testBit_or, Nat.testBit_xor, Nat.testBit_and]
    cases a.testBit i <;> cases b.testBit i <;> rfl
  · apply Nat.eq_of_testBit_eq
    intro i
    rw [Nat.testBit_and, Nat.testBit_xor, Nat.testBit_and, Nat.zero_testBit]
    cases a.testBit i <;> cases b.testBit i <;> rfl
theorem or_disj {a b : Nat} (h : ∀ i, a.testBit i = true → b.testBit i = true → False) : a ||| b = a + b := by
  have e : a &&& b = 0 := Classical.byContradiction fun ne => by
    obtain ⟨i, h1, h2⟩ := and_ne.mp ne
    exact h i h1 h2
  exact or_add a b a (Nat.le_refl _) e
theorem foldl_or_sum : ∀ (g : List Nat) (m : Nat), g.Nodup → (∀ i ∈ g, m.testBit i = false) → g.foldl (fun m i => m ||| 2 ^ i) m = m + (g.map (2 ^ ·)).sum
  | [], m, _, _ => by simp
  | a :: g, m, hn, h => by
    obtain ⟨h1, h2⟩ := List.nodup_cons.mp hn
    have e : m ||| 2 ^ a = m + 2 ^ a := or_disj fun i x y => by
      rw [Nat.testBit_two_pow] at y
      have := of_decide_eq_true y
      subst this
      rw [h a List.mem_cons_self] at x
      cases x
    rw [List.foldl_cons, foldl_or_sum g _ h2 (fun i hi => ?_), e, List.map_cons, List.sum_cons]
    · omega
    · rw [Nat.testBit_or, h i (List.mem_cons_of_mem _ hi), Nat.testBit_two_pow, Bool.false_or, decide_eq_false]
      rintro rfl
      exact h1 hi
theorem maskOf_sum {g : List Nat} (h : g.Nodup) : (g.map (2 ^ ·)).sum = maskOf g := by
  unfold maskOf
  rw [foldl_or_sum g 0 h fun i _ => Nat.zero_testBit i]
  omega
/-- one of each group -/
def due1 (due g : List Nat) : List Nat := due.flatMap fun m => g.map fun i => m ||| 2 ^ i
def dueOf (gs : List (List Nat)) : List Nat := gs.foldl due1 [0]
structure Due (gs : List (List Nat)) (n many : Nat) (due : List Nat) : Prop where
  nd : due.Nodup
  pcs : ∀ x ∈ due, pc x = n
  inn : ∀ x ∈ due, ∀ i, x.testBit i = true → i ∈ gs.flatten
  mem : ∀ x, x ∈ due ↔ MinOf (Tr (gs.map maskOf) many) x
theorem due_step {gs : List (List Nat)} {n many : Nat} {due g : List Nat} (D : Due gs n many due) (hg : g.Nodup) (hd : ∀ i ∈ g, i ∉ gs.flatten) (hl : ∀ i ∈ g, i < many) : Due (gs ++ [g]) (n + 1) many (due1 due g) := by
  have off : ∀ x ∈ due, ∀ i ∈ g, x.testBit i = false := fun x hx i hi => by
    cases h : x.testBit i with
    | false => rfl
    | true => exact absurd (D.inn x hx i h) (hd i hi)
  have pcs : ∀ x ∈ due1 due g, pc x = n + 1 := fun x hx => by
    obtain ⟨k, hk, hx⟩ := List.mem_flatMap.mp hx
    obtain ⟨i, hi, rfl⟩ := List.mem_map.mp hx
    rw [pc_set i k (off k hk i hi), D.pcs k hk]
  refine ⟨?_, pcs, fun x hx i hb => ?_, fun x => ?_⟩
  · show (due.flatMap _).Pairwise _
    rw [List.pairwise_flatMap]
    refine ⟨fun k hk => ?_, D.nd.imp_of_mem fun {a b} ha hb ne x hx y hy e => ?_⟩
    · rw [List.pairwise_map]
      refine hg.imp_of_mem fun {i j} hi hj ne e => ?_
      have h1 : (k ||| 2 ^ i).testBit i = true := by rw [Nat.testBit_or, Nat.testBit_two_pow]; simp
      rw [e, Nat.testBit_or, off k hk i hi, Bool.false_or, Nat.testBit_two_pow] at h1
      exact ne (of_decide_eq_true h1).symm
    · obtain ⟨i, hi, rfl⟩ := List.mem_map.mp hx
      obtain ⟨j, hj, rfl⟩ := List.mem_map.mp hy
      apply ne
      apply Nat.eq_of_testBit_eq
      intro l
      by_cases hl : l ∈ g
      · rw [off a ha l hl, off b hb l hl]
      · have h1 : (a ||| 2 ^ i).testBit l = (b ||| 2 ^ j).testBit l := by rw [e]
        rw [Nat.testBit_or, Nat.testBit_or, Nat.testBit_two_pow, Nat.testBit_two_pow, decide_eq_false (fun (z : i = l) => hl (z ▸ hi)), decide_eq_false (fun (z : j = l) => hl (z ▸ hj)), Bool.or_false, Bool.or_false] at h1
        exact h1
  · obtain ⟨k, hk, hx⟩ := List.mem_flatMap.mp hx
    obtain ⟨j, hj, rfl⟩ := List.mem_map.mp hx
    rw [Nat.testBit_or, Bool.or_eq_true, Nat.testBit_two_pow, decide_eq_true_eq] at hb
    rw [List.flatten_append, List.mem_append]
    rcases hb with hb | hb
    · exact .inl (D.inn k hk i hb)
    · subst hb
      exact .inr (by simpa using hj)
  · have key : ∀ y, y ∈ due1 due g ↔ y ∈ grow (maskOf g) many due := fun y => by
      unfold due1 grow
      rw [List.mem_flatMap, List.mem_flatMap]
      refine exists_congr fun k => and_congr_right fun hk => ?_
      unfold grow1
      have z : k &&& maskOf g = 0 := Classical.byContradiction fun ne => by
        obtain ⟨i, h1, h2⟩ := and_ne.mp ne
        rw [maskOf_bit, decide_eq_true_eq] at h2
        rw [off k hk i h2] at h1
        cases h1
      rw [if_neg (fun ne => ne z), List.mem_map, List.mem_map]
      refine exists_congr fun i => and_congr_left fun _ => ?_
      rw [mem_bitsOf, maskOf_bit, decide_eq_true_eq]
      exact ⟨fun h => ⟨hl i h, h⟩, fun h => h.2⟩
    rw [List.map_append]
    have := grow_min (m := maskOf g) D.mem x
    rw [List.map_singleton, ← this, ← MinOf.congr key x]
    constructor
    · intro hx
      exact ⟨hx, fun k hk hs => pc_inj hs (by rw [pcs k hk, pcs x hx]; exact Nat.le_refl _)⟩
    · exact fun h => h.1
theorem due_nil (many : Nat) : Due [] 0 many [0] := by
  refine ⟨List.pairwise_singleton _ _, fun x hx => ?_, fun x hx i hi => ?_, fun x => tr_nil many x⟩
  · rw [List.mem_singleton.mp hx]; rfl
  · rw [List.mem_singleton.mp hx, Nat.zero_testBit] at hi
    cases hi
/-- the masks of the groups are apart -/
theorem mask_anti {gs : List (List Nat)} (hn : gs.flatten.Nodup) (h0 : ∀ g ∈ gs, g ≠ []) : (gs.map maskOf).Nodup ∧ ∀ x, MinOf (· ∈ gs.map maskOf) x ↔ x ∈ gs.map maskOf := by
  have fl : ∀ gs : List (List Nat), gs.flatten.Nodup → (∀ g ∈ gs, g ≠ []) → gs.Pairwise (fun a b => ∀ i, i ∈ a → i ∉ b) := by
    intro gs
    induction gs with
    | nil => intro _ _; exact List.Pairwise.nil
    | cons g gs ih =>
      intro h h0
      rw [List.flatten_cons] at h
      obtain ⟨h1, h2, h3⟩ := List.nodup_append.mp h
      refine List.pairwise_cons.mpr ⟨fun b hb i hi hib => ?_, ih h2 fun x hx => h0 x (List.mem_cons_of_mem _ hx)⟩
      exact h3 i hi i (List.mem_flatten.mpr ⟨b, hb, hib⟩) rfl
  have pw := fl gs hn h0
  have sub_no : ∀ a b : List Nat, a ≠ [] → (∀ i, i ∈ a → i ∉ b) → ¬ sub (maskOf a) (maskOf b) := fun a b ha hab hs => by
    obtain ⟨i, hi⟩ := List.exists_mem_of_ne_nil a ha
    have h1 := sub_iff.mp hs i (by rw [maskOf_bit, decide_eq_true_eq]; exact hi)
    rw [maskOf_bit, decide_eq_true_eq] at h1
    exact hab i hi h1
  constructor
  · show (gs.map maskOf).Pairwise _
    rw [List.pairwise_map]
    refine pw.imp_of_mem fun {a b} ha hb hab e => sub_no a b (h0 a ha) hab ?_
    rw [e]
    exact sub_refl _
  · intro x
    refine ⟨fun h => h.1, fun h => ⟨h, fun k hk hs => ?_⟩⟩
    obtain ⟨b, hb, rfl⟩ := List.mem_map.mp h
    obtain ⟨a, ha, rfl⟩ := List.mem_map.mp hk
    obtain ⟨i, hi⟩ := List.getElem?_of_mem ha
    obtain ⟨j, hj⟩ := List.getElem?_of_mem hb
    have at_ : ∀ {i j : Nat} {a b : List Nat}, gs[i]? = some a → gs[j]? = some b → i < j → ∀ l, l ∈ a → l ∉ b := fun {i j a b} hi hj hij => by
      obtain ⟨hi', e1⟩ := List.getElem?_eq_some_iff.mp hi
      obtain ⟨hj', e2⟩ := List.getElem?_eq_some_iff.mp hj
      rw [← e1, ← e2]
      exact List.pairwise_iff_getElem.mp pw i j hi' hj' hij
    rcases Nat.lt_trichotomy i j with z | z | z
    · exact absurd hs (sub_no a b (h0 a ha) (at_ hi hj z))
    · subst z
      rw [hi] at hj
      rw [Option.some.inj hj]
    · exact absurd hs (sub_no a b (h0 a ha) fun l hl hlb => at_ hj hi z l hlb hl)
/-- supersets of masks that stand there add nothing -/
theorem tr_more {ms more : List Nat} {many : Nat} (h : ∀ m ∈ more, ∃ k ∈ ms, sub k m) (t : Nat) : Tr (ms ++ more) many t ↔ Tr ms many t := by
  constructor
  · exact fun a => ⟨a.1, fun m hm => a.2 m (List.mem_append_left _ hm)⟩
  · refine fun a => ⟨a.1, fun m hm => ?_⟩
    rcases List.mem_append.mp hm with hm | hm
    · exact a.2 m hm
    · obtain ⟨k, hk, hs⟩ := h m hm
      rw [Nat.and_comm]
      refine meet_mono hs ?_
      rw [Nat.and_comm]
      exact a.2 k hk
theorem tr_perm {ms ns : List Nat} {many : Nat} (h : ∀ x, x ∈ ms ↔ x ∈ ns) (t : Nat) : Tr ms many t ↔ Tr ns many t := by
  unfold Tr
  refine and_congr_right fun _ => ⟨fun f m hm => f m ((h m).mpr hm), fun f m hm => f m ((h m).mp hm)⟩
end MK
/-! KBase: rules of our own beside the hand layer: sorted by a def as key, the items of a list op=. -/
namespace L2.KK
open PySem PySem.Spec PyProof.Rows
section
variable {X : Cx} {pins : List (Addr × Obj)} {σ : St} {H H' : Hp} {s : Shared} {h' : Heap} {a : Addr} {o : HO}
/-- an object of ours that nobody tracked is changed and tracked from now on -/
theorem adopt {t' : Nat} (I : Inv X pins σ H s) (f : FpOk X pins H a) (k : ∀ b u, b ≠ a → s.heap.get? b = some u → h'.get? b = some u) (new : ObjOk X.prog X.w (upd H a o) h' a o) :
    Inv X pins σ (upd H a o) { s with heap := h', toks := t' } := by
  obtain ⟨f0, f1, f2, f3, f4, f5⟩ := f
  have nb : ∀ b u, H b = some u → b ≠ a := fun b u e => ne_of_none e f0
  refine I.step (g' := s.gens) (d' := s.drawn) (ch := [a]) (fun b hb => ?_) (fun b u _ _ hc e _ => k b u (fun z => hc (by rw [z]; exact List.mem_singleton.mpr rfl)) e)
    (fun b u _ _ hc e _ => ⟨u.slots, k b u (fun z => hc (by rw [z]; exact List.mem_singleton.mpr rfl)) e⟩) (fun b u hc e n => ?_) (fun b u hc e => ⟨u, k b u (fun z => hc (by rw [z]; exact List.mem_singleton.mpr rfl)) e⟩)
    (fun b xs e => by rw [upd_ne (nb b _ e)]; exact e) (fun b u xs e => by rw [upd_ne (nb b _ e)]; exact e) (fun b ps e => ⟨#[], by rw [upd_ne (nb b _ e), e]; simp⟩) (fun m hm => ?_) (fun b u e => ?_) I.bare
  · rw [List.mem_singleton.mp hb]
    exact ⟨f3, f1, f4, f5⟩
  · rw [upd_ne (fun z => hc (by rw [z]; exact List.mem_singleton.mpr rfl))]
    exact n
  · obtain ⟨u, es, ep, ho, r⟩ := hm
    exact ⟨u, es, ep, k _ u f1.symm ho, r⟩
  · by_cases hb : b = a
    · subst hb
      rw [upd_same] at e
      cases e
      exact new
    · rw [upd_ne hb] at e
      refine (I.hok b u e).stay (fun c v hc q => k c v ?_ q) (fun c q => by rw [upd_ne (nb c _ q)]; exact q) fun c xs q => by rw [upd_ne (nb c _ q)]; exact q
      rcases hc with z | z
      · rw [z]; exact hb
      · exact nb c _ z
variable {k : Nat} {f : Addr} {fd : FuncData} {ps : List Str} {sp : Sp}
/-- a def called from within the frames of a built-in -/
theorem run_in {A : Around} {Q : VK} {E : Value → Shared → Prop} {us : List Value} {vs : List V} (F : FnOk X.prog X.w X.K X.mg X.base CX0 k f fd ps sp) (hA : A.frames = some X.stack) (hr : Room k A) (hb : Binds X.K fd ps [])
    (I : Inv X pins σ H s) (r : Vals vs us) (h : sp vs H Q E0) : wpAny (model X.prog X.w) A (call (.ref f) us) (fun u s' => CE X.stack X.prog X.w H s Q u s') E s := by
  have hl : us.length = ps.length := by
    rw [← r.length]
    exact F.len _ _ _ _ h
  have e := I.env0
  have bt := hb s us I.kIn (by simpa using hl)
  rw [List.append_nil] at bt
  refine wpAny_call (codeAny_mono (F.run A X.stack s H ⟨us, []⟩ us vs Q E0 hr ⟨by rw [hA], e.mod, e.bs, e.bsz, e.funs, e.frf, e.hok, e.bare⟩ bt r h) fun q s' hq => ?_)
  cases q with
  | error e => exact hq.elim
  | ok fl =>
    cases fl with
    | ret u => exact hq
    | next => exact hq.elim
    | brk => exact hq.elim
    | cont => exact hq.elim
theorem ce_inv {Q : VK} {u : Value} {s' : Shared} (I : Inv X pins σ H s) (h : CE X.stack X.prog X.w H s Q u s') :
    ∃ v H', Inv X pins σ H' s' ∧ RelV v u ∧ Q v H' ∧ Un (frs X.stack) [] H H' s.heap s'.heap := by
  obtain ⟨v, H', os, bare, un, hok, r, q⟩ := h
  exact ⟨v, H', I.call' os un hok bare (fun b hb => nomatch hb), r, q, un⟩
theorem notStk {b : Addr} (I : Inv X pins σ H s) (f : FpOk X pins H b) : b ∉ frs X.stack := fun hb => by
  rcases List.mem_cons.mp (I.stkSub b hb) with z | z
  · exact f.2.1 z
  · exact f.2.2.1 z

/-! ### sorted(xs, key=f), f a def of the program -/

theorem paired_append {α β : Type} {F : α → β → Prop} : ∀ {a c : List α} {b d : List β}, Paired F a b → Paired F c d → Paired F (a ++ c) (b ++ d)
  | _, _, _, _, .nil, h => h
  | _, _, _, _, .cons r t, h => .cons r (paired_append t h)
theorem paired_left {α β : Type} {F : α → β → Prop} : ∀ {a : List α} {b : List β}, Paired F a b → ∀ y ∈ a, ∃ x, F y x
  | _, _, .cons r t, y, h => by
    rcases List.mem_cons.mp h with h | h
    · exact ⟨_, h ▸ r⟩
    · exact paired_left t y h
theorem paired_zip {α β : Type} {F : α → β → Prop} : ∀ {a : List α} {b : List β}, Paired F a b → ∀ p ∈ a.zip b, F p.1 p.2
  | _, _, .nil, p, h => by simp at h
  | _, _, .cons r t, p, h => by
    rw [List.zip_cons_cons] at h
    rcases List.mem_cons.mp h with h | h
    · rw [h]; exact r
    · exact paired_zip t p h
instance : Nonempty V := ⟨.non⟩
/-- the value of the machine, as the layer has it -/
def vOf (u : Value) : V := (absV u).getD .non
theorem vOf_eq {x : V} {u : Value} (r : RelV x u) : vOf u = x := by
  unfold vOf
  rw [r.abs]
  rfl
theorem vals_vOf : ∀ {xs : List V} {us : List Value}, Vals xs us → us.map vOf = xs
  | _, _, .nil => rfl
  | _, _, .cons r t => by rw [List.map_cons, vOf_eq r, vals_vOf t]
theorem rel_vOf : ∀ {xs : List V} {us : List Value}, Vals xs us → ∀ u ∈ us, RelV (vOf u) u
  | _, _, .cons r t, u, h => by
    rcases List.mem_cons.mp h with h | h
    · rw [h, vOf_eq r]; exact r
    · exact rel_vOf t u h
theorem vals_of_rel : ∀ {us : List Value}, (∀ u ∈ us, RelV (vOf u) u) → Vals (us.map vOf) us
  | [], _ => .nil
  | u :: us, h => .cons (h u List.mem_cons_self) (vals_of_rel fun v hv => h v (List.mem_cons_of_mem _ hv))
/-- how keys compare: kv x y H: y is the key of x; rk x: its rank -/
structure KeyKind (X : Cx) {R : Type} (rk : V → R) (kv : V → V → Hp → Prop) (ltr : R → R → Bool) : Prop where
  grow : ∀ x y H H', Same H H' → kv x y H → kv x y H'
  one : ∀ x x' y H, kv x y H → kv x' y H → rk x = rk x'
  swo : SrtO.Swo ltr
  cmp : ∀ (pins : List (Addr × Obj)) (σ : St) (H : Hp) (s : Shared) (A : Around) (us : List Value) (ρ : V → R), Room 6 A → Inv X pins σ H s → 2 ≤ us.length → (∀ u ∈ us, RelV (vOf u) u ∧ ∃ x, kv x (vOf u) H ∧ rk x = ρ (vOf u)) →
    ∃ κ, (∀ (Q : SortKind → Shared → Prop) (E : Value → Shared → Prop), Q κ s → wpAny (model X.prog X.w) A (keyKind' us.toArray) Q E s) ∧
      SrtO.Cmp X.prog X.w A s κ (fun p => p.1 ∈ us) (fun p q => ltr (ρ (vOf p.1)) (ρ (vOf q.1)))
theorem zip_toList (k : Array Value) (vs : List Value) : (k.zip vs.toArray).toList = k.toList.zip vs := by simp
theorem pw_map {α β : Type} {R : β → β → Prop} {S : α → α → Prop} {g : α → β} {l : List α} (h : l.Pairwise S) (k : ∀ a b, S a b → R (g a) (g b)) : (l.map g).Pairwise R := by
  rw [List.pairwise_map]
  exact h.imp fun {a b} => k a b
variable {kS a : Addr} {e1 : Nat} {xs : List V} {vs : List Value} {R : Type} {rk : V → R} {kv : V → V → Hp → Prop} {ltr : R → R → Bool} {P : PySem.Fin → Shared → Prop} {E : Value → Shared → Prop}
theorem key_end {A : Around} {kA : Array Value} {e : Nat} {ks : List V} (K : KeyKind X rk kv ltr) (hr : Room 6 A) (I : Inv X pins σ H' s) (h1 : s.heap.get? kS = some (seqObj "list" kA e)) (h2 : s.heap.get? a = some (seqObj "list" #[] e1)) (hne : kS ≠ a)
    (f1 : FpOk X pins H' kS) (f2 : FpOk X pins H' a) (rv : Vals ks kA.toList) (rx : Vals xs vs) (hl : ks.length = xs.length) (hz : xs.length ≤ sizeLine) (ρ : V → R) (hk : ∀ y ∈ ks, ∃ x, kv x y H' ∧ rk x = ρ y)
    (h : ∀ (qs : List (V × V)) (s' : Shared), qs.Perm (ks.zip xs) → qs.Pairwise (fun p q => ltr (ρ q.1) (ρ p.1) = false) → Inv X pins σ (upd H' a (.lst (qs.map Prod.snd))) s' → P (.done (.ret .none)) s') :
    wpAny (model X.prog X.w) A (ksk_end a false vs.toArray e1 (.ref kS) kA) P E s := by
  have lk : kA.size = ks.length := by
    have := rv.length
    rw [Array.length_toList] at this
    exact this.symm
  have lv : vs.length = xs.length := rx.length.symm
  have zs : (kA.zip vs.toArray).size = xs.length := by rw [Array.size_zip, lk, List.size_toArray, lv, hl, Nat.min_self]
  -- what is left to do once the items are in order
  have fin : ∀ st : SortSt, SrtO.Srtd (fun p q : Keyed => ltr (ρ (vOf p.1)) (ρ (vOf q.1))) (arrOf st).toList → (arrOf st).toList.Perm (kA.toList.zip vs) → failedOf st = none →
      wpAny (model X.prog X.w) A (ksk_tail a false e1 (.ref kS) st) P E s := fun st hs hp hf => by
    have hp2 : ((arrOf st).toList.map fun p : Keyed => (vOf p.1, vOf p.2)).Perm (ks.zip xs) := by
      have q := hp.map fun p : Keyed => (vOf p.1, vOf p.2)
      have ez : (kA.toList.zip vs).map (fun p : Keyed => (vOf p.1, vOf p.2)) = ks.zip xs := by
        rw [← vals_vOf rv, ← vals_vOf rx, List.zip_map]
        rfl
      rw [ez] at q
      exact q
    have so : (((arrOf st).map (·.2)).toList) = (arrOf st).toList.map Prod.snd := by rw [Array.toList_map]
    have ln : ((arrOf st).map (·.2)).size = xs.length := by
      have q := hp.length_eq
      rw [Array.length_toList, List.length_zip, Array.length_toList, lk, lv, hl, Nat.min_self] at q
      rw [Array.size_map, q]
    obtain ⟨c1, g1⟩ : ∃ c, (s.heap.update kS (Obj.mapSeq fun _ => (#[] : Array Value))).get? kS = some (seqObj "list" #[] c) := ⟨_, get?_update_seq h1 fun _ => #[]⟩
    have s1 := Heap.SameBut.update s.heap kS (Obj.mapSeq fun _ => (#[] : Array Value))
    have g2 : (s.heap.update kS (Obj.mapSeq fun _ => (#[] : Array Value))).get? a = some (seqObj "list" #[] e1) := (s1.2 a hne.symm).trans h2
    have I1 : Inv X pins σ H' { s with heap := s.heap.update kS (Obj.mapSeq fun _ => (#[] : Array Value)) } :=
      I.turned (t' := s.toks) (fun b u hb e => (s1.2 b hb).trans e) f1.1 f1.2.1 f1.2.2.2.1 f1.2.2.2.2.1 f1.2.2.2.2.2
    have s2 := Heap.SameBut.update (s.heap.update kS (Obj.mapSeq fun _ => (#[] : Array Value))) a (Obj.mapSeq fun _ => (arrOf st).map (·.2))
    obtain ⟨c2, g3⟩ : ∃ c, ((s.heap.update kS (Obj.mapSeq fun _ => (#[] : Array Value))).update a (Obj.mapSeq fun _ => (arrOf st).map (·.2))).get? a = some (seqObj "list" ((arrOf st).map (·.2)) c) :=
      ⟨_, get?_update_seq g2 fun _ => (arrOf st).map (·.2)⟩
    unfold ksk_tail
    try dsimp only
    refine wpAny_bind (listUpdate_at h1 rfl ?_ (by rw [lk, hl]; exact hz) (Nat.zero_le _))
    refine wpAny_bind (wpAny_letGo ?_)
    refine wpAny_bind (seqEpoch_at g2 rfl ?_)
    simp only [Bool.false_eq_true, if_false]
    refine wpAny_bind (listUpdate_at g2 rfl ?_ (Nat.zero_le _) (Nat.le_succ_of_le (by rw [ln]; exact hz)))
    rw [hf]
    simp only [bne_self_eq_false, Bool.false_eq_true, if_false]
    have rel2 : ∀ u ∈ (arrOf st).toList.map Prod.snd, RelV (vOf u) u := fun u hu => by
      obtain ⟨p, hp', rfl⟩ := List.mem_map.mp hu
      exact rel_vOf rx _ (List.of_mem_zip (hp.mem_iff.mp hp')).2
    have em : ((arrOf st).toList.map fun p : Keyed => (vOf p.1, vOf p.2)).map Prod.snd = ((arrOf st).toList.map Prod.snd).map vOf := by
      rw [List.map_map, List.map_map]
      rfl
    refine wpAny_pure (h ((arrOf st).toList.map fun p : Keyed => (vOf p.1, vOf p.2)) _ hp2 (pw_map hs fun p q z => z) ?_)
    refine adopt (o := .lst (((arrOf st).toList.map fun p : Keyed => (vOf p.1, vOf p.2)).map Prod.snd)) (h' := (s.heap.update kS (Obj.mapSeq fun _ => (#[] : Array Value))).update a (Obj.mapSeq fun _ => (arrOf st).map (·.2))) (t' := s.toks) I1 f2 (fun b u hb e => (s2.2 b hb).trans e) ⟨?_, (arrOf st).toList.map Prod.snd, c2, ?_, ?_⟩
    · rw [List.length_map, hp2.length_eq, List.length_zip, hl, Nat.min_self]
      exact hz
    · rw [em]
      exact vals_of_rel rel2
    · rw [← so, Array.toArray_toList]
      exact g3
  unfold ksk_end
  try dsimp only
  simp only [Bool.false_eq_true, if_false]
  by_cases h2' : vs.toArray.size < 2
  · rw [if_pos h2', if_pos h2']
    refine wpAny_bind (wpAny_pure ?_)
    rw [StateT.run_pure]
    refine wpAny_bind (wpAny_pure ?_)
    try dsimp only
    refine fin (SortSt.mk' general' (kA.zip vs.toArray) #[] 7 none) ?_ (by show (kA.zip vs.toArray).toList.Perm _; rw [zip_toList]) rfl
    show List.Pairwise _ (kA.zip vs.toArray).toList
    have : (kA.zip vs.toArray).toList.length < 2 := by
      rw [Array.length_toList, zs, ← lv, ← List.size_toArray]
      exact h2'
    match (kA.zip vs.toArray).toList, this with
    | [], _ => exact List.Pairwise.nil
    | [p], _ => exact List.pairwise_singleton _ _
  · rw [if_neg h2', if_neg h2']
    rw [List.size_toArray] at h2'
    have rk' := rel_vOf rv
    obtain ⟨κ, hkind, hT⟩ := K.cmp pins σ H' s A kA.toList ρ hr I (by rw [Array.length_toList, lk, hl, ← lv]; omega) (fun u hu => ⟨rk' u hu, hk _ (by rw [← vals_vOf rv]; exact List.mem_map.mpr ⟨u, hu, rfl⟩)⟩)
    rw [Array.toArray_toList] at hkind
    refine wpAny_bind (hkind _ _ ?_)
    have swo : SrtO.Swo (fun p q : Keyed => ltr (ρ (vOf p.1)) (ρ (vOf q.1))) := ⟨fun x y => K.swo.asym _ _, fun x y z => K.swo.tr _ _ _⟩
    refine wpAny_bind (wpAny_mono (SrtO.wpS_sortO (st0 := SortSt.mk' κ (kA.zip vs.toArray) #[] 7 none)
      (Q := fun _ st' => SrtO.Srtd (fun p q : Keyed => ltr (ρ (vOf p.1)) (ρ (vOf q.1))) (arrOf st').toList ∧ (arrOf st').toList.Perm (kA.toList.zip vs) ∧ failedOf st' = none) swo hT rfl (fun p hp => ?_) rfl rfl fun st' a1 a2 a3 => ⟨a1, ?_, a3⟩) ?_ fun _ _ e => e)
    · have hp' : p ∈ (kA.zip vs.toArray).toList := hp
      rw [zip_toList] at hp'
      obtain ⟨u, v⟩ := p
      exact (List.of_mem_zip hp').1
    · have q : (arrOf st').toList.Perm (kA.zip vs.toArray).toList := a2.perm
      rw [zip_toList] at q
      exact q
    · rintro ⟨⟨⟩, st'⟩ s' ⟨rfl, q1, q2, q3⟩
      try dsimp only
      exact fin st' q1 q2 q3
theorem key_rest {A : Around} {f : Addr} {fd : FuncData} {ps : List Str} {sp : Sp} {k : Nat} (F : FnOk X.prog X.w X.K X.mg X.base CX0 k f fd ps sp) (hA : A.frames = some X.stack) (hrk : Room k A) (hb : Binds X.K fd ps []) (K : KeyKind X rk kv ltr) (hr : Room 6 A)
    (I : Inv X pins σ H s) (h1 : s.heap.get? kS = some (seqObj "list" #[] 0)) (h2 : s.heap.get? a = some (seqObj "list" #[] e1)) (hne : kS ≠ a) (f1 : ∀ H', H' kS = none → FpOk X pins H' kS) (f2 : ∀ H', H' a = none → FpOk X pins H' a) (n1 : H kS = none) (n2 : H a = none)
    (rx : Vals xs vs) (hz : xs.length ≤ sizeLine) (hsp : ∀ x ∈ xs, ∀ H', Same H H' → ∀ Q : VK, (∀ y H'', Same H' H'' → kv x y H'' → Q y H'') → sp [x] H' Q E0)
    (h : ∀ (ys : List V) (H' : Hp) (s' : Shared), Same H H' → H' a = none → ys.Perm xs → ys.Pairwise (fun x y => ltr (rk y) (rk x) = false) → Inv X pins σ (upd H' a (.lst ys)) s' → P (.done (.ret .none)) s') :
    wpAny (model X.prog X.w) A (ksk_rest a (.ref f) false vs.toArray e1 (.ref kS)) P E s := by
  have lv : vs.length = xs.length := rx.length.symm
  unfold ksk_rest
  refine wpAny_bind (wpAny_rule ?_)
  rw [List.forIn_toArray]
  refine wpAny_bind (ksk_fold (fun i s' => ∃ (H' : Hp) (kA : Array Value) (e : Nat) (ks : List V), Inv X pins σ H' s' ∧ Same H H' ∧ s'.heap.get? kS = some (seqObj "list" kA e) ∧ s'.heap.get? a = some (seqObj "list" #[] e1) ∧
    H' kS = none ∧ H' a = none ∧ Vals ks kA.toList ∧ Paired (fun y x => kv x y H') ks (xs.take i)) vs 0 s ⟨H, #[], 0, [], I, Same.refl H, h1, h2, n1, n2, .nil, by rw [List.take_zero]; exact .nil⟩ ?step ?done)
  case step =>
    rintro j u s1 hu ⟨H1, kA, e, ks, I1, sm, g1, g2, m1, m2, rv, pk⟩
    rw [Nat.zero_add] at pk ⊢
    obtain ⟨hj, _⟩ := List.getElem?_eq_some_iff.mp hu
    have hjx : j < xs.length := by rw [← lv]; exact hj
    obtain ⟨u', hu', ru⟩ := rx.get (List.getElem?_eq_getElem hjx)
    rw [hu] at hu'
    cases hu'
    have lks : ks.length = j := by
      have q := pk.length
      rw [List.length_take] at q
      omega
    refine wpAny_bind (wpAny_attempt (wpAny_mono (run_in F hA hrk hb I1 (.cons ru .nil) (hsp _ (List.getElem_mem hjx) H1 sm (fun y H'' => Same H1 H'' ∧ kv xs[j] y H'') fun y H'' a b => ⟨a, b⟩)) (fun v s2 hc => ?_) fun _ _ z => z))
    obtain ⟨y, H2, I2, ry, ⟨sm2, ky⟩, un⟩ := ce_inv I1 hc
    try dsimp only
    have k1 := un.keep kS _ g1 m1 (notStk I1 (f1 _ m1)) (fun z => nomatch z)
    have k2 := un.keep a _ g2 m2 (notStk I1 (f2 _ m2)) (fun z => nomatch z)
    have p1 := un.free kS _ g1 m1 (fun z => nomatch z)
    have p2 := un.free a _ g2 m2 (fun z => nomatch z)
    have sk : kA.size = j := by
      have q : ks.length = kA.toList.length := Paired.length rv
      rw [Array.length_toList] at q
      exact q.symm.trans lks
    have sb := Heap.SameBut.update s2.heap kS (Obj.mapSeq (·.push v))
    obtain ⟨c, hc⟩ : ∃ c, (s2.heap.update kS (Obj.mapSeq (·.push v))).get? kS = some (seqObj "list" (kA.push v) c) := ⟨_, get?_update_seq k1 (·.push v)⟩
    have fk := f1 _ p1
    refine wpAny_bind (listUpdate_at k1 rfl ?_ (by rw [sk]; omega) (by rw [Array.size_push, sk]; omega))
    refine wpAny_pure ⟨rfl, H2, kA.push v, c, ks ++ [y], I2.turned (t' := s2.toks) (fun b o hb e => (sb.2 b hb).trans e) p1 fk.2.1 fk.2.2.2.1 fk.2.2.2.2.1 fk.2.2.2.2.2, sm.trans sm2, hc, (sb.2 a hne.symm).trans k2, p1, p2, ?_, ?_⟩
    · rw [Array.toList_push]
      exact rv.append (.cons ry .nil)
    · rw [List.take_add_one, List.getElem?_eq_getElem hjx]
      exact paired_append (Paired.mapP pk fun a b z => K.grow _ _ _ _ sm2 z) (.cons ky .nil)
  case done =>
    rintro s1 ⟨H1, kA, e, ks, I1, sm, g1, g2, m1, m2, rv, pk⟩
    have et : xs.take (0 + vs.length) = xs := List.take_of_length_le (by omega)
    rw [et] at pk
    try dsimp only
    refine wpAny_bind (listItems_at g1 rfl ?_)
    have rho : ∀ y x, kv x y H1 → rk x = rk (Classical.epsilon fun x => kv x y H1) := fun y x hx => K.one _ _ _ _ hx (Classical.epsilon_spec (p := fun x => kv x y H1) ⟨x, hx⟩)
    refine key_end K hr I1 g1 g2 hne (f1 _ m1) (f2 _ m2) rv rx pk.length hz (fun y => rk (Classical.epsilon fun x => kv x y H1)) (fun y hy => ?_) fun qs s' a1 a2 a3 => h (qs.map Prod.snd) H1 s' sm m2 ?_ ?_ a3
    · obtain ⟨x, hx⟩ := paired_left pk y hy
      exact ⟨x, hx, rho y x hx⟩
    · have q := a1.map Prod.snd
      rw [List.map_snd_zip (by rw [pk.length]; exact Nat.le_refl _)] at q
      exact q
    · rw [List.pairwise_map]
      refine a2.imp_of_mem fun {p q} hp hq z => ?_
      rw [rho _ _ (paired_zip pk _ (a1.mem_iff.mp hp)), rho _ _ (paired_zip pk _ (a1.mem_iff.mp hq))]
      exact z
/-- sorted(xs, key=f) -/
def rSortedF (K : PySem.W.Frag) (f : Addr) (sp : Sp) {R : Type} (rk : V → R) (kv : V → V → Hp → Prop) (ltr : R → R → Bool) : List V → List V → Hp → VK → Prop := fun vs zs H Q => ∃ (a : Addr) (xs : List V), vs = [.ref a] ∧ zs = [.ref f] ∧ SqL K H a xs ∧
  (∀ x ∈ xs, ∀ H', Same H H' → ∀ Q : VK, (∀ y H'', Same H' H'' → kv x y H'' → Q y H'') → sp [x] H' Q E0) ∧
  ∀ (ys : List V) (p : Addr) (H' : Hp), Same H H' → H' p = none → ys.Perm xs → ys.Pairwise (fun x y => ltr (rk y) (rk x) = false) → Q (.ref p) (upd H' p (.lst ys))
theorem cr_sortedF {f : Addr} {fd : FuncData} {ps : List Str} {sp : Sp} {k : Nat} (F : FnOk X.prog X.w X.K X.mg X.base CX0 k f fd ps sp) (hb : Binds X.K fd ps []) (hr : Room (k + 8) X.A) (K : KeyKind X rk kv ltr) : CallRK X (.builtin "sorted") [Str.ofString "key"] (rSortedF X.K f sp rk kv ltr) := by
  intro pins s σ H ws zs us ts Q I r rz h
  obtain ⟨l, xs, rfl, rfl, hl, hsp, q⟩ := h
  obtain rfl := Vals.ref1 r
  obtain ⟨w1, rfl, ew⟩ := vals1 rz
  obtain rfl : w1 = Value.ref f := ew
  obtain ⟨vs, rx, pl, hz⟩ := I.list hl
  have lv : vs.length = xs.length := rx.length.symm
  have r2 : Room (k + 6) X.A.in1.in1 := (show Room (k + 6 + 1) X.A.in1 from Room.in1 hr).in1
  refine call_function_entry_kw kind_sorted plain_sorted entry_sorted (ksk_s1 _ _) ?_
  unfold Builtin.«sorted»
  refine wpAny_bind (m := checkCount "sorted" 1 1 _) (wpAny_pure ?_)
  refine wpAny_bind (collect_list pl.isList ?_ (by rw [lv]; exact hz))
  refine wpAny_bind (wpAny_newList ?_ (by rw [lv]; exact hz))
  generalize hg : (s.heap.push (seqObj "list" #[] 0)).update s.heap.objs.size (Obj.mapSeq (· ++ vs.toArray)) = g
  have gs : g.objs.size = s.heap.objs.size + 1 := by rw [← hg, Heap.size_update, size_push']
  have keep : ∀ b o, s.heap.get? b = some o → g.get? b = some o := fun b o e => by
    rw [← hg, Heap.get?_update_ne _ _ _ _ (Nat.ne_of_lt (Heap.lt_size e))]
    exact Heap.get?_push_of_some _ e
  have I1 : Inv X pins σ H { s with heap := g } := I.kept (t' := s.toks) keep
  have ho : (g.push (seqObj "list" vs.toArray 0)).get? g.objs.size = some (seqObj "list" vs.toArray 0) := Heap.get?_push_size _ rfl
  have I2 : Inv X pins σ H { s with heap := g.push (seqObj "list" vs.toArray 0) } := I1.kept (t' := s.toks) fun b o e => Heap.get?_push_of_some _ e
  have f2 : ∀ H', H' g.objs.size = none → FpOk X pins H' g.objs.size := fun H' n => I1.fpOk (s := { s with heap := g }) (Nat.le_refl _) n
  have n2 : H g.objs.size = none := I1.hok.fresh (Nat.le_refl _)
  refine wpAny_bind (wpAny_holding (wpAny_call_entry_kw (T := "list") (s := { s with heap := g.push (seqObj "list" vs.toArray 0) }) slot_list_sort ⟨_, ho, rfl⟩ entry_list_sort ?body (ksk_l1 _ _)))
  case body =>
    show wpAny _ X.A.in1.in1 (Builtin.«list.sort» ⟨[.ref g.objs.size], [(Str.ofString "key", .ref f)]⟩) _ _ _
    rw [ksk_t1]
    unfold ksk_tree
    have s1 := Heap.SameBut.update (g.push (seqObj "list" vs.toArray 0)) g.objs.size (Obj.mapSeq fun _ => (#[] : Array Value))
    obtain ⟨e1, g1⟩ : ∃ e1, ((g.push (seqObj "list" vs.toArray 0)).update g.objs.size (Obj.mapSeq fun _ => (#[] : Array Value))).get? g.objs.size = some (seqObj "list" #[] e1) := ⟨_, get?_update_seq ho fun _ => #[]⟩
    generalize hg2 : (g.push (seqObj "list" vs.toArray 0)).update g.objs.size (Obj.mapSeq fun _ => (#[] : Array Value)) = g2 at s1 g1
    have gs2 : g2.objs.size = g.objs.size + 1 := by rw [← hg2, Heap.size_update, size_push']
    have fa := f2 H n2
    have I3 : Inv X pins σ H { s with heap := g2 } := I2.turned (t' := s.toks) (fun b o hb e => (s1.2 b hb).trans e) fa.1 fa.2.1 fa.2.2.2.1 fa.2.2.2.2.1 fa.2.2.2.2.2
    refine wpAny_bind (listItems_at ho rfl ?_)
    refine wpAny_bind (listUpdate_at ho rfl ?_ (by rw [List.size_toArray, lv]; exact hz) (Nat.zero_le _))
    rw [hg2]
    refine wpAny_bind (seqEpoch_at g1 rfl ?_)
    refine wpAny_bind (wpAny_newTuple ?_ (by show vs.length ≤ _; rw [lv]; exact hz))
    have I4 : Inv X pins σ H { s with heap := g2.push (seqObj "tuple" vs.toArray 0) } := I3.kept (t' := s.toks) fun b o e => Heap.get?_push_of_some _ e
    generalize hg3 : g2.push (seqObj "tuple" vs.toArray 0) = g3 at I4
    have gs3 : g3.objs.size = g2.objs.size + 1 := by rw [← hg3, size_push']
    have e3 : g3.get? g.objs.size = some (seqObj "list" #[] e1) := by rw [← hg3]; exact Heap.get?_push_of_some _ g1
    refine wpAny_bind (wpAny_newList ?_ (Nat.zero_le _))
    refine wpAny_holding ?_
    have I5 : Inv X pins σ H { s with heap := g3.push (seqObj "list" #[] 0) } := I4.kept (t' := s.toks) fun b o e => Heap.get?_push_of_some _ e
    have f1 : ∀ H', H' g3.objs.size = none → FpOk X pins H' g3.objs.size := fun H' n => I4.fpOk (s := { s with heap := g3 }) (Nat.le_refl _) n
    have hX := I.ok.frames
    refine key_rest F (by rw [← hX]) (r2.mono (by omega)) hb K (r2.mono (by omega)) I5 (Heap.get?_push_size _ rfl) (Heap.get?_push_of_some _ e3) (fun z => by have z' : (g3.objs.size : Nat) = g.objs.size := z; omega) f1 f2 (I4.hok.fresh (Nat.le_refl _)) n2 rx hz hsp fun ys H' s' a1 a2 a3 a4 a5 => ?_
    refine ⟨_, rfl, ?_⟩
    exact wpAny_pure ⟨_, rfl, .ref g.objs.size, _, a5, rfl, q ys _ H' a1 a2 a3 a4⟩
end
end L2.KK
namespace L2.KK
open PySem PySem.Spec PyProof.Rows
section
variable {X : Cx}
/-! ### o[i] of a list, for o[i] op= e -/
/-- o[j], 0 ≤ j, of a list -/
def rGetL (K : PySem.W.Frag) : V → V → Hp → VK → Prop := fun x y H Q => ∃ (p : Addr) (xs : List V) (j : Nat) (v : V), x = .ref p ∧ y = .int (j : Int) ∧ SqL K H p xs ∧ xs[j]? = some v ∧ j < 1000 ∧ Q v H
theorem get_list : PGet X (rGetL X.K) := by
  intro pins s σ H o i ov iv Q I ro ri h
  obtain ⟨p, xs, j, v, rfl, rfl, hl, hj, hb, q⟩ := h
  obtain rfl : ov = Value.ref p := ro
  obtain ⟨t, rfl⟩ := ri
  obtain ⟨its, rv, pl, hz⟩ := I.list hl
  obtain ⟨u, hu, ru⟩ := rv.get hj
  have hlt : j < its.length := (List.getElem?_eq_some_iff.mp hu).1
  refine wpAny_getItem_list (x := u) pl.isList (by omega) (by omega) ?_ ?_ 
  all_goals first
    | exact ⟨v, H, I, ru, q⟩
    | (simp; omega)
    | simpa using hu
/-! ### keys that are ints -/
def kInt (g : V → Int) : V → V → Hp → Prop := fun x y _ => y = .int (g x)
theorem key_int (g : V → Int) : KeyKind X g (kInt g) (fun i j => decide (i < j)) where
  grow := fun _ _ _ _ _ h => h
  one := fun x x' y H h h' => by
    have a : y = .int (g x) := h
    have b : y = .int (g x') := h'
    rw [a] at b
    injection b
  swo := ⟨fun x y h => by
    have := of_decide_eq_true h
    exact decide_eq_false (by omega), fun x y z h1 h2 => by
    have a := of_decide_eq_false h1
    have b := of_decide_eq_false h2
    exact decide_eq_false (by omega)⟩
  cmp := fun pins σ H s A us ρ hr I h2 hu => by
    have ex : ∀ u ∈ us, ∃ t, u = .int (ρ (vOf u)) t := fun u m => by
      obtain ⟨r, x, hx, e⟩ := hu u m
      have e2 : vOf u = .int (g x) := hx
      rw [e2] at r
      obtain ⟨t, et⟩ := r
      exact ⟨t, by rw [← e]; exact et⟩
    have all : ∀ l : List Value, (∀ u ∈ l, ∃ t, u = .int (ρ (vOf u)) t) → IntsAre l (l.map fun u => ρ (vOf u)) := by
      intro l
      induction l with
      | nil => intro _; exact .nil
      | cons u l ih =>
        intro h
        rw [List.map_cons]
        obtain ⟨t, e⟩ := h u List.mem_cons_self
        have q : IntsAre (.int (ρ (vOf u)) t :: l) (ρ (vOf u) :: l.map fun u => ρ (vOf u)) := .cons _ _ (ih fun v hv => h v (List.mem_cons_of_mem _ hv))
        rw [← e] at q
        exact q
    obtain ⟨κ, k1, k2⟩ := SrtO.ints_sortable (prog := X.prog) (w := X.w) (A := A) (s := s) (a := 0) (all us ex) h2 s.heap fun _ _ _ e => e
    refine ⟨κ, k1, fun p q hp hq => ?_⟩
    have q1 := k2 p q hp hq
    have ip : ∀ u ∈ us, SrtO.iv u = ρ (vOf u) := fun u m => by
      obtain ⟨t, e⟩ := ex u m
      have q : SrtO.iv (.int (ρ (vOf u)) t) = ρ (vOf u) := rfl
      rw [← e] at q
      exact q
    have el : SrtO.lt2 SrtO.ltIv p q = decide (ρ (vOf p.1) < ρ (vOf q.1)) := by
      show decide (SrtO.iv p.1 < SrtO.iv q.1) = _
      rw [ip _ hp, ip _ hq]
    rw [el] at q1
    exact q1

/-! ### keys (len(lot), lot), lot a tuple of ints -/
def ltLot (a b : List Int) : Bool := if a.length = b.length then HT.lexLt a b else decide (a.length < b.length)
def kLot (K : PySem.W.Frag) (rk : V → List Int) : V → V → Hp → Prop := fun x y H => ∃ t p, x = .ref t ∧ y = .ref p ∧ SqT K H t ((rk x).map V.int) ∧ H p = some (.tup [.int ((rk x).length : Int), .ref t])
theorem lexLt_self : ∀ l : List Int, HT.lexLt l l = false
  | [] => rfl
  | x :: l => by rw [HT.lexLt_cons, if_pos rfl, lexLt_self l]
theorem same_seqT {K : PySem.W.Frag} {H H' : Hp} {a : Addr} {xs : List V} (e : Same H H') (h : SqT K H a xs) : SqT K H' a xs := by
  rcases h with (h | ⟨o, h⟩) | h
  · exact .inl (.inl (e _ _ h))
  · exact .inl (.inr ⟨o, e _ _ h⟩)
  · exact .inr h
theorem swo_lot : SrtO.Swo ltLot := by
  refine ⟨fun x y h => ?_, fun x y z h1 h2 => ?_⟩
  · unfold ltLot at h ⊢
    by_cases e : x.length = y.length
    · rw [if_pos e] at h
      rw [if_pos e.symm]
      exact NtL.lex_asym _ _ h
    · rw [if_neg e] at h
      rw [if_neg (Ne.symm e)]
      have := of_decide_eq_true h
      exact decide_eq_false (by omega)
  · unfold ltLot at h1 h2 ⊢
    by_cases e1 : y.length = x.length
    · rw [if_pos e1] at h1
      by_cases e2 : z.length = y.length
      · rw [if_pos e2] at h2
        rw [if_pos (e2.trans e1)]
        exact NtL.lex_tr _ _ _ h1 h2
      · rw [if_neg e2] at h2
        have := of_decide_eq_false h2
        rw [if_neg (by omega)]
        exact decide_eq_false (by omega)
    · rw [if_neg e1] at h1
      have := of_decide_eq_false h1
      by_cases e2 : z.length = y.length
      · rw [if_neg (by omega)]
        exact decide_eq_false (by omega)
      · rw [if_neg e2] at h2
        have := of_decide_eq_false h2
        rw [if_neg (by omega)]
        exact decide_eq_false (by omega)
theorem ltLot_anti {a b : List Int} (h1 : ltLot a b = false) (h2 : ltLot b a = false) : a = b := by
  have key : ∀ a b : List Int, a.length = b.length → HT.lexLt a b = false → HT.lexLt b a = false → a = b := by
    intro a
    induction a with
    | nil => intro b h _ _; cases b with
      | nil => rfl
      | cons _ _ => simp at h
    | cons x a ih =>
      intro b h h1 h2
      cases b with
      | nil => simp at h
      | cons y b =>
        rw [HT.lexLt_cons] at h1 h2
        by_cases e : x = y
        · subst e
          rw [if_pos rfl] at h1 h2
          rw [ih b (by simpa using h) h1 h2]
        · rw [if_neg e] at h1
          rw [if_neg (Ne.symm e)] at h2
          have := of_decide_eq_false h1
          have := of_decide_eq_false h2
          exact absurd (by omega) e
  unfold ltLot at h1 h2
  by_cases e : a.length = b.length
  · rw [if_pos e] at h1
    rw [if_pos e.symm] at h2
    exact key a b e h1 h2
  · rw [if_neg e] at h1
    rw [if_neg (Ne.symm e)] at h2
    have := of_decide_eq_false h1
    have := of_decide_eq_false h2
    omega
theorem readsAll_ints {h : Heap} : ∀ {its : List Value} {ns : List Int}, IntsAre its ns → ∃ as, ReadsAll h its (ns.map PyData.int) as
  | _, _, .nil => ⟨_, .nil⟩
  | _, _, .cons n t r => by
    obtain ⟨as, q⟩ := readsAll_ints (h := h) r
    exact ⟨_, .cons (.int n t) q⟩
theorem shaped_ints (ns : List Int) : SeqAt.shaped (.tuple (ns.map PyData.int)) = true := by
  have h := PySem.W.plainAll_map (α := Int) ns
  have d := PySem.W.depthAll_map (α := Int) ns
  have c : PyData.canLayAll0 (ns.map PyData.int) = true := by
    induction ns with
    | nil => rfl
    | cons n ns ih =>
      rw [List.map_cons]
      unfold PyData.canLayAll0
      rw [ih (PySem.W.plainAll_map (α := Int) ns) (PySem.W.depthAll_map (α := Int) ns)]
      rfl
  unfold SeqAt.shaped
  rw [Bool.and_eq_true]
  refine ⟨?_, decide_eq_true ?_⟩
  · unfold PyData.canLay0
    exact c
  · unfold PyData.depth
    have e : PySem.W.Datum.depth Int = 0 := rfl
    rw [e] at d
    have d' : PyData.depthAll (ns.map PyData.int) ≤ 0 := d
    omega
theorem key_lot (rk : V → List Int) : KeyKind X rk (kLot X.K rk) ltLot where
  grow := fun x y H H' e ⟨t, p, h1, h2, h3, h4⟩ => ⟨t, p, h1, h2, same_seqT e h3, e _ _ h4⟩
  one := fun x x' y H ⟨t, p, h1, h2, h3, h4⟩ ⟨t', p', k1, k2, k3, k4⟩ => by
    subst h2
    injection k2 with e
    subst e
    rw [h4] at k4
    injection k4 with e
    injection e with e
    injection e with _ e
    injection e with e _
    rw [h1, k1, e]
  swo := swo_lot
  cmp := fun pins σ H s A us ρ hr I h2 hu => by
    -- what each key is
    have at_ : ∀ u ∈ us, ∃ (p : Addr) (o : Obj) (t : Addr) (tk : Tok) (n : Nat) (its : List Value), u = .ref p ∧ s.heap.get? p = some o ∧ o.cls = .type "tuple" ∧ o.data = .seq (List.toArray [.int ((ρ (vOf u)).length : Int) tk, .ref t]) n ∧
        IsTup s.heap t its.toArray ∧ IntsAre its (ρ (vOf u)) := fun u m => by
      obtain ⟨r, x, ⟨t, p, e1, e2, h3, h4⟩, e⟩ := hu u m
      rw [e2] at r
      obtain ⟨its, rv, pt, _⟩ := I.tuple h3
      obtain ⟨_, its2, rv2, o, ho, hc, n, hd⟩ := I.hok _ _ h4
      obtain ⟨u1, u2, rfl, r1, r2⟩ := vals2 rv2
      obtain ⟨tk, rfl⟩ := r1
      obtain rfl : u2 = Value.ref t := r2
      have er : u = Value.ref p := r
      refine ⟨p, o, t, tk, n, its, er, ho, hc, ?_, pt, ?_⟩
      · rw [← e]
        exact hd
      · rw [← e]
        have q := intsAre_of rv
        simpa using q
    have firsts : ∀ l : List Value, (∀ u ∈ l, u ∈ us) → ∃ fs : List Value, PySem.W.KatTups s.heap l fs ∧ fs.length = l.length ∧ ∀ f ∈ fs, ∃ i t, f = Value.int i t := by
      intro l
      induction l with
      | nil => intro _; exact ⟨[], PySem.W.KatTups.nil, rfl, fun _ h => nomatch h⟩
      | cons u l ih =>
        intro h
        obtain ⟨fs, k1, k2, k3⟩ := ih fun v hv => h v (List.mem_cons_of_mem _ hv)
        obtain ⟨p, o, t, tk, n, its, rfl, ho, hc, hd, _, _⟩ := at_ u (h u List.mem_cons_self)
        refine ⟨_ :: fs, PySem.W.KatTups.cons ho hc hd rfl k1, by rw [List.length_cons, List.length_cons, k2], fun f hf => ?_⟩
        rcases List.mem_cons.mp hf with hf | hf
        · exact ⟨_, _, hf⟩
        · exact k3 f hf
    obtain ⟨fs, k1, k2, k3⟩ := firsts us fun _ h => h
    refine ⟨tuples' true, fun Q E hq => ?_, fun p q hp hq => ?_⟩
    · refine PySem.W.kat_kind (T := .type "int") k1 (by omega) (fun f hm => ?_) (by rfl) ?_
      · obtain ⟨x, t, rfl⟩ := k3 f hm
        exact PySem.W.Looks.now
      · have e : (Value.type "int" != Value.type "tuple") = true := by first | decide +kernel | rfl | decide
        rw [e]
        exact hq
    · obtain ⟨p1, o1, t1, tk1, n1, its1, e1, ho1, hc1, hd1, pt1, ia1⟩ := at_ _ hp
      obtain ⟨p2, o2, t2, tk2, n2, its2, e2, ho2, hc2, hd2, pt2, ia2⟩ := at_ _ hq
      show wpAny _ _ (keyLt' (tuples' true) p.1 q.1) (fun r s' => s' = s ∧ r = ltLot (ρ (vOf p.1)) (ρ (vOf q.1))) _ s
      generalize ρ (vOf p.1) = a at *
      generalize ρ (vOf q.1) = b at *
      rw [e1, e2]
      have un := hr.un
      refine PySem.W.kat_lt ho1 hd1 ho2 hd2 ?_
      show PySem.W.KatLex X.prog X.w A true (decide (2 < 2)) _ [(.int (a.length : Int) tk1, .int (b.length : Int) tk2), (.ref t1, .ref t2)] 0 s
      refine PySem.W.kat_cons (SeqAt.EqAt.int_int _ tk1 _ tk2 X.prog X.w _ _ ?_)
      refine PySem.W.kat_go (fun x1 => ?_) (fun x1 => ?_)
      · have el : a.length = b.length := by
          have := eq_of_beq x1
          omega
        refine PySem.W.kat_yes (PySem.W.kat_cons ?_)
        obtain ⟨as, ra⟩ := readsAll_ints (h := s.heap) ia1
        obtain ⟨bs, rb⟩ := readsAll_ints (h := s.heap) ia2
        obtain ⟨o3, g3, c3, m3, d3⟩ := id pt1
        obtain ⟨o4, g4, c4, m4, d4⟩ := id pt2
        have R1 : Reads s.heap (.ref t1) (.tuple (a.map PyData.int)) as := .tuple g3 c3 d3 (by simpa using ra)
        have R2 : Reads s.heap (.ref t2) (.tuple (b.map PyData.int)) bs := .tuple g4 c4 d4 (by simpa using rb)
        refine SeqAt.eqAt_reads _ _ A s _ _ _ _ R1 R2 (SeqAt.canLay_of_shaped (shaped_ints a)) (SeqAt.canLay_of_shaped (shaped_ints b)) (SeqAt.room_of_shaped (shaped_ints a) (by omega)) X.prog X.w _ _ ?_
        have ev : PyData.eqv (.tuple (a.map PyData.int)) (.tuple (b.map PyData.int)) = decide (a = b) := by
          show PyData.eqvAll _ _ = _
          exact PySem.W.ked_eqvAll a b
        rw [ev]
        refine PySem.W.kat_go (fun x2 => ?_) (fun x2 => ?_)
        · have eab : a = b := of_decide_eq_true x2
          refine PySem.W.kat_yes (PySem.W.kat_nil ⟨rfl, ?_⟩)
          unfold ltLot
          rw [if_pos el, eab, lexLt_self]
          rfl
        · refine PySem.W.kat_no (PySem.W.kat_one _ _ ?_)
          refine HT.lt_tupInts pt1 pt2 (by simpa using ia1) (by simpa using ia2) (by omega) ⟨rfl, ?_⟩
          unfold ltLot
          rw [if_pos el]
      · have el : ¬ a.length = b.length := fun z => by
          have : ¬ ((a.length : Int) == (b.length : Int)) = true := by rw [x1]; exact Bool.false_ne_true
          exact this (by rw [z]; exact beq_self_eq_true _)
        refine PySem.W.kat_no ?_
        show wpAny _ _ (oneLt' true _ _) _ _ _
        refine oneLt_int ⟨rfl, ?_⟩
        unfold ltLot
        rw [if_neg el]
        exact decide_eq_decide.mpr (by omega)
end
end L2.KK
namespace L2.KK
open PySem PySem.Spec PyProof.Rows
abbrev emptySet (w : World) : Obj := { cls := .type "set", dict := none, data := .set #[] 0 (.fresh 0 0 (!w.params.followText "set-order")) }
section
variable {P : Program} {w : World} {A : Around} {E : Value → Shared → Prop} {s : Shared}
/-- set(xs), xs a list of ints -/
theorem set_of_ints {l : Addr} {items : Array Value} (ns : List Int) {Q : Value → Shared → Prop} (hh : A.handled = none) (hl : s.heap.IsList l items) (hit : IntsAre items.toList ns) (hb : ns.length + 1 < scanBound)
    (h : ∀ (h' : Heap) (tk c : Nat), SetR w h' s.heap.objs.size (fun j => decide (j ∈ ns)) c → c ≤ ns.length → (∀ b o, s.heap.get? b = some o → h'.get? b = some o) → Q (.ref s.heap.objs.size) { s with heap := h', toks := tk }) :
    wpAny (model P w) A (call (.type "set") [.ref l]) Q E s := by
  have hisz : items.size = ns.length := by
    have q := IntsAre.length hit
    rw [Array.length_toList] at q
    exact q
  obtain ⟨c, tl, hmro⟩ := PySem.F.called_set.mro
  have hmade := PySem.F.called_set.made
  have hsub := PySem.F.called_set.sub
  refine wpAny_call (codeAny_of_tree ?_)
  show wpAny _ _ (callAny (.type "set") _) _ _ _
  refine wpAny_pure ⟨Code.quiet_builtin _ (by decide +kernel), codeAny_builtin PySem.F.entry_type_call ?_⟩
  rw [Around.under_plain (weight_type_call_type "set" [.ref l] []) rfl]
  have h1 := PySem.F.called_set.notType
  have h2 := PySem.F.called_set.canCreate
  have hct := PySem.F.typeCall_set_1 (.ref l)
  repeat (any_goals (first | assumption | wp_step))
  refine codeAny_mono (code_set_led1 (.ref l) (E := E) (Q₁ := fun obj s₁ => obj = .ref s.heap.objs.size ∧ s₁ = { s with heap := s.heap.push (emptySet w) }) ⟨rfl, rfl⟩) fun r s₁ hr => ?_
  cases r with
  | error e => exact hr
  | ok fl =>
    cases fl with
    | ret obj =>
      obtain ⟨rfl, rfl⟩ := hr
      have hS : (s.heap.push (emptySet w)).get? s.heap.objs.size = some (emptySet w) := Heap.get?_push_size _ rfl
      have hT : Shared.TypeIs { s with heap := s.heap.push (emptySet w) } (.ref s.heap.objs.size) "set" := ⟨_, hS, rfl⟩
      have hli := PySem.F.called_set.init.lookup
      have hbi := PySem.F.called_set.init.bind (.ref s.heap.objs.size)
      repeat (any_goals (first | assumption | wp_step))
      refine codeAny_mono (codeAny_call_builtin (R := wants (fun r s₂ => r = .none ∧ ∃ h' tk c, s₂ = { s with heap := h', toks := tk } ∧ SetR w h' s.heap.objs.size (fun j => decide (j ∈ ns)) c ∧ c ≤ ns.length ∧
          (∀ b o, s.heap.get? b = some o → h'.get? b = some o)) E) PySem.F.called_set.init.plain PySem.F.entry_set_init (PySem.check_set_init_1 hT ?_)) fun r₂ s₂ hr₂ => ?_
      · obtain ⟨ol, hol, hcl, nl, hdl⟩ := id hl
        obtain ⟨ocls, odict, odata, oslots⟩ := ol
        simp only at hcl hdl
        subst hcl; subst hdl
        have hol' : (s.heap.push (emptySet w)).get? l = some { cls := .type "list", dict := odict, data := .seq items nl, slots := oslots } := Heap.get?_push_of_some _ hol
        have hsls := PySem.F.sub_list_set
        have hslf := PySem.F.sub_list_frozenset
        have hne : (Value.type "list" == Value.type "dict") = false := by decide
        have hl1 : (s.heap.push (emptySet w)).IsList l items := hl.push _
        unfold Builtin.«set.__init__» noKeywords Builtin.Frozenset.updateFrom
        generalize hPI : pyIter = PI
        wp_walk
        subst hPI
        refine wpAny_pyIter_list hl1 ?_
        refine wpAny_bind (wpAny_runValue ?_)
        have hlS : l < s.heap.objs.size := Heap.lt_size hol
        have hh3 : A.in1.in1.in1.handled = none := by simp [hh]
        have hz1 : (s.heap.push (emptySet w)).objs.size = s.heap.objs.size + 1 := Heap.size_push ..
        have hneI : l ≠ (s.heap.push (emptySet w)).objs.size := by
          rw [hz1]; exact Nat.ne_of_lt (Nat.lt_succ_of_lt hlS)
        have hSf : s.heap.objs.size ∉ [(s.heap.push (emptySet w)).objs.size, l] := by
          rw [hz1]; simp only [List.mem_cons, List.not_mem_nil, or_false, not_or]
          exact ⟨Nat.ne_of_lt (Nat.lt_succ_self _), Nat.ne_of_gt hlS⟩
        have hval : ∀ (i : Nat) (v : Value), items[i]? = some v → ∃ k t, ns[i]? = some k ∧ v = .int k t := fun i v hv => by
          have hi : i < ns.length := by rw [← hisz]; exact (Array.getElem?_eq_some_iff.mp hv).1
          obtain ⟨t, e⟩ := IntsAre.int_at hit i v (by rw [Array.getElem?_toList]; exact hv)
          exact ⟨ns[i], t, List.getElem?_eq_getElem hi, by rw [e, List.getD_eq_getElem?_getD, List.getElem?_eq_getElem hi]; rfl⟩
        refine set_update_ints ((Walks.list hh3 _ l hneI items).toS) s.heap.objs.size hSf ns hisz hb hval (items.size - 0) 0 _ (by omega) (Nat.zero_le _) ⟨⟨_, Heap.get?_push_size _ rfl, rfl, rfl⟩, (hl1.push _)⟩ ?hS0 ?hR
        case hS0 => exact ⟨0, Nat.le_refl 0, setR_new_at (Heap.get?_push_of_some _ hS)⟩
        case hR =>
          intro s' c' hm hc' hS'
          obtain ⟨h', g2, d', tk', os'⟩ := s'
          have eg : g2 = s.gens := hm.gens
          have ed : d' = s.drawn := hm.drawn
          have eo : os' = s.os := hm.os
          subst eg; subst ed; subst eo
          show wpAny _ _ _ _ _ _
          refine wpAny_pure ?_
          show wpAny _ _ (ret Value.none) _ _ _
          rw [hisz] at hc'
          refine wpAny_pure ⟨rfl, h', tk', c', rfl, hS', hc', fun b o e => ?_⟩
          have hb0 : b < s.heap.objs.size := Heap.lt_size e
          refine hm.heap b o (fun hmem => ?_) (Heap.get?_push_of_some _ (Heap.get?_push_of_some _ e))
          rcases List.mem_cons.mp hmem with z | z
          · exact Nat.ne_of_lt hb0 z
          · have e1 : b = s.heap.objs.size + 1 := (List.mem_singleton.mp z).trans hz1
            exact absurd hb0 (by rw [e1]; exact Nat.not_lt.mpr (Nat.le_succ _))
      · cases r₂ with
        | error e => exact hr₂
        | ok fl₂ =>
          cases fl₂ with
          | ret r =>
            obtain ⟨rfl, h', tk, c', rfl, hS', hc', hk'⟩ := hr₂
            repeat (any_goals (first | assumption | wp_step))
            exact h _ _ _ hS' hc' hk'
          | _ => exact hr₂.elim
    | _ => exact hr.elim
end
section
variable {X : Cx}
def rSetL (K : PySem.W.Frag) (w : World) : List V → Hp → VK → Prop := fun vs H Q => ∃ (a : Addr) (ns : List Int), vs = [.ref a] ∧ SqL K H a (ns.map V.int) ∧ ns.length ≤ 4000 ∧
  ∀ (p : Addr) (c : Nat), H p = none → c ≤ ns.length → Q (.ref p) (upd H p (SetO w p (fun j => decide (j ∈ ns)) c))
theorem cr_setL (hc : X.calm = true) : CallR X (.type "set") (rSetL X.K X.w) := by
  intro pins s σ H vs us Q I r h
  obtain ⟨a, ns, rfl, hs, hz, q⟩ := h
  obtain rfl := Vals.ref1 r
  obtain ⟨its, rv, pl, _⟩ := I.list hs
  have hi : IntsAre its ns := rv.ints
  have hn : H s.heap.objs.size = none := I.hok.fresh (Nat.le_refl _)
  refine set_of_ints (P := X.prog) ns (I.ok.hd hc) pl.isList (by simpa using hi) (Nat.lt_of_le_of_lt (Nat.succ_le_succ hz) (by decide)) fun h' tk c R hcl k => ?_
  exact ⟨.ref s.heap.objs.size, _, I.laid (t' := tk) k (Nat.le_refl _) (setO_new R), rfl, q _ c hn hcl⟩
end
end L2.KK
/-! whole numbers that are not negative; lists made by a comprehension; sorted by a def, two ways -/
namespace L2.KK
open PySem PySem.Spec PyProof.Rows
abbrev nV (n : Nat) : V := .int (n : Int)
def rN (g : Nat → Nat → V) : R2 := fun x y H Q => ∃ a b : Nat, x = nV a ∧ y = nV b ∧ Q (g a b) H
def rNC (C : Nat → Nat → Prop) (g : Nat → Nat → V) : R2 := fun x y H Q => ∃ a b : Nat, x = nV a ∧ y = nV b ∧ C a b ∧ Q (g a b) H
section
variable {X : Cx}
theorem op_andN : OpR X (binaryOp .BitAnd) (rN fun a b => nV (a &&& b)) := by
  intro pins s σ H x y v u Q I rx ry ⟨a, b, e1, e2, q⟩
  refine op_and pins s σ H x y v u Q I rx ry ⟨_, _, e1, e2, ?_⟩
  show Q (V.int (Builtin.bitAnd (a : Int) (b : Int))) H
  rw [PySem.W.os_band]
  exact q
theorem op_orN : OpR X (binaryOp .BitOr) (rN fun a b => nV (a ||| b)) := by
  intro pins s σ H x y v u Q I rx ry ⟨a, b, e1, e2, q⟩
  refine op_or pins s σ H x y v u Q I rx ry ⟨_, _, e1, e2, ?_⟩
  show Q (V.int (Builtin.bitOr (a : Int) (b : Int))) H
  rw [bitOr_nn (Int.natCast_nonneg a) (Int.natCast_nonneg b), Int.toNat_natCast, Int.toNat_natCast]
  exact q
theorem op_xorN : OpR X (binaryOp .BitXor) (rN fun a b => nV (a ^^^ b)) := by
  intro pins s σ H x y v u Q I rx ry ⟨a, b, e1, e2, q⟩
  refine op_xor pins s σ H x y v u Q I rx ry ⟨_, _, e1, e2, ?_⟩
  have e : Builtin.bitXor (a : Int) (b : Int) = ((a ^^^ b : Nat) : Int) := by
    show Builtin.bitOr (a : Int) (b : Int) - Builtin.bitAnd (a : Int) (b : Int) = _
    rw [bitOr_nn (Int.natCast_nonneg a) (Int.natCast_nonneg b), Int.toNat_natCast, Int.toNat_natCast, PySem.W.os_band]
    have := MK.or_and_xor a b
    omega
  show Q (V.int (Builtin.bitXor (a : Int) (b : Int))) H
  rw [e]
  exact q
theorem op_addNN : OpR X (binaryOp .Add) (rN fun a b => nV (a + b)) := by
  intro pins s σ H x y v u Q I rx ry ⟨a, b, e1, e2, q⟩
  refine op_add pins s σ H x y v u Q I rx ry ⟨_, _, e1, e2, ?_⟩
  show Q (V.int ((a : Int) + (b : Int))) H
  rw [← Int.natCast_add]
  exact q
theorem op_subNN : OpR X (binaryOp .Sub) (rNC (fun a b => b ≤ a) fun a b => nV (a - b)) := by
  intro pins s σ H x y v u Q I rx ry ⟨a, b, e1, e2, c, q⟩
  refine op_sub pins s σ H x y v u Q I rx ry ⟨_, _, e1, e2, ?_⟩
  show Q (V.int ((a : Int) - (b : Int))) H
  rw [show (a : Int) - (b : Int) = ((a - b : Nat) : Int) by omega]
  exact q
theorem op_shrNN : OpR X (binaryOp .RShift) (rN fun a b => nV (a >>> b)) := by
  intro pins s σ H x y v u Q I rx ry ⟨a, b, e1, e2, q⟩
  refine op_shr pins s σ H x y v u Q I rx ry ⟨_, _, e1, e2, Int.natCast_nonneg b, ?_⟩
  show Q (V.int ((a : Int) / (2 : Int) ^ (b : Int).toNat)) H
  rw [Int.toNat_natCast, show (a : Int) / (2 : Int) ^ b = ((a >>> b : Nat) : Int) by rw [Nat.shiftRight_eq_div_pow, Int.natCast_ediv, Int.natCast_pow]; rfl]
  exact q
/-- 1 << k -/
theorem op_shlNN : OpR X (binaryOp .LShift) (rNC (fun a b => b ≤ 1000000 ∧ a < 18446744073709551616) fun a b => nV (a * 2 ^ b)) := by
  intro pins s σ H x y v u Q I rx ry ⟨a, b, e1, e2, ⟨c1, c2⟩, q⟩
  refine op_shl pins s σ H x y v u Q I rx ry ⟨_, _, e1, e2, ⟨Int.natCast_nonneg b, by omega, by omega⟩, ?_⟩
  show Q (V.int ((a : Int) * (2 : Int) ^ (b : Int).toNat)) H
  rw [Int.toNat_natCast, show (a : Int) * (2 : Int) ^ b = ((a * 2 ^ b : Nat) : Int) by rw [Int.natCast_mul, Int.natCast_pow]; rfl]
  exact q

/-! ### comprehensions whose turns change nothing that stood -/
variable {K : PySem.W.Frag} {H H1 : Hp} {D : Addr} {σ : St} {k : Nat} {tt : TT} {te : TE} {Qd : Hp → Prop}
theorem paired_snoc {α β : Type} {F : α → β → Prop} {a : List α} {b : List β} {x : α} {y : β} (h : Paired F a b) (r : F x y) : Paired F (a ++ [x]) (b ++ [y]) := paired_append h (.cons r .nil)
theorem same_fresh {H H' : Hp} {p : Addr} {o : HO} (e : Same H H') (h : H p = none) : Same H (upd H' p o) := fun b u q => by
  rw [upd_ne (ne_of_none q h)]
  exact e b u q
theorem same_new {H : Hp} {p : Addr} {o : HO} (h : H p = none) : Same H (upd H p o) := same_fresh (Same.refl H) h
def NotL : HO → Prop
  | .lst _ => False
  | _ => True
/-- all but lists is as it was -/
def SameT (H H' : Hp) : Prop := ∀ b o, H b = some o → NotL o → H' b = some o
theorem sameT_of {H H' : Hp} (e : Same H H') : SameT H H' := fun b o q _ => e b o q
theorem sameT_lst {H : Hp} {D : Addr} {xs ys : List V} (h : H D = some (.lst xs)) : SameT H (upd H D (.lst ys)) := fun b o q n => by
  have nb : b ≠ D := fun z => by
    rw [z, h] at q
    cases q
    exact n
  rw [upd_ne nb]
  exact q
/-- the turns of a comprehension: sel: which are kept; P i y H: y is what turn i makes -/
structure Turns (H : Hp) (σ : St) (k : Nat) (item : Nat → V) (n : Nat) (tt : TT) (te : TE) (sel : Nat → Bool) (P : Nat → V → Hp → Prop) : Prop where
  mono : ∀ i y H H', SameT H H' → P i y H → P i y H'
  test : ∀ i H', i < n → Same H H' → ∀ Q : Bool → Hp → Prop, (∀ H'', Same H' H'' → Q (sel i) H'') → tt ((σ.set k none).set k (some (item i))) H' Q
  elt : ∀ i H', i < n → sel i = true → Same H H' → ∀ Q : VK, (∀ y H'', Same H' H'' → P i y H'' → Q y H'') → te ((σ.set k none).set k (some (item i))) H' Q
variable {item : Nat → V} {n : Nat} {sel : Nat → Bool} {P : Nat → V → Hp → Prop}
def Made (H : Hp) (D : Addr) (sel : Nat → Bool) (P : Nat → V → Hp → Prop) (i : Nat) (H' : Hp) : Prop := Same H H' ∧ ∃ ys, H' D = some (.lst ys) ∧ ys.length ≤ i ∧ Paired (fun y j => P j y H') ys ((List.range i).filter sel)
theorem Turns.go (T : Turns H σ k item n tt te sel P) (hD : H D = none) (hz : n ≤ sizeLine) {i : Nat} {H' : Hp} (hi : i < n) (M : Made H D sel P i H') :
    gName k (item i) (wipe σ [k]) H' fun σ2 H2 => wipe σ2 [k] = wipe σ [k] ∧ tt σ2 H2 fun b H3 =>
      if b = true then te σ2 H3 fun y H4 => ∃ acc, H4 D = some (.lst acc) ∧ acc.length < sizeLine ∧ Made H D sel P (i + 1) (upd H4 D (.lst (acc ++ [y]))) else Made H D sel P (i + 1) H3 := by
  obtain ⟨sm, ys, hd, hl, pr⟩ := M
  show wipe ((σ.set k none).set k (some (item i))) [k] = wipe σ [k] ∧ tt ((σ.set k none).set k (some (item i))) H' _
  refine ⟨by show ((σ.set k none).set k (some (item i))).set k none = σ.set k none; rw [List.set_set, List.set_set], ?_⟩
  refine T.test i H' hi sm _ fun H3 s3 => ?_
  have rs : (List.range (i + 1)).filter sel = (List.range i).filter sel ++ (if sel i = true then [i] else []) := by
    rw [List.range_succ, List.filter_append]
    rw [List.filter_cons, List.filter_nil]
  cases hsel : sel i with
  | true =>
    refine iteT ?_
    refine T.elt i H3 hi hsel (sm.trans s3) _ fun y H4 s4 p => ?_
    refine ⟨ys, s4 _ _ (s3 _ _ hd), by omega, same_fresh ((sm.trans s3).trans s4) hD, ys ++ [y], upd_same, by rw [List.length_append]; show ys.length + 1 ≤ i + 1; omega, ?_⟩
    rw [rs, hsel, if_pos rfl]
    have s5 := sameT_lst (ys := ys ++ [y]) (s4 _ _ (s3 _ _ hd))
    exact paired_snoc (Paired.mapP pr fun y j q => T.mono _ _ _ _ s5 (T.mono _ _ _ _ (sameT_of (s3.trans s4)) q)) (T.mono _ _ _ _ s5 p)
  | false =>
    refine iteF ?_
    exact ⟨sm.trans s3, ys, s3 _ _ hd, by omega, by rw [rs, hsel, if_neg Bool.false_ne_true, List.append_nil]; exact Paired.mapP pr fun y j q => T.mono _ _ _ _ (sameT_of s3) q⟩
theorem Turns.start (hD : H D = none) : Made H D sel P 0 (upd H D (.lst [])) := ⟨same_new hD, [], upd_same, Nat.zero_le _, .nil⟩
theorem lc_rangeT {lo : Int} (T : Turns H σ k (fun i => .int (lo + i)) n tt te sel P) (hD : H D = none) (hz : n ≤ sizeLine) (hd : ∀ H' ys, Same H H' → H' D = some (.lst ys) → ys.length ≤ n → Paired (fun y j => P j y H') ys ((List.range n).filter sel) → Qd H') :
    ∃ W : Nat → Nat → Hp → Prop, (∃ m, W 0 m (upd H D (.lst []))) ∧ ∀ i m H, W i m H →
      ((Itr lo n).stop i H ∧ Qd H) ∨ ((Itr lo n).go i H ∧ ∃ Nx : Hp → Prop, (∀ H', Nx H' → ∃ m', m' < m ∧ W (i + 1) m' H') ∧ ∀ x H', (Itr lo n).yld i H x H' → gName k x (wipe σ [k]) H' fun σ2 H2 => wipe σ2 [k] = wipe σ [k] ∧ tt σ2 H2 fun b H3 =>
        if b = true then te σ2 H3 fun y H4 => ∃ acc, H4 D = some (.lst acc) ∧ acc.length < sizeLine ∧ Nx (upd H4 D (.lst (acc ++ [y]))) else Nx H3) :=
  lc_range (lo := lo) (n := n) (Made H D sel P) (Turns.start hD) (fun i H' hi M => T.go hD hz hi M) fun H' ⟨a, ys, b, c, d⟩ => hd H' ys a b c d
theorem lc_listT {a : Addr} {xs : List V} (hx : SqL K H a xs) (T : Turns H σ k (fun i => xs.getD i .non) xs.length tt te sel P) (hD : H D = none) (hz : xs.length ≤ sizeLine)
    (hd : ∀ H' ys, Same H H' → H' D = some (.lst ys) → ys.length ≤ xs.length → Paired (fun y j => P j y H') ys ((List.range xs.length).filter sel) → Qd H') :
    ∃ W : Nat → Nat → Hp → Prop, (∃ m, W 0 m (upd H D (.lst []))) ∧ ∀ i m H, W i m H →
      ((Itl K a).stop i H ∧ Qd H) ∨ ((Itl K a).go i H ∧ ∃ Nx : Hp → Prop, (∀ H', Nx H' → ∃ m', m' < m ∧ W (i + 1) m' H') ∧ ∀ x H', (Itl K a).yld i H x H' → gName k x (wipe σ [k]) H' fun σ2 H2 => wipe σ2 [k] = wipe σ [k] ∧ tt σ2 H2 fun b H3 =>
        if b = true then te σ2 H3 fun y H4 => ∃ acc, H4 D = some (.lst acc) ∧ acc.length < sizeLine ∧ Nx (upd H4 D (.lst (acc ++ [y]))) else Nx H3) :=
  lc_list (K := K) (a := a) (xs := xs) (Made H D sel P) (Turns.start hD) (fun i H' _ M => M.1.seq hx) (fun i x H' hi M => by
    obtain ⟨hl, e⟩ := List.getElem?_eq_some_iff.mp hi
    have q := T.go hD hz hl M
    rw [List.getD_eq_getElem?_getD, hi] at q
    exact q) fun H' ⟨a, ys, b, c, d⟩ => hd H' ys a b c d
theorem paired_map_eq {α β : Type} {g : β → α} : ∀ {ys : List α} {l : List β}, Paired (fun y j => y = g j) ys l → ys = l.map g
  | _, _, .nil => rfl
  | _, _, .cons r t => by rw [List.map_cons, ← r, ← paired_map_eq t]
theorem filter_yes (n : Nat) : (List.range n).filter (fun _ => true) = List.range n := List.filter_eq_self.mpr fun _ _ => rfl
theorem map_range_get {α : Type} (xs : List α) (d : α) : (List.range xs.length).map (fun i => xs.getD i d) = xs := by
  apply List.ext_getElem
  · rw [List.length_map, List.length_range]
  · intro i h1 h2
    rw [List.getElem_map, List.getElem_range, List.getD_eq_getElem?_getD, List.getElem?_eq_getElem h2]
    rfl
/-! ### sorted by a def, whatever the ranks -/
variable {f : Addr} {fd : FuncData} {ps : List Str} {sp : Sp} {j : Nat}
def rSortedI (K : PySem.W.Frag) (f : Addr) (sp : Sp) : List V → List V → Hp → VK → Prop := fun vs zs H Q => ∃ g : V → Int, rSortedF K f sp g (kInt g) (fun i j => decide (i < j)) vs zs H Q
def rSortedLot (K : PySem.W.Frag) (f : Addr) (sp : Sp) : List V → List V → Hp → VK → Prop := fun vs zs H Q => ∃ g : V → List Int, rSortedF K f sp g (kLot K g) ltLot vs zs H Q
theorem cr_sortedBy (F : FnOk X.prog X.w X.K X.mg X.base CX0 j f fd ps sp) (hb : Binds X.K fd ps []) (hr : Room (j + 8) X.A) : CallRK X (.builtin "sorted") [Str.ofString "key"] (rSortedI X.K f sp) :=
  fun pins s σ H xs zs us ws Q I r rz ⟨g, h⟩ => cr_sortedF F hb hr (key_int g) pins s σ H xs zs us ws Q I r rz h
theorem cr_sortedLot (F : FnOk X.prog X.w X.K X.mg X.base CX0 j f fd ps sp) (hb : Binds X.K fd ps []) (hr : Room (j + 8) X.A) : CallRK X (.builtin "sorted") [Str.ofString "key"] (rSortedLot X.K f sp) :=
  fun pins s σ H xs zs us ws Q I r rz ⟨g, h⟩ => cr_sortedF F hb hr (key_lot g) pins s σ H xs zs us ws Q I r rz h
/-! ### the state that the law's draws hang on -/
structure Dr (H : Hp) (d c : Addr) : Prop where
  ex : ∃ (ns : List Int) (i r z : Int), H d = some (.lst [.ref c, .int i, .int r, .int z]) ∧ H c = some (.lst (ns.map V.int)) ∧ 0 ≤ i ∧ ns.length ≤ 1000
/-- all but the object at d is as it was -/
def Kp (d : Addr) (H H' : Hp) : Prop := ∀ b o, H b = some o → b ≠ d → H' b = some o
theorem Kp.refl (d : Addr) (H : Hp) : Kp d H H := fun _ _ h _ => h
theorem Kp.trans {d : Addr} {H H1 H2 : Hp} (a : Kp d H H1) (b : Kp d H1 H2) : Kp d H H2 := fun c o h n => b c o (a c o h n) n
theorem Kp.of {d : Addr} {H H' : Hp} (e : Same H H') : Kp d H H' := fun b o h _ => e b o h
theorem Kp.new {d p : Addr} {H H' : Hp} {o : HO} (e : Kp d H H') (h : H p = none) : Kp d H (upd H' p o) := fun b u q n => by
  rw [upd_ne (ne_of_none q h)]
  exact e b u q n
theorem Dr.keep {H H' : Hp} {d c : Addr} (D : Dr H d c) (k : Same H H') : Dr H' d c := by
  obtain ⟨ns, i, r, z, h1, h2, h3, h4⟩ := D.ex
  exact ⟨ns, i, r, z, k _ _ h1, k _ _ h2, h3, h4⟩
theorem Dr.ne {H : Hp} {d c p : Addr} (D : Dr H d c) (h : H p = none) : p ≠ d ∧ p ≠ c := by
  obtain ⟨ns, i, r, z, h1, h2, h3, h4⟩ := D.ex
  exact ⟨(ne_of_none h1 h).symm, (ne_of_none h2 h).symm⟩
/-- another object changes -/
theorem Dr.put {H : Hp} {d c p : Addr} {o : HO} (D : Dr H d c) (h1 : p ≠ d) (h2 : p ≠ c) : Dr (upd H p o) d c := by
  obtain ⟨ns, i, r, z, e1, e2, e3, e4⟩ := D.ex
  exact ⟨ns, i, r, z, by rw [upd_ne h1.symm]; exact e1, by rw [upd_ne h2.symm]; exact e2, e3, e4⟩
theorem Dr.cd {H : Hp} {d c : Addr} (D : Dr H d c) : c ≠ d := by
  obtain ⟨ns, i, r, z, hd, hc, _, _⟩ := D.ex
  rintro rfl
  rw [hd] at hc
  injection hc with e
  injection e with e
  cases ns with
  | nil => cases e
  | cons x l => injection e with e _; cases e
end
end L2.KK
namespace L2.KK
open PySem PySem.Spec PyProof.Rows C8
section
variable {P : Program} {w : World} {K : PySem.W.Frag} {mg : Str → Option Value} {base : Heap}
abbrev FnP (K : PySem.W.Frag) (x qual : Str) (st : Stmt) (f : Addr) (fd : FuncData) : Prop := FunD K x qual (defArgs st) (defBody st) (defScope st) [] [] f fd
/-- the def st stands in the module under its name -/
structure FnAt (K : PySem.W.Frag) (mg : Str → Option Value) (x : Str) (st : Stmt) : Prop where
  ex : ∃ f fd, FnP K x x st f fd ∧ mg x = some (.ref f)
theorem calOf {x : Str} {st : Stmt} {N ps : List Str} {sp : Sp} {k : Nat} (D : FnAt K mg x st) (S : FnScope N ps (defScope st))
    (bn : ∀ (kV doc pm : Value) (an : Option Addr) (cdv ct : Value) (us : List Value), us.length = ps.length → bindArgs (PySem.W.fnOf x x (defArgs st) (defBody st) (defScope st) .none kV doc pm an cdv ct) ⟨us, []⟩ = pure (ps.zip us))
    (len : ∀ vs H Q E, sp vs H Q E → vs.length = ps.length)
    (body : ∀ (f : Addr) (cdv : Value) (A : Around) (outer : List Env) (s : Shared) (H : Hp) (vs : List V) (Q : VK) (E : XK), Room k (A.deeper (envOfC x (defScope st) s.heap.objs.size f cdv)) → sp vs H Q E →
      ∃ t, PSs (cxOf CX0 P w K mg base N x (defScope st) f cdv A outer s H E).nox (defBody st) t ∧ t { nx := fun _ H' => Q .non H', rt := Q } (start N vs) H) : Cal P w K mg base (k + 1) x sp [] := by
  obtain ⟨f, fd, F, m⟩ := D.ex
  refine ⟨f, fd, ps, [], ?_, m, F.kp, F.bindsN bn, .nil⟩
  refine F.ok S len fun cdv A outer s H vs Q E hr hsp => ?_
  obtain ⟨t, h, q⟩ := body f cdv A outer s H vs Q E hr hsp
  exact ⟨t, h.nox, q⟩
/-- the parts of a def that is handed on as a key -/
theorem cal_parts {k : Nat} {x : Str} {sp : Sp} (c : Cal P w K mg base k x sp []) : ∃ (f : Addr) (fd : FuncData) (ps : List Str), FnOk P w K mg base CX0 k f fd ps sp ∧ mg x = some (.ref f) ∧ Binds K fd ps [] := by
  obtain ⟨f, fd, ps, ds, F, m, _, b, d⟩ := c.ex
  cases d
  exact ⟨f, fd, ps, F, m, b⟩
end
end L2.KK
/-! rules whose reading names the written part by a letter: they stand within comprehensions too -/
namespace L2.KK
open PySem PySem.Spec PyProof.Rows C8
section
variable (K : PySem.W.Frag) {X : Cx}
def rLenQ (K : PySem.W.Frag) : List V → Hp → VK → Prop := fun xs H Q => ∃ p ys, xs = [.ref p] ∧ (SqL K H p ys ∨ SqT K H p ys) ∧ Q (.int ys.length) H
def rListQ (K : PySem.W.Frag) : List V → Hp → VK → Prop := fun xs H Q => ∃ p ys, xs = [.ref p] ∧ (SqL K H p ys ∨ SqT K H p ys) ∧ ∀ l, H l = none → Q (.ref l) (upd H l (.lst ys))
def rTupQ (K : PySem.W.Frag) : List V → Hp → VK → Prop := fun xs H Q => ∃ p ys, xs = [.ref p] ∧ ((SqL K H p ys ∧ ∀ l, H l = none → Q (.ref l) (upd H l (.tup ys))) ∨ (SqT K H p ys ∧ Q (.ref p) H))
def tTruQ (K : PySem.W.Frag) (ta : TE) : TT := fun σ H Q => ta σ H fun x H' => ∃ k, TruV K x H' k ∧ Q k H'
theorem ixL (h : X.K = K := by rfl) : IxR X (rIxL K) := by subst h; exact ix_list
theorem ixT (h : X.K = K := by rfl) : IxR X (rIxT K) := by subst h; exact ix_tup
theorem eqD (hu : X.A.units + 64 < cLine) (h : X.K = K := by rfl) : OpR X (compareOp .Eq) (rEqD K) := by subst h; exact op_eqD hu
theorem neD (hu : X.A.units + 64 < cLine) (h : X.K = K := by rfl) : OpR X (compareOp .NotEq) (rNeD K) := by subst h; exact op_neD hu
theorem inSeq (h : X.K = K := by rfl) : OpR X (compareOp .In) (rIn K false) := by subst h; exact op_in_seq
theorem notInSeq (h : X.K = K := by rfl) : OpR X (compareOp .NotIn) (rIn K true) := by subst h; exact op_notIn_seq
theorem catA (h : X.K = K := by rfl) : OpR X (binaryOp .Add) (rCatA K) := by subst h; exact op_catA
theorem slL (h : X.K = K := by rfl) : SlR X (rSlL K) := by subst h; exact sl_list
theorem slT (h : X.K = K := by rfl) : SlR X (rSlA K) := by subst h; exact sl_tupA
theorem crLen (h : X.K = K := by rfl) : CallR X (.builtin "len") (rLenQ K) := by subst h; exact call_len_seq
theorem crList (h : X.K = K := by rfl) : CallR X (.type "list") (rListQ K) := by subst h; exact call_list_of
theorem crTup (h : X.K = K := by rfl) : CallR X (.type "tuple") (rTupQ K) := by subst h; exact call_tuple_of
theorem crSum (h : X.K = K := by rfl) (hc : X.calm = true := by rfl) : CallR X (.builtin "sum") (rSum K) := by subst h; exact cr_sum hc
theorem crMax (h : X.K = K := by rfl) (hc : X.calm = true := by rfl) : CallR X (.builtin "max") (rMax K) := by subst h; exact cr_max hc
theorem crMin (h : X.K = K := by rfl) (hc : X.calm = true := by rfl) : CallR X (.builtin "min") (rMin K) := by subst h; exact cr_min hc
theorem crAny (h : X.K = K := by rfl) (hc : X.calm = true := by rfl) : CallR X (.builtin "any") (rAny K) := by subst h; exact cr_any hc
theorem crAll (h : X.K = K := by rfl) (hc : X.calm = true := by rfl) : CallR X (.builtin "all") (rAll K) := by subst h; exact cr_all hc
theorem crSortI (h : X.K = K := by rfl) : CallR X (.builtin "sorted") (L2.rSortedI K) := by subst h; exact cr_sortedI
theorem crSortP (h : X.K = K := by rfl) : CallR X (.builtin "sorted") (rSortedPO K) := by subst h; exact cr_sortedPO
theorem crIsi (h : X.K = K := by rfl) : CallR X (.builtin "isinstance") (rIsi K) := by subst h; exact call_isi
theorem crSetL (h : X.K = K := by rfl) (hc : X.calm = true := by rfl) : CallR X (.type "set") (rSetL K X.w) := by subst h; exact cr_setL hc
variable {f : Addr} {fd : FuncData} {ps : List Str} {sp : Sp} {j : Nat}
theorem crSortBy (F : FnOk X.prog X.w X.K X.mg X.base CX0 j f fd ps sp) (hb : Binds X.K fd ps []) (hr : Room (j + 8) X.A) (h : X.K = K := by rfl) : CallRK X (.builtin "sorted") [Str.ofString "key"] (rSortedI K f sp) := by subst h; exact cr_sortedBy F hb hr
theorem crSortLot (F : FnOk X.prog X.w X.K X.mg X.base CX0 j f fd ps sp) (hb : Binds X.K fd ps []) (hr : Room (j + 8) X.A) (h : X.K = K := by rfl) : CallRK X (.builtin "sorted") [Str.ofString "key"] (rSortedLot K f sp) := by subst h; exact cr_sortedLot F hb hr
variable {e o : Expr} {es : List Expr} {ta to : TE} {t : TA} {pos apos cpos p : Pos} {name : Str} {T id : String} {r : V → List V → Hp → VK → Prop}
theorem ptTru (ha : PE X e ta) (he : ∀ whole, isTrue e X.env whole = (do let v ← whole; standAt e.pos; holding [v] (truthy v)) := by intro _; rfl) (h : X.K = K := by rfl) : PT X e (tTruQ K ta) := by subst h; exact pt_truth ha he
theorem peFld (ha : PE X e ta) {f : Str} (hb : attributeBase e f X.env (eval e X.env) = eval e X.env := by rfl) (h : X.K = K := by rfl) : PE X (.Attribute e f pos) (tFld K ta f) := by subst h; exact pe_fld ha hb
theorem peBm (pa : PlainAttrs T) (slot : Slot T name id) (hty : typeOf (.builtin id) = pure (.type "method_descriptor")) (hm : MtR X id r) (ho : PE X o to) (ha : PA X (e :: es) t)
    (hx : PA X (e :: es) t → PE X o to → PE X (.Call (.Attribute o name apos) (e :: es) [] cpos) (tBM X.K T r to t)) (h : X.K = K := by rfl) : PE X (.Call (.Attribute o name apos) (e :: es) [] cpos) (tBM K T r to t) := by
  subst h
  exact hx ha ho
theorem piList (ha : PE X e ta) {tg : Expr} (h : X.K = K := by rfl) : PI X tg e (iList K ta) := by subst h; exact pi_list ha
theorem piTup (ha : PE X e ta) {tg : Expr} (h : X.K = K := by rfl) : PI X tg e (iTup K ta) := by subst h; exact pi_tup ha
theorem pgTup {es : List Expr} {k : Nat} {t : TGs} {n : Nat} (hc : X.calm = true) (hp : PGs X es t) (hn : (assignEach es X.env).length = n := by rfl) (hst : (assignEach es X.env).findIdx? (·.1) = none := by rfl) (h : X.K = K := by rfl) : PG X (.Tuple es k pos) (gTup K n t) := by
  subst h
  exact pg_tup hc hp hn hst
theorem getL (h : X.K = K := by rfl) : PGet X (rGetL K) := by subst h; exact get_list
end
end L2.KK
namespace L2.KK
open PySem PySem.Spec PyProof.Rows C8
section
variable {P : Program} {w : World} {K : PySem.W.Frag} {mg : Str → Option Value} {base : Heap}
/-- calOf for the def that the statement calls: its function object is known -/
theorem okOf {x : Str} {st : Stmt} {N ps : List Str} {sp : Sp} {k : Nat} {f : Addr} {fd : FuncData} (F : FnP K x x st f fd) (S : FnScope N ps (defScope st))
    (len : ∀ vs H Q E, sp vs H Q E → vs.length = ps.length)
    (body : ∀ (f : Addr) (cdv : Value) (A : Around) (outer : List Env) (s : Shared) (H : Hp) (vs : List V) (Q : VK) (E : XK), Room k (A.deeper (envOfC x (defScope st) s.heap.objs.size f cdv)) → sp vs H Q E →
      ∃ t, PSs (cxOf CX0 P w K mg base N x (defScope st) f cdv A outer s H E).nox (defBody st) t ∧ t { nx := fun _ H' => Q .non H', rt := Q } (start N vs) H) : FnOk P w K mg base CX0 (k + 1) f fd ps sp := by
  refine F.ok S len fun cdv A outer s H vs Q E hr hsp => ?_
  obtain ⟨t, h, q⟩ := body f cdv A outer s H vs Q E hr hsp
  exact ⟨t, h.nox, q⟩
end
end L2.KK
/-! own exceptions with an own __init__ that calls its base's; own == of instances; facts of one's own in the head -/
namespace L2.KK
open PySem PySem.Spec PyProof.Rows C8
section
variable {P : Program} {w : World} {K : PySem.W.Frag} {mg : Str → Option Value} {base : Heap}
/-! ### defs that may let an exception out -/
structure CalX (P : Program) (w : World) (K : PySem.W.Frag) (mg : Str → Option Value) (base : Heap) (k : Nat) (x : Str) (sp : Sp) : Prop where
  ex : ∃ (f : Addr) (fd : FuncData) (ps : List Str), FnOk P w K mg base (L2.CX P w) k f fd ps sp ∧ mg x = some (.ref f) ∧ PySem.W.keepIn K (.ref f) = true ∧ Binds K fd ps []
theorem fnok_calm {k : Nat} {f : Addr} {fd : FuncData} {ps : List Str} {sp : Sp} (F : FnOk P w K mg base (L2.CX P w) k f fd ps sp) : FnOk P w K mg base CX0 k f fd ps (fun vs H Q _ => sp vs H Q E0) :=
  ⟨fun vs H Q E h => F.len vs H Q E0 h, fun A outer s H args us vs Q E hr he hb hv hs => codeAny_mono (F.run A outer s H args us vs Q E0 hr he hb hv hs) fun r s' h => by
    cases r with
    | ok fl => cases fl <;> exact h
    | error e =>
      obtain ⟨_, _, _, _, _, _, _, _, _, _, _, _, z⟩ := h
      exact z.elim⟩
theorem CalX.calm {k : Nat} {x : Str} {sp : Sp} (c : CalX P w K mg base k x sp) : Cal P w K mg base k x (fun vs H Q _ => sp vs H Q E0) [] := by
  obtain ⟨f, fd, ps, F, m, kp, b⟩ := c.ex
  exact ⟨f, fd, ps, [], fnok_calm F, m, kp, b, .nil⟩
theorem Cal.weak {k : Nat} {x : Str} {sp sp' : Sp} (c : Cal P w K mg base k x sp []) (h : ∀ vs H Q E, sp' vs H Q E → sp vs H Q E) : Cal P w K mg base k x sp' [] := by
  obtain ⟨f, fd, ps, ds, F, m, kp, b, d⟩ := c.ex
  exact ⟨f, fd, ps, ds, F.imp h, m, kp, b, d⟩
theorem calOfX {x : Str} {st : Stmt} {N ps : List Str} {sp : Sp} {k : Nat} (D : FnAt K mg x st) (S : FnScope N ps (defScope st))
    (bn : ∀ (kV doc pm : Value) (an : Option Addr) (cdv ct : Value) (us : List Value), us.length = ps.length → bindArgs (PySem.W.fnOf x x (defArgs st) (defBody st) (defScope st) .none kV doc pm an cdv ct) ⟨us, []⟩ = pure (ps.zip us))
    (len : ∀ vs H Q E, sp vs H Q E → vs.length = ps.length)
    (body : ∀ (f : Addr) (cdv : Value) (A : Around) (outer : List Env) (s : Shared) (H : Hp) (vs : List V) (Q : VK) (E : XK), Room k (A.deeper (envOfC x (defScope st) s.heap.objs.size f cdv)) → sp vs H Q E →
      ∃ t, PSs (cxOf (L2.CX P w) P w K mg base N x (defScope st) f cdv A outer s H E) (defBody st) t ∧ t { nx := fun _ H' => Q .non H', rt := Q } (start N vs) H) : CalX P w K mg base (k + 1) x sp := by
  obtain ⟨f, fd, F, m⟩ := D.ex
  refine ⟨f, fd, ps, ?_, m, F.kp, F.bindsN bn⟩
  exact F.ok S len fun cdv A outer s H vs Q E hr hsp => body f cdv A outer s H vs Q E hr hsp
/-! ### methods -/
/-- the method m of the class named c stands under its qualified name -/
structure MtAt (K : PySem.W.Frag) (C : Addr) (m q : Str) (st : Stmt) : Prop where
  ex : ∃ f fd, FnP K m q st f fd ∧ Meth K C m f
structure InAt (K : PySem.W.Frag) (C : Addr) (q : Str) (st : Stmt) : Prop where
  ex : ∃ f fd, FnP K "__init__" q st f fd ∧ Mk K C f
theorem metOf {m q : Str} {C : Addr} {st : Stmt} {N ps : List Str} {sp : Sp} {k : Nat} (c : Cls K C) (D : MtAt K C m q st) (S : FnScope N ps (defScope st))
    (bn : ∀ (kV doc pm : Value) (an : Option Addr) (cdv ct : Value) (us : List Value), us.length = ps.length → bindArgs (PySem.W.fnOf m q (defArgs st) (defBody st) (defScope st) .none kV doc pm an cdv ct) ⟨us, []⟩ = pure (ps.zip us))
    (len : ∀ vs H Q E, sp vs H Q E → vs.length = ps.length)
    (body : ∀ (f : Addr) (cdv : Value) (A : Around) (outer : List Env) (s : Shared) (H : Hp) (vs : List V) (Q : VK) (E : XK), Room k (A.deeper (envOfC q (defScope st) s.heap.objs.size f cdv)) → sp vs H Q E →
      ∃ t, PSs (cxOf CX0 P w K mg base N q (defScope st) f cdv A outer s H E).nox (defBody st) t ∧ t { nx := fun _ H' => Q .non H', rt := Q } (start N vs) H) : Met P w K mg base (k + 1) C m sp [] := by
  obtain ⟨f, fd, F, me⟩ := D.ex
  refine ⟨f, fd, ps, [], c, me, ?_, F.bindsN bn, .nil⟩
  refine F.ok S len fun cdv A outer s H vs Q E hr hsp => ?_
  obtain ⟨t, h, q⟩ := body f cdv A outer s H vs Q E hr hsp
  exact ⟨t, h.nox, q⟩
theorem makOf {x q : Str} {C : Addr} {st : Stmt} {N ps : List Str} {sp : Sp} {k : Nat} (hm : mg x = some (.ref C)) (D : InAt K C q st) (S : FnScope N ps (defScope st))
    (bn : ∀ (kV doc pm : Value) (an : Option Addr) (cdv ct : Value) (us : List Value), us.length = ps.length → bindArgs (PySem.W.fnOf "__init__" q (defArgs st) (defBody st) (defScope st) .none kV doc pm an cdv ct) ⟨us, []⟩ = pure (ps.zip us))
    (len : ∀ vs H Q E, sp vs H Q E → vs.length = ps.length)
    (body : ∀ (f : Addr) (cdv : Value) (A : Around) (outer : List Env) (s : Shared) (H : Hp) (vs : List V) (Q : VK) (E : XK), Room k (A.deeper (envOfC q (defScope st) s.heap.objs.size f cdv)) → sp vs H Q E →
      ∃ t, PSs (cxOf CX0 P w K mg base N q (defScope st) f cdv A outer s H E).nox (defBody st) t ∧ t { nx := fun _ H' => Q .non H', rt := Q } (start N vs) H) : Mak P w K mg base (k + 1) x C sp [] := by
  obtain ⟨f, fd, F, me⟩ := D.ex
  refine ⟨f, fd, ps, [], me, ?_, hm, F.bindsN bn, .nil⟩
  refine F.ok S len fun cdv A outer s H vs Q E hr hsp => ?_
  obtain ⟨t, h, q⟩ := body f cdv A outer s H vs Q E hr hsp
  exact ⟨t, h.nox, q⟩
/-! ### own exceptions -/
/-- what the written part says of an own exception class with an own __init__ (its def at fI) -/
structure OwnX (K : PySem.W.Frag) (C fI : Addr) : Prop where
  oex : OexC K C
  init : PySem.W.findIn K (.ref C) "__init__" = some (some (.ref fI))
  ty : PySem.W.typeIn K (.ref fI) = some (.type "function")
  xf : XfC K C
/-- a base whose __init__ is ValueError's -/
structure BaseX (K : PySem.W.Frag) (C : Addr) : Prop where
  rd : ClX.CRead K C (.type "type")
  at_ : PySem.W.findCls K (.ref C) (.type "type") "__init__" = some (.val (.builtin "ValueError.__init__"))
end
section
variable {X : Cx} {e : Expr} {es : List Expr} {ta : TA} {p1 p2 pos : Pos} {B x : Str} {C0 C fI : Addr}
/-- Base.__init__(self, ..), Base an own class over ValueError -/
theorem pe_pinit {pl : Sem Bool} (T : BaseX X.K C0) (hm : X.mg B = some (.ref C0)) (hg : Gl X B) (ha : PA X (e :: es) ta)
    (hc : eval (.Call (.Attribute (.Name B p1) "__init__" p2) (e :: es) [] pos) X.env = (do
      let ov ← eval (.Name B p1) X.env
      standAt p2.atName
      let (f, first) ← holding [ov] (getMethod ov "__init__" pl)
      callWith pos f first (backTo pos (starEach (e :: es) X.env)) (backToKw pos (keywordEach [] X.env))) := by rfl) (hdb : (B == ("__debug__" : Str)) = false := by decide)
    (he : starEach (e :: es) X.env = (false, eval e X.env) :: starEach es X.env := by rfl) (hpl : (backTo pos (starEach es X.env)).any (·.1) = false := by rfl) :
    PE X (.Call (.Attribute (.Name B p1) "__init__" p2) (e :: es) [] pos) (tVeI X.K ta) := by
  refine ⟨fun pins s σ H Q I h => ?_⟩
  refine PySem.W.methodCall_KW (ld_glob I hg hm ?_ hdb) hc
  refine PySem.W.method_cls I.kIn T.rd.ga (PySem.W.cls_value I.kIn T.rd.rd T.at_ (by decide +kernel) ?_)
  show wpAny _ _ (callWith pos (Value.builtin "ValueError.__init__") [] (backTo pos (starEach (e :: es) X.env)) []) _ _ _
  refine PyProof.Rows.callWith_method1 (thn (ha.run pos pins _ σ H _ (I.tok _) h) fun us s1 ⟨vs, H1, I1, r1, a, C, ws, ev, hl, T, ea, q⟩ => ?_) he hpl
  subst ev
  cases r1 with
  | @cons _ u0 _ ur ra rw' =>
    obtain rfl : u0 = Value.ref a := ra
    have hlen : ur.length ≤ sizeLine := by
      rw [← Paired.length rw', sizeLine_eq]
      omega
    exact oinit_ok T I1 ea hlen fun s' J => ⟨.non, H1, J, rfl, q⟩
/-- a call that may let an exception out -/
theorem pe_cx {k j : Nat} {sp : Sp} {W : WX} (c : CalX X.prog X.w X.K X.mg X.base k x sp) (hr : Room j X.A) (hk : k ≤ j) (hg : Gl X x) (tk : Takes X W) (ha : PA X (e :: es) ta)
    (hdb : (x == ("__debug__" : Str)) = false := by decide) (he : starEach (e :: es) X.env = (false, eval e X.env) :: starEach es X.env := by rfl) (hpl : (backTo pos (starEach es X.env)).any (·.1) = false := by rfl) :
    PE X (.Call (.Name x p1) (e :: es) [] pos) (tCallS sp (WE W) ta) := by
  obtain ⟨f, fd, ps, F, m, kp, b⟩ := c.ex
  exact pe_callS F (hr.mono hk) hg m kp b (fun σ => passAt tk σ) ha hdb he hpl
/-- an own exception made: its __init__ keeps sp -/
structure MakX (P : Program) (w : World) (K : PySem.W.Frag) (mg : Str → Option Value) (base : Heap) (k : Nat) (x : Str) (C : Addr) (sp : Sp) : Prop where
  ex : ∃ (f : Addr) (fd : FuncData) (ps : List Str), OwnX K C f ∧ FnOk P w K mg base CX0 k f fd ps sp ∧ mg x = some (.ref C) ∧ Binds K fd ps []
theorem pmk_x {k j : Nat} {sp : Sp} (M : MakX X.prog X.w X.K X.mg X.base k x C sp) (hr : Room j X.A) (hk : k + 1 ≤ j) (hg : Gl X x) (ha : PA X (e :: es) ta)
    (hdb : (x == ("__debug__" : Str)) = false := by decide) (he : starEach (e :: es) X.env = (false, eval e X.env) :: starEach es X.env := by rfl) (hpl : (backTo pos (starEach es X.env)).any (·.1) = false := by rfl) :
    PMk X (.Call (.Name x p1) (e :: es) [] pos) (tMkO C sp [] ta) := by
  obtain ⟨f, fd, ps, T, F, m, b⟩ := M.ex
  exact pmk_oex T.oex T.init T.ty F (hr.mono hk) b .nil pass0 hg m ha hdb he hpl
/-- raise Own(..), out of the def -/
theorem ps_rx {k j : Nat} {sp : Sp} {W : WX} (M : MakX X.prog X.w X.K X.mg X.base k x C sp) (hr : Room j X.A) (hk : k + 1 ≤ j) (hg : Gl X x) (hc : X.calm = true) (tk : Takes X W) (ha : PA X (e :: es) ta)
    (hdb : (x == ("__debug__" : Str)) = false := by decide) (he : starEach (e :: es) X.env = (false, eval e X.env) :: starEach es X.env := by rfl) (hpl : (backTo pos (starEach es X.env)).any (·.1) = false := by rfl) :
    PS X (.Raise (some (.Call (.Name x p1) (e :: es) [] pos)) none p2) (fun _ σ H => tMkO C sp [] ta σ H fun cls d H' => W cls d σ H') :=
  ps_raise hc tk (pmk_x M hr hk hg ha hdb he hpl)
end
section
variable {P : Program} {w : World} {K : PySem.W.Frag} {mg : Str → Option Value} {base : Heap}
theorem makXOf {x q : Str} {C f : Addr} {st : Stmt} {N ps : List Str} {sp : Sp} {k : Nat} (hm : mg x = some (.ref C)) (O : OwnX K C f) (D : ∃ fd, FnP K "__init__" q st f fd) (S : FnScope N ps (defScope st))
    (bn : ∀ (kV doc pm : Value) (an : Option Addr) (cdv ct : Value) (us : List Value), us.length = ps.length → bindArgs (PySem.W.fnOf "__init__" q (defArgs st) (defBody st) (defScope st) .none kV doc pm an cdv ct) ⟨us, []⟩ = pure (ps.zip us))
    (len : ∀ vs H Q E, sp vs H Q E → vs.length = ps.length)
    (body : ∀ (f : Addr) (cdv : Value) (A : Around) (outer : List Env) (s : Shared) (H : Hp) (vs : List V) (Q : VK) (E : XK), Room k (A.deeper (envOfC q (defScope st) s.heap.objs.size f cdv)) → sp vs H Q E →
      ∃ t, PSs (cxOf CX0 P w K mg base N q (defScope st) f cdv A outer s H E).nox (defBody st) t ∧ t { nx := fun _ H' => Q .non H', rt := Q } (start N vs) H) : MakX P w K mg base (k + 1) x C sp := by
  obtain ⟨fd, F⟩ := D
  refine ⟨f, fd, ps, O, ?_, hm, F.bindsN bn⟩
  refine F.ok S len fun cdv A outer s H vs Q E hr hsp => ?_
  obtain ⟨t, h, q⟩ := body f cdv A outer s H vs Q E hr hsp
  exact ⟨t, h.nox, q⟩
/-- __init__(self, x): the base's, then one field -/
def spX1 (K : PySem.W.Frag) (C : Addr) (fld : Str) : Sp := fun vs H Q _ => ∃ (a : Addr) (v : V), vs = [.ref a, v] ∧ H a = some (exo a C none) ∧ ∀ dx, H dx = none → dx ≠ a → Q .non (upd (upd H dx (exd dx [(fld, v)])) a (exo a C (some dx)))
/-- what such an exception leaves -/
theorem mkO_1 {C : Addr} {fld : Str} {H : Hp} {v : V} {Q : XK} (k : ∀ (d : Addr) (H' : Hp), Same H H' → H d = none → H' d = some (.xd [(fld, v)]) → Q (.ref C) (some d) H') : ∀ a, H a = none → spX1 K C fld (.ref a :: ([v] ++ [])) (upd H a (exo a C none))
    (fun u H2 => u = .non ∧ ∃ (d : Addr) (fs : List (Str × V)), H2 a = some (exo a C (some d)) ∧ H2 d = some (exd d fs) ∧ H d = none ∧ Q (.ref C) (some d) (upd (del H2 a) d (.xd fs))) (fun _ _ _ => False) := fun a ha => by
  refine ⟨a, v, rfl, upd_same, fun dx hd ne => ⟨rfl, dx, [(fld, v)], upd_same, by rw [upd_ne ne, upd_same], ?_, ?_⟩⟩
  · rw [upd_ne ne] at hd
    exact hd
  · rw [upd_ne ne] at hd
    refine k dx _ (fun b o e => ?_) hd upd_same
    have n1 : b ≠ dx := ne_of_none e hd
    have n2 : b ≠ a := ne_of_none e ha
    rw [upd_ne n1, del_ne n2, upd_ne n2, upd_ne n1, upd_ne n2]
    exact e
end
section
variable {X : Cx} {e : Expr} {es : List Expr} {ta : TA} {p1 p2 pos : Pos} {B x : Str} {C0 C fI : Addr}
/-! ### own == -/
theorem rel_bl {v : V} {u : Value} {k : Bool} (e : v = .bl k) (r : RelV v u) : u = .bool k := by
  subst e
  exact r
theorem op_eqOwn {n : Nat} {f : Addr} {fd : FuncData} {ps : List Str} {sp : Sp} (F : FnOk X.prog X.w X.K X.mg X.base CX0 n f fd ps sp) (me : Meth X.K C "__eq__" f) (hb : Binds X.K fd ps []) (hr : Room n X.A) (hu : X.A.units < cLine) :
    OpR X (compareOp .Eq) (fun x y H Q => ∃ a b dx dy fs gs, x = .ref a ∧ y = .ref b ∧ H a = some (.ins C dx fs) ∧ H b = some (.ins C dy gs) ∧ sp [.ref a, .ref b] H (fun v H' => ∃ k, v = .bl k ∧ Q v H') E0) := by
  intro pins s σ H x y v u Q I rx ry h
  obtain ⟨a, b, dx, dy, fs, gs, rfl, rfl, ha, hb', hsp⟩ := h
  cases rx
  cases ry
  obtain ⟨mA, J, _⟩ := ins_get I.hok ha
  obtain ⟨mB, J', _⟩ := ins_get I.hok hb'
  obtain ⟨od, J, _⟩ := J.look
  obtain ⟨od', J', _⟩ := J'.look
  obtain ⟨m, hF⟩ := I.fr
  show wpAny (model X.prog X.w) X.A (richCompare .Eq (.ref a) (.ref b)) (EP X pins σ Q) X.xe s
  refine PySem.W.cmp_K (op := .Eq) (tb := .ref C) hu hF I.ok.mod.kin J J'.type (by simp [PySem.W.notFirst]) me.at_ me.fn ?_
  have hl := F.len _ _ _ _ hsp
  have r2 : Vals [V.ref a, V.ref b] [Value.ref a, Value.ref b] := .cons rfl (.cons rfl .nil)
  have z := run_fn (Q := fun v H' => ∃ k, v = V.bl k ∧ Q v H') F hr hb (dvs := []) Paired.nil (E := E0) pass0 I r2 (by simpa using hsp)
  refine wpAny_mono z (fun r s' q => ?_) fun _ _ x => x
  obtain ⟨v, H', I', rv, k, ev, q⟩ := q
  subst ev
  have er : r = .bool k := rv
  subst er
  exact ⟨.bl k, H', I', rfl, q⟩
end
/-! ### facts of one's own -/
def eqOV (a b : Option (Option Value)) : Bool := decide (a = b)
def oexB (K : PySem.W.Frag) (C : Addr) : Bool := (match K.lookup C with
  | some ⟨.type t, _, .cls cd, ⟨[_, _, _, _, some (.builtin n), _]⟩⟩ => decide (t = "type") && (decide (n = "ValueError.__new__") && (cd.hasDict && (!cd.hasDel && (match cd.mro with
    | .ref C' :: bm => decide (C' = C) && PySem.HandSPX.refsVE bm
    | _ => false))))
  | _ => false) && (eqOV (PySem.W.findIn K (.ref C) "__setattr__") (some (some (.builtin "object.__setattr__"))) && (decide (PySem.W.subIn K (.ref C) (.type "BaseException") = some true) && (decide (PySem.W.typeIn K (.ref C) = some (.type "type")) && PySem.W.keepIn K (.ref C))))
theorem oexB_ok {K : PySem.W.Frag} {C : Addr} (h : oexB K C = true) : OexC K C := by
  obtain ⟨h1, h⟩ := He.ba h
  obtain ⟨h2, h⟩ := He.ba h
  obtain ⟨h3, h⟩ := He.ba h
  obtain ⟨h4, h5⟩ := He.ba h
  refine ⟨?_, of_decide_eq_true h2, of_decide_eq_true h3, of_decide_eq_true h4, h5⟩
  split at h1
  · rename_i t dd cd k0 k1 k2 k3 n k5 e
    obtain ⟨g1, h1⟩ := He.ba h1
    obtain ⟨g2, h1⟩ := He.ba h1
    obtain ⟨g3, h1⟩ := He.ba h1
    obtain ⟨g4, h1⟩ := He.ba h1
    obtain ⟨nm, bs, mro, ns, qn, hd, sn, sub, ab, col, del⟩ := cd
    dsimp only at g3 g4 h1
    cases mro with
    | nil => cases h1
    | cons c0 bm =>
      cases c0 with
      | ref C' =>
        obtain ⟨g5, g6⟩ := He.ba h1
        have a1 : t = "type" := of_decide_eq_true g1
        have a2 : n = "ValueError.__new__" := of_decide_eq_true g2
        have a3 : C' = C := of_decide_eq_true g5
        have a4 : del = false := by simpa using g4
        subst a1 a2 a3 a4 g3
        exact ⟨nm, qn, ns, bs, bm, sn, sub, ab, col, dd, k0, k1, k2, k3, k5, e, g6⟩
      | _ => cases h1
  · cases h1
def ownB (x : Str) (K : PySem.W.Frag) : Bool := oexB K (He.ga K x) && (eqOV (PySem.W.findIn K (.ref (He.ga K x)) "__init__") (some (some (.ref (He.ma K (He.ga K x) "__init__")))) && (decide (PySem.W.typeIn K (.ref (He.ma K (He.ga K x) "__init__")) = some (.type "function")) && xfB K (He.ga K x)))
theorem ownB_ok {K : PySem.W.Frag} {x : Str} (h : ownB x K = true) : OwnX K (He.ga K x) (He.ma K (He.ga K x) "__init__") := by
  obtain ⟨h1, h⟩ := He.ba h
  obtain ⟨h2, h⟩ := He.ba h
  obtain ⟨h3, h4⟩ := He.ba h
  exact ⟨oexB_ok h1, of_decide_eq_true h2, of_decide_eq_true h3, xfB_ok h4⟩
def basB (x : Str) (K : PySem.W.Frag) : Bool := PySem.W.readsIn K (He.ga K x) (.type "type") && (eqOV (PySem.W.specialIn K (.ref (He.ga K x)) "__getattribute__") (some (some (.builtin "type.__getattribute__"))) && (match PySem.W.findCls K (.ref (He.ga K x)) (.type "type") "__init__" with
  | some (.val (.builtin n)) => decide (n = "ValueError.__init__")
  | _ => false))
theorem basB_ok {K : PySem.W.Frag} {x : Str} (h : basB x K = true) : BaseX K (He.ga K x) := by
  obtain ⟨h1, h⟩ := He.ba h
  obtain ⟨h2, h3⟩ := He.ba h
  refine ⟨⟨h1, of_decide_eq_true h2⟩, ?_⟩
  split at h3
  · rename_i n e
    have a : n = "ValueError.__init__" := of_decide_eq_true h3
    rw [e, a]
  · cases h3
/-- isinstance(instance of x, y) -/
def isiB (x y : Str) (b : Bool) (K : PySem.W.Frag) : Bool := decide (PySem.W.kitOne K (.ref (He.ga K x)) (.ref (He.ga K y)) = some b)
def tyiB (t : String) (y : Str) (b : Bool) (K : PySem.W.Frag) : Bool := decide (PySem.W.kitOne K (.type t) (.ref (He.ga K y)) = some b)
def frK (n : Nat) (g : Addr → Option Obj) : PySem.W.Frag := He.frG g (cStatics :: He.asD g n)
abbrev AlK : Type := He.AlD × List Bool
def obsK (n : Nat) (fa : List He.Fa) (fn : List He.DefD) (my : List (PySem.W.Frag → Bool)) (g : Addr → Option Obj) : AlK := (He.obsD fa fn (frK n g), my.map fun f => f (frK n g))
def SaysK (fa : List He.Fa) (fn : List He.DefD) (my : List (PySem.W.Frag → Bool)) (K : PySem.W.Frag) : Prop := He.SaysD fa fn K ∧ my.map (fun f => f K) = my.map fun _ => true
theorem SaysK.own {fa : List He.Fa} {fn : List He.DefD} {my : List (PySem.W.Frag → Bool)} {K : PySem.W.Frag} (c : SaysK fa fn my K) (i : Nat) {f : PySem.W.Frag → Bool} (h : my[i]? = some f := by rfl) : f K = true := by
  have q : (my.map fun f => f K)[i]? = (my.map fun _ => true)[i]? := by rw [c.2]
  rw [List.getElem?_map, List.getElem?_map, h] at q
  exact Option.some.inj q
def hookK (n : Nat) (fa : List He.Fa) (fn : List He.DefD) (my : List (PySem.W.Frag → Bool)) : PySem.W.Hook where
  α := AlK
  obs := fun s => obsK n fa fn my s.heap.get?
  val := fun _ => (He.valD fn, my.map fun _ => true)
  says := fun _ h => ∃ K : PySem.W.Frag, K.In h ∧ SaysK fa fn my K
  of := fun _ s e => ⟨frK n s.heap.get?, He.frG_in, congrArg Prod.fst e, congrArg Prod.snd e⟩
  keeps := fun _ _ _ ⟨K, hK, c⟩ k => ⟨K, PySem.W.Frag.In.keeps hK k, c⟩
theorem obsK_eq {n : Nat} {fa : List He.Fa} {fn : List He.DefD} {my : List (PySem.W.Frag → Bool)} {g : Addr → Option Obj} {s : Shared} (h : ∀ a, g a = s.heap.get? a) : obsK n fa fn my g = (hookK n fa fn my).obs s := by
  have e : g = s.heap.get? := funext h
  rw [e]
  rfl
end L2.KK
/-! tuple.index of flat values -/
namespace L2.KK
open PySem PySem.Spec PyProof.Rows C8
def rTupIdx (K : PySem.W.Frag) : V → List V → Hp → VK → Prop := fun x xs H Q => ∃ (p : Addr) (ys : List V) (y : V) (j : Nat) (z : V), x = V.ref p ∧ xs = [y] ∧ SqT K H p ys ∧ flatV y = true ∧ ys.all flatV = true ∧ ys[j]? = some z ∧ eqV z y = true ∧
  (∀ (m : Nat) (z' : V), m < j → ys[m]? = some z' → eqV z' y = false) ∧ Q (.int (j : Nat)) H
theorem mtTupIdx {X : Cx} (K : PySem.W.Frag) (hK : X.K = K := by rfl) : MtR X "tuple.index" (rTupIdx K) := by
  subst hK
  intro pins s σ H x xs v us Q I rx rxs h
  obtain ⟨p, ys, y, j, z, rfl, rfl, hs, fy, fys, hz, hzj, hno, q⟩ := h
  cases rx
  cases rxs with
  | cons ry rt =>
    rename_i uy ut
    cases rt
    obtain ⟨its, rv, pl, hlen⟩ := I.tuple hs
    obtain ⟨⟨cls, dd, dt, sl⟩, ho, hc, n, hd⟩ := pl
    simp only at hc hd
    subst hc hd
    have all : ∀ (m : Nat) (hm : m < its.toArray.size), ∃ z', ys[m]? = some z' ∧ eqU y its.toArray[m] = eqV z' y := fun m hm => by
      have hml : m < its.length := by simpa using hm
      have hmy : m < ys.length := by rw [rv.length]; exact hml
      obtain ⟨u2, hu2, ru2⟩ := rv.get (List.getElem?_eq_getElem hmy)
      refine ⟨ys[m], List.getElem?_eq_getElem hmy, ?_⟩
      have e1 : its.toArray[m] = u2 := by simpa using (List.getElem?_eq_some_iff.mp hu2).2
      rw [e1]
      exact eqU_of ru2 (flat_at fys (List.getElem?_eq_getElem hmy))
    have hj : j < its.toArray.size := by
      have := (List.getElem?_eq_some_iff.mp hz).1
      rw [rv.length] at this
      simpa using this
    refine call_meets PySem.F.slot_tuple_index ⟨_, ho, rfl⟩ PySem.F.entry_tuple_index (PySem.F.args_tuple_index_2 _ _) (TI.tuple_indexAt p its.toArray n dd sl uy (eqU y) j hj ?_ ?_)
      ⟨ho, fun u' hu' => mem_eqAt ry fy rv fys u' (by simpa using hu'), ⟨.int (j : Nat), H, I.tok _, ⟨_, rfl⟩, q⟩⟩
    · obtain ⟨z', h1, h2⟩ := all j hj
      rw [hz] at h1
      cases h1
      rw [h2]
      exact hzj
    · intro m hm hmj
      obtain ⟨z', h1, h2⟩ := all m hm
      rw [h2]
      exact hno m z' hmj h1
/-- a tuple whose object is known to be a bare one -/
def BareT (H : Hp) (p : Addr) (xs : List V) : Prop := ∃ o : Obj, H p = some (.frz o (.tup xs)) ∧ o.cls = .type "tuple" ∧ o.dict = none
theorem BareT.seq {K : PySem.W.Frag} {H : Hp} {p : Addr} {xs : List V} (h : BareT H p xs) : SqT K H p xs := by
  obtain ⟨o, h, _⟩ := h
  exact .inl (.inr ⟨o, h⟩)
theorem BareT.grow {H H' : Hp} {p : Addr} {xs : List V} (h : BareT H p xs) (e : Same H H') : BareT H' p xs := by
  obtain ⟨o, h, c⟩ := h
  exact ⟨o, e _ _ h, c⟩
section
variable {X : Cx} {K : PySem.W.Frag}
/-- tuple(a list): a new bare tuple -/
theorem crTupF (K : PySem.W.Frag) (hK : X.K = K := by rfl) : CallR X (.type "tuple") (fun xs H Q => ∃ p ys, xs = [.ref p] ∧ SqL K H p ys ∧ ∀ l H', H l = none → Same H H' → BareT H' l ys → Q (.ref l) H') := by
  subst hK
  intro pins s σ H xs us Q I r h
  obtain ⟨p, ys, rfl, hq, q⟩ := h
  obtain ⟨u, rfl, rx⟩ := vals1 r
  cases rx
  obtain ⟨its, r', pl, hz⟩ := I.list hq
  have hlen := r'.length
  refine call_tuple_list pl.isList (fun h' kp => ?_) (by simp only [List.size_toArray] <;> omega)
  have I1 : Inv X pins σ H { s with heap := h' } := I.kept (t' := s.toks) kp
  have n0 : H h'.objs.size = none := I1.hok.fresh (Nat.le_refl _)
  have I2 : Inv X pins σ (upd H h'.objs.size (.frz { cls := .type "tuple", data := .seq its.toArray } (.tup ys))) { s with heap := h'.push { cls := .type "tuple", data := .seq its.toArray } } :=
    I1.laid (t' := s.toks) (fun b o e => Heap.get?_push_of_some _ e) (Nat.le_refl _) ⟨Heap.get?_push_size _ rfl, hz, its, r', IsTup.new _ _⟩
  exact ⟨.ref h'.objs.size, _, I2, rfl, q _ _ n0 (same_new n0) ⟨_, upd_same, rfl, rfl⟩⟩
variable {o e : Expr} {es : List Expr} {to : TE} {t : TA} {apos cpos : Pos}
def tTidx (K : PySem.W.Frag) (to : TE) (t : TA) : TE := fun σ H Q => to σ H fun x H1 => (∃ p xs, x = .ref p ∧ BareT H1 p xs) ∧ t σ H1 fun vs H2 => rTupIdx K x vs H2 Q
/-- t.index(x), t a bare tuple -/
theorem pe_tidx (hm : MtR X "tuple.index" (rTupIdx K)) (ho : PE X o to) (ha : PA X (e :: es) t) (hbase : attributeBase o "index" X.env (eval o X.env) = eval o X.env := by rfl)
    (hfew : ((backTo cpos (starEach (e :: es) X.env)).all (fun x => !x.1) && (backToKw cpos (keywordEach [] X.env)).all (fun x => x.1.isSome) && decide ((e :: es).length + ([] : List Keyword).length + (if ([] : List Keyword).isEmpty then 0 else 1) < 30)) = true := by rfl)
    (hline : (apos.endLine == cpos.line) = true := by rfl) (hs : starEach (e :: es) X.env = (false, eval e X.env) :: starEach es X.env := by rfl) (hplain : (backTo cpos (starEach es X.env)).any (·.1) = false := by rfl) :
    PE X (.Call (.Attribute o "index" apos) (e :: es) [] cpos) (tTidx K to t) := by
  refine ⟨fun pins s σ H Q I h => ?_⟩
  refine wpAny_Call_method_late hbase hfew hline rfl (thn (ho.run pins s σ H _ I h) fun v s1 ⟨x, H1, I1, r1, ⟨p, xs, ex, ob, hb, hc, hd⟩, q1⟩ => ?_)
  subst ex
  obtain rfl : v = Value.ref p := r1
  have g : s1.heap.get? p = some ob := (show ObjOk X.prog X.w H1 s1.heap p (.frz ob (.tup xs)) from I1.hok p _ hb).1
  refine ⟨"tuple", "tuple.index", PySem.F.plainAttrs_tuple, PySem.F.slot_tuple_index, PySem.F.type_tuple_index, ⟨ob, g, hc⟩, fun a z => ⟨ob, by cases z; exact g, hd⟩, ?_⟩
  have hA := ha.run cpos pins s1 σ H1 _ I1 q1
  rw [hs] at hA ⊢
  refine Calls.callWith_builtin (by show (false || (backTo cpos (starEach es X.env)).any (·.1)) = false; rw [hplain] <;> rfl) (Calls.evalArgs_plain ?_)
  exact thn hA fun us s2 ⟨vs, H2, I2, r2, q2⟩ => hm pins s2 σ H2 (V.ref p) vs (Value.ref p) us Q I2 rfl r2 q2
end
end L2.KK
/-! more of numbers and of comprehensions -/
namespace L2.KK
open PySem PySem.Spec PyProof.Rows C8
section
variable {X : Cx}
theorem op_mulNN : OpR X (binaryOp .Mult) (rNC (fun a b => a < 18446744073709551616 ∨ b < 18446744073709551616) fun a b => nV (a * b)) := by
  intro pins s σ H x y v u Q I rx ry ⟨a, b, e1, e2, c, q⟩
  refine op_mul pins s σ H x y v u Q I rx ry ⟨_, _, e1, e2, ?_, ?_⟩
  · rcases c with c | c
    · exact .inl ⟨by omega, by omega⟩
    · exact .inr ⟨by omega, by omega⟩
  · show Q (V.int ((a : Int) * (b : Int))) H
    rw [← Int.natCast_mul]
    exact q
variable {K : PySem.W.Frag} {H H1 : Hp} {D : Addr} {σ : St} {k : Nat} {tt : TT} {te : TE} {Qd : Hp → Prop} {item : Nat → V} {n : Nat} {sel : Nat → Bool} {P : Nat → V → Hp → Prop} {J : It} {G : Hp → Prop} {Y : Nat → Hp → V → Hp → Prop}
/-- a comprehension over any walk that hands on what stands, its turns changing nothing that stood -/
theorem lc_itT (w : Walk J n G Y) (hY : ∀ i H x H', i < n → Y i H x H' → H' = H ∧ x = item i) (hG : ∀ H', Same H H' → G H') (T : Turns H σ k item n tt te sel P) (hD : H D = none) (hz : n ≤ sizeLine)
    (hd : ∀ H' ys, Same H H' → H' D = some (.lst ys) → ys.length ≤ n → Paired (fun y j => P j y H') ys ((List.range n).filter sel) → Qd H') :
    ∃ W : Nat → Nat → Hp → Prop, (∃ m, W 0 m (upd H D (.lst []))) ∧ ∀ i m H, W i m H →
      (J.stop i H ∧ Qd H) ∨ (J.go i H ∧ ∃ Nx : Hp → Prop, (∀ H', Nx H' → ∃ m', m' < m ∧ W (i + 1) m' H') ∧ ∀ x H', J.yld i H x H' → gName k x (wipe σ [k]) H' fun σ2 H2 => wipe σ2 [k] = wipe σ [k] ∧ tt σ2 H2 fun b H3 =>
        if b = true then te σ2 H3 fun y H4 => ∃ acc, H4 D = some (.lst acc) ∧ acc.length < sizeLine ∧ Nx (upd H4 D (.lst (acc ++ [y]))) else Nx H3) :=
  lc_it w (Made H D sel P) (Turns.start hD) (fun _ _ _ M => hG _ M.1) (fun i x H0 H' hi M y => by
    obtain ⟨rfl, rfl⟩ := hY i H0 x H' hi y
    exact T.go hD hz hi M) fun H' ⟨a, ys, b, c, d⟩ => hd H' ys a b c d
theorem yAt_item {xs : List V} {i : Nat} {H H' : Hp} {x : V} (y : YAt xs i H x H') : H' = H ∧ x = xs.getD i .non := ⟨y.1, by rw [List.getD_eq_getElem?_getD, y.2]; rfl⟩
theorem lc_tupT {a : Addr} {xs : List V} (hx : SqT K H a xs) (T : Turns H σ k (fun i => xs.getD i .non) xs.length tt te sel P) (hD : H D = none) (hz : xs.length ≤ sizeLine)
    (hd : ∀ H' ys, Same H H' → H' D = some (.lst ys) → ys.length ≤ xs.length → Paired (fun y j => P j y H') ys ((List.range xs.length).filter sel) → Qd H') :
    ∃ W : Nat → Nat → Hp → Prop, (∃ m, W 0 m (upd H D (.lst []))) ∧ ∀ i m H, W i m H →
      ((Itt K a).stop i H ∧ Qd H) ∨ ((Itt K a).go i H ∧ ∃ Nx : Hp → Prop, (∀ H', Nx H' → ∃ m', m' < m ∧ W (i + 1) m' H') ∧ ∀ x H', (Itt K a).yld i H x H' → gName k x (wipe σ [k]) H' fun σ2 H2 => wipe σ2 [k] = wipe σ [k] ∧ tt σ2 H2 fun b H3 =>
        if b = true then te σ2 H3 fun y H4 => ∃ acc, H4 D = some (.lst acc) ∧ acc.length < sizeLine ∧ Nx (upd H4 D (.lst (acc ++ [y]))) else Nx H3) :=
  lc_itT walk_tup (fun _ _ _ _ _ y => yAt_item y) (fun _ s => same_seqT s hx) T hD hz hd
/-- reversed(a tuple) -/
theorem walk_revT {a : Addr} {xs : List V} : Walk (RT.ItvT K a xs.length) xs.length (fun H => SqT K H a xs) (fun i H x H' => H' = H ∧ xs[xs.length - 1 - i]? = some x) :=
  ⟨fun i _ hi q => ⟨hi, xs, xs[xs.length - 1 - i]'(by omega), q, by simp [show xs.length - 1 - i < xs.length by omega]⟩, fun _ _ => Nat.le_refl _, fun _ _ _ _ _ q y => ⟨y.1, y.2 xs q⟩⟩
theorem lc_revT {a : Addr} {xs : List V} (hx : SqT K H a xs) (T : Turns H σ k (fun i => xs.getD (xs.length - 1 - i) .non) xs.length tt te sel P) (hD : H D = none) (hz : xs.length ≤ sizeLine)
    (hd : ∀ H' ys, Same H H' → H' D = some (.lst ys) → ys.length ≤ xs.length → Paired (fun y j => P j y H') ys ((List.range xs.length).filter sel) → Qd H') :
    ∃ W : Nat → Nat → Hp → Prop, (∃ m, W 0 m (upd H D (.lst []))) ∧ ∀ i m H, W i m H →
      ((RT.ItvT K a xs.length).stop i H ∧ Qd H) ∨ ((RT.ItvT K a xs.length).go i H ∧ ∃ Nx : Hp → Prop, (∀ H', Nx H' → ∃ m', m' < m ∧ W (i + 1) m' H') ∧ ∀ x H', (RT.ItvT K a xs.length).yld i H x H' → gName k x (wipe σ [k]) H' fun σ2 H2 => wipe σ2 [k] = wipe σ [k] ∧ tt σ2 H2 fun b H3 =>
        if b = true then te σ2 H3 fun y H4 => ∃ acc, H4 D = some (.lst acc) ∧ acc.length < sizeLine ∧ Nx (upd H4 D (.lst (acc ++ [y]))) else Nx H3) :=
  lc_itT walk_revT (fun i H x H' hi y => ⟨y.1, by rw [List.getD_eq_getElem?_getD, y.2]; rfl⟩) (fun _ s => same_seqT s hx) T hD hz hd
end
/-! ### values -/
/-- a price: a number, or none -/
def pV : Option Nat → V
  | none => .non
  | some n => nV n
theorem pV_none (o : Option Nat) : (pV o = .non) = (o = none) := by
  cases o with
  | none => simp [pV]
  | some n => simp [pV, nV]
/-- a new tuple is told -/
def NewT (H : Hp) (Q : VK) (xs : List V) : Prop := ∀ p H', Same H H' → H p = none → H' p = some (.tup xs) → Q (.ref p) H'
end L2.KK
/-! instances: what they are, what stands when one changes -/
namespace L2.KK
open PySem PySem.Spec PyProof.Rows C8
structure InsX (K : PySem.W.Frag) (C : Addr) : Prop where
  c : Cls K C
  ha : PySem.W.findIn K (.ref C) "__class__" = some (some (.builtin "object.__class__"))
  hn : PySem.W.specialIn K (.builtin "object.__class__") "__get__" = some (some (.builtin "getset_descriptor.__get__"))
  ht : PySem.W.takesIn K (.builtin "object.__class__") = some true
  hm : PySem.W.mroIn K C (.type "object") = some true
def insB (x : Str) (K : PySem.W.Frag) : Bool := (He.Fa.cls x).ok K && (eqOV (PySem.W.findIn K (.ref (He.ga K x)) "__class__") (some (some (.builtin "object.__class__"))) && (eqOV (PySem.W.specialIn K (.builtin "object.__class__") "__get__") (some (some (.builtin "getset_descriptor.__get__"))) &&
  (decide (PySem.W.takesIn K (.builtin "object.__class__") = some true) && decide (PySem.W.mroIn K (He.ga K x) (.type "object") = some true))))
theorem insB_ok {K : PySem.W.Frag} {x : Str} (h : insB x K = true) : InsX K (He.ga K x) := by
  obtain ⟨h1, h⟩ := He.ba h
  obtain ⟨h2, h⟩ := He.ba h
  obtain ⟨h3, h⟩ := He.ba h
  obtain ⟨h4, h5⟩ := He.ba h
  exact ⟨He.cls_ok h1, of_decide_eq_true h2, of_decide_eq_true h3, of_decide_eq_true h4, of_decide_eq_true h5⟩
section
variable {K : PySem.W.Frag} {H H' : Hp} {a x C dx : Addr} {xs : List V} {fs : List (Str × V)}
theorem InsX.ty (T : InsX K C) (e : H a = some (.ins C dx fs)) : TyX K H (.ref a) (.ref C) := .base (.ins e T.c T.ha T.hn T.ht T.hm)
theorem tyx_seqT (h : SqT K H a xs) : TyX K H (.ref a) (.type "tuple") := by
  rcases h with h | ⟨o, its, n, h1, h2, _⟩
  · rcases h with h | ⟨o, h⟩
    · exact .base (.tup h)
    · exact .fTuple h
  · exact .kTuple h1 h2
theorem tyx_seqL (h : SqL K H a xs) : TyX K H (.ref a) (.type "list") := by
  rcases h with h | ⟨o, its, n, h1, h2, _⟩
  · rcases h with h | ⟨o, h⟩
    · exact .base (.lst h)
    · exact .base (.frz h)
  · exact .kList h1 h2
/-- a tuple stands when an instance changes -/
theorem kp_seqT (k : Kp x H H') (hx : H x = some (.ins C dx fs)) (h : SqT K H a xs) : SqT K H' a xs := by
  rcases h with h | h
  · rcases h with h | ⟨o, h⟩
    · exact .inl (.inl (k _ _ h fun z => by rw [z, hx] at h; cases h))
    · exact .inl (.inr ⟨o, k _ _ h fun z => by rw [z, hx] at h; cases h⟩)
  · exact .inr h
theorem kp_upd {o : HO} : Kp x H (upd H x o) := fun b u e n => by rw [upd_ne n]; exact e
theorem kp_list {l : Addr} {ys : List V} {x' : Addr} (k : Kp x' H H') (h : H l = some (.lst ys)) (n : l ≠ x') : H' l = some (.lst ys) := k _ _ h n
end
end L2.KK
/-! isinstance of a caught exception of one's own that has fields -/
namespace PySem.W
open PySem PySem.Spec PySem.Calls PyProof.Rows
section
variable {prog : Program} {w : World} {A : Around} {E : Value → Shared → Prop} {s : Shared} {K : Frag} {x D : Addr} {ox : Obj} {od : Option Obj}
theorem findObj_any {C : Addr} {nm : Str} {a g : Value} (hc : (clsIn K C).isSome = true) (h1 : findIn K (.ref C) nm = some (some a)) (h2 : specialIn K a "__get__" = some (some g)) (h3 : takesIn K a = some true) : findObj K C od nm = some (.bind g a) := by
  obtain ⟨cd, e⟩ := Option.isSome_iff_exists.mp hc
  unfold findObj; rw [e, Option.bind_some, h1, Option.bind_some]; simp [h2, h3]
theorem cls_of_exc (C : L2.ExcC K D) (X : K.In s.heap) (I : InstAt s.heap x ox D od) {Q : Option Value → Shared → Prop} (h : Q (some (.ref D)) { s with toks := s.toks + 1 }) : wpAny (model prog w) A (getAttr? (.ref x) "__class__") Q E s := by
  have hf : findObj K D od "__class__" = some (.bind (.builtin "getset_descriptor.__get__") (.builtin "object.__class__")) := findObj_any (by obtain ⟨c0, q0, _⟩ := any_some C.hd; rw [q0]; rfl) C.ha C.hn C.ht
  obtain ⟨hp, gg, dr, tk, oo⟩ := s
  have T0 := I.type (M := model prog w)
  have T1 := looks_findIn (M := model prog w) X C.hg
  have T2 := looks_findIn (M := model prog w) X C.hk
  have T3 := looks_find (M := model prog w) X I hf
  have sb : Looks (model prog w) hp (isInstance (.ref x) (.type "BaseException")) true := T0.andThen (looks_subIn X C.hs)
  have n0 : (false && onTheHeap (Value.builtin "BaseException.__getattribute__")) = false := rfl
  have n1 : (onTheHeap (Value.ref D) && Value.builtin "BaseException.__getattribute__" == Value.builtin "object.__getattribute__") = false := by rw [show (Value.builtin "BaseException.__getattribute__" == Value.builtin "object.__getattribute__") = false from by decide +kernel]; rfl
  unfold getAttr? getAttrBy? getAttrBy; refine wpAny_bind (wpAny_mkText (wpAny_bind (wpAny_attempt (wpAny_holding (wpAny_bind (T0.at (wpAny_bind (T1.at ?_))))))))
  show wpAny _ _ (if (onTheHeap (Value.ref D) && Value.builtin "BaseException.__getattribute__" == Value.builtin "object.__getattribute__") = true then _ else _) _ _ _; rw [n1, if_neg Bool.false_ne_true]
  unfold getAttrByItsOwn hookBefore; refine wpAny_bind ?_
  rw [if_pos (show onTheHeap (Value.ref D) = true from rfl)]; refine T2.at (wpAny_bind (wpAny_attempt (wpAny_holding ?_)))
  unfold callGetattribute; rw [n0, if_neg Bool.false_ne_true]
  unfold boundAndCalled; rw [PySem.F.excAttr_ValueError.ga.bind (.ref x)]
  refine wpAny_bind (wpAny_pure ?_); show wpAny _ _ (call (.builtin "BaseException.__getattribute__") [.ref x, .str "__class__" tk]) _ _ _
  refine wpAny_call (codeAny_call_builtin PySem.F.excAttr_ValueError.ga.plain PySem.F.entry_bexc_ga (@check_slot (model prog w) _ _ ⟨hp, gg, dr, tk + 1, oo⟩ "BaseException.__getattribute__" "BaseException" "__getattribute__" (.ref x) [.str "__class__" tk] [] _ (by decide +kernel) (by decide +kernel) sb (PySem.F.args_bexc_ga (.ref x) (.str "__class__" tk)) ?_))
  unfold Builtin.«object.__getattribute__»; refine wpAny_bind (wpAny_of_eq (a := ((Value.ref x : Value), [Value.str "__class__" tk])) (by first | rfl | (simp only [slotArgs]; rfl)) ?_)
  refine wpAny_bind (wpAny_pure (wpAny_bind (T0.at (wpAny_bind (T3.at ?_))))); show wpAny _ _ (holding [Value.builtin "object.__class__"] (call (.builtin "getset_descriptor.__get__") [.builtin "object.__class__", .ref x, .ref D]) >>= ret) _ _ _
  refine wpAny_bind (wpAny_holding (wpAny_call (class_get (s := ⟨hp, gg, dr, tk + 1, oo⟩) (ox := ox) (od := od) X I C.hm (wpAny_pure ?_))))
  show wpAny _ _ (handedOut (.ref D)) _ _ _; rw [handedOut_of (v := .ref D) rfl]
  first | exact wpAny_pure (wpAny_pure h) | exact wpAny_pure h | exact wpAny_pure (wpAny_bind (wpAny_pure (wpAny_pure h)))
theorem kitx_oexc (C : L2.ExcC K D) : KitX K (.ref x) (.ref D) (fun h => InstAt h x ox D od) where
  ty := fun _ _ _ I => I.type
  it := fun _ _ X _ => by
    obtain ⟨c0, q0, _⟩ := any_some C.hd
    unfold clsIn at q0; split at q0
    · rename_i ho; intro A' Q' E' s' k q; unfold isType loadHead; exact wpAny_bind (wpAny_loadPart (k _ _ (X _ _ ho)) (wpAny_pure q))
    · cases q0
  ne := fun h tp dd its n sl X htp => by
    obtain ⟨c0, q0, _⟩ := any_some C.hd
    refine Bool.eq_false_iff.mpr fun q => ?_
    obtain rfl : D = tp := Value.ref.inj (beq_iff_eq.mp q)
    unfold clsIn at q0; split at q0
    · rename_i ho; cases (X _ _ ho).symm.trans htp
    · cases q0
  ca := fun X I k => cls_of_exc C X I k
end
end PySem.W
namespace L2.KK
open PySem PySem.Spec PyProof.Rows
/-- isinstance(error, c), the error of the class D and its fields at d -/
def rIsO (K : PySem.W.Frag) (D a : Addr) (d : Option Addr) : List V → Hp → VK → Prop := fun xs H Q => ∃ (c : V) (cv : Value) (b : Bool) (dd : Addr) (fs : List (Str × V)), xs = [.ref a, c] ∧ d = some dd ∧ H dd = some (.xd fs) ∧ (∀ u, RelV c u → u = cv) ∧ PySem.W.kitOne K (.ref D) cv = some b ∧ Q (.bl b) H
theorem call_isO {X : Cx} {a D : Addr} {oe : Obj} {cls : Value} {d : Option Addr} {pn : List (Addr × Obj)} (C : ExcC X.K D) (hz : Zc cls d oe) (hf : ∃ vs, oe.data = .fields vs) : CallR (X.suite a ((a, oe) :: pn)) (.builtin "isinstance") (fun xs H Q => cls = .ref D ∧ rIsO X.K D a d xs H Q) := by
  intro pins s σ H xs us Q I r ⟨hcls, h⟩
  obtain ⟨c, cv, b, dd, fs, rfl, rfl, hd, hcv, e, q⟩ := h
  cases r with
  | cons rx rr =>
    cases rr with
    | cons rt rr =>
      cases rr
      cases rx
      obtain rfl := hcv _ rt
      obtain ⟨hget, _⟩ := I.pin (a, oe) (List.mem_append.mpr (.inl List.mem_cons_self))
      obtain ⟨vs, hv⟩ := hf
      obtain ⟨mA, hns, _⟩ := (show ObjOk X.prog X.w H s.heap dd (.xd fs) from I.hok dd _ hd)
      obtain ⟨od, hod, _⟩ := lookIn_ns hns
      have J : PySem.W.InstAt s.heap a oe D (some od) := by
        obtain ⟨oc, odi, oda, osl⟩ := oe
        obtain ⟨h1, h2⟩ := hz
        dsimp only at h1 h2 hv
        subst h2 hv
        rw [hcls] at h1
        exact ⟨hget, h1, rfl, hod⟩
      exact PySem.W.kia_one (PySem.W.kitx_oexc C) I.kIn J e (fun z => nomatch z) fun tk => ⟨.bl b, H, I.kept (t' := tk) fun _ _ z => z, rfl, q⟩
def excB (x : Str) (K : PySem.W.Frag) : Bool := eqOV (PySem.W.findIn K (.ref (He.ga K x)) "__getattribute__") (some (some (.builtin "BaseException.__getattribute__"))) && (eqOV (PySem.W.findIn K (.ref (He.ga K x)) "__getattr__") (some none) && (decide (PySem.W.subIn K (.ref (He.ga K x)) (.type "BaseException") = some true) &&
  (PySem.W.hasDictIn K (He.ga K x) && (eqOV (PySem.W.findIn K (.ref (He.ga K x)) "__class__") (some (some (.builtin "object.__class__"))) && (eqOV (PySem.W.specialIn K (.builtin "object.__class__") "__get__") (some (some (.builtin "getset_descriptor.__get__"))) &&
  (decide (PySem.W.takesIn K (.builtin "object.__class__") = some true) && decide (PySem.W.mroIn K (He.ga K x) (.type "object") = some true)))))))
theorem excB_ok {K : PySem.W.Frag} {x : Str} (h : excB x K = true) : ExcC K (He.ga K x) := by
  obtain ⟨h1, h⟩ := He.ba h
  obtain ⟨h2, h⟩ := He.ba h
  obtain ⟨h3, h⟩ := He.ba h
  obtain ⟨h4, h⟩ := He.ba h
  obtain ⟨h5, h⟩ := He.ba h
  obtain ⟨h6, h⟩ := He.ba h
  obtain ⟨h7, h8⟩ := He.ba h
  exact ⟨of_decide_eq_true h1, of_decide_eq_true h2, of_decide_eq_true h3, h4, of_decide_eq_true h5, of_decide_eq_true h6, of_decide_eq_true h7, of_decide_eq_true h8⟩
/-- isinstance(instance of x, a built-in class) -/
def isiTB (x : Str) (T : String) (b : Bool) (K : PySem.W.Frag) : Bool := decide (PySem.W.kitOne K (.ref (He.ga K x)) (.type T) = some b)
end L2.KK
/-! a head's look that goes along the ways it needs alone: the module's names, what they name, a class's names, a def's code -/
namespace L2.KK
open PySem PySem.Spec PyProof.Rows C8
def refsF (o : Obj) : List Addr := match o.data with
  | .cls cd => [cd.ns]
  | .func fd => He.refV fd.code
  | .dict es _ => es.toList.flatMap fun e => He.refV e.val
  | _ => []
def lvlF (g : Addr → Option Obj) (as : List Addr) : List Addr := as.flatMap fun a => match g a with
  | some o => refsF o
  | none => []
def asF (g : Addr → Option Obj) : Nat → List Addr → List Addr
  | 0, as => as
  | n + 1, as => as ++ asF g n (lvlF g as)
def frF (n : Nat) (g : Addr → Option Obj) : PySem.W.Frag := He.frG g (cStatics :: asF g n [mainGlobals])
def obsF (n : Nat) (fa : List He.Fa) (fn : List He.DefD) (my : List (PySem.W.Frag → Bool)) (g : Addr → Option Obj) : AlK := (He.obsD fa fn (frF n g), my.map fun f => f (frF n g))
def hookF (n : Nat) (fa : List He.Fa) (fn : List He.DefD) (my : List (PySem.W.Frag → Bool)) : PySem.W.Hook where
  α := AlK
  obs := fun s => obsF n fa fn my s.heap.get?
  val := fun _ => (He.valD fn, my.map fun _ => true)
  says := fun _ h => ∃ K : PySem.W.Frag, K.In h ∧ SaysK fa fn my K
  of := fun _ s e => ⟨frF n s.heap.get?, He.frG_in, congrArg Prod.fst e, congrArg Prod.snd e⟩
  keeps := fun _ _ _ ⟨K, hK, c⟩ k => ⟨K, PySem.W.Frag.In.keeps hK k, c⟩
theorem obsF_eq {n : Nat} {fa : List He.Fa} {fn : List He.DefD} {my : List (PySem.W.Frag → Bool)} {g : Addr → Option Obj} {s : Shared} (h : ∀ a, g a = s.heap.get? a) : obsF n fa fn my g = (hookF n fa fn my).obs s := by
  have e : g = s.heap.get? := funext h
  rw [e]
  rfl
end L2.KK
/-! == of nested tuples and lists of numbers, texts, None -/
namespace L2.KK
open PySem PySem.Spec PyProof.Rows C8
mutual
def pln : PyData → Bool
  | .none => true
  | .int _ => true
  | .bool _ => false
  | .str x => PyData.strOk x
  | .list xs => plnAll xs
  | .tuple xs => plnAll xs
  | .dict _ => false
def plnAll : List PyData → Bool
  | [] => true
  | x :: xs => pln x && plnAll xs
end
mutual
theorem pln_lay : ∀ d : PyData, pln d = true → d.canLay0 = true
  | .none, _ => by simp only [PyData.canLay0]
  | .int _, _ => by simp only [PyData.canLay0]
  | .bool _, h => by simp [pln] at h
  | .str x, h => by simpa [pln, PyData.canLay0] using h
  | .list xs, h => by simp only [PyData.canLay0]; exact plnAll_lay xs (by simpa [pln] using h)
  | .tuple xs, h => by simp only [PyData.canLay0]; exact plnAll_lay xs (by simpa [pln] using h)
  | .dict _, h => by simp [pln] at h
theorem plnAll_lay : ∀ xs : List PyData, plnAll xs = true → PyData.canLayAll0 xs = true
  | [], _ => by simp only [PyData.canLayAll0]
  | x :: xs, h => by
    have h' : pln x = true ∧ plnAll xs = true := by simpa [plnAll] using h
    simp only [PyData.canLayAll0, pln_lay x h'.1, plnAll_lay xs h'.2, Bool.and_self]
end
mutual
theorem eqv_iff : ∀ a b : PyData, pln a = true → pln b = true → (PyData.eqv a b = true ↔ a = b)
  | .none, b, _, hb => by cases b <;> simp [PyData.eqv, pln] at hb ⊢
  | .int i, b, _, hb => by cases b <;> simp [PyData.eqv, pln] at hb ⊢
  | .bool _, _, h, _ => by simp [pln] at h
  | .dict _, _, h, _ => by simp [pln] at h
  | .str x, b, _, hb => by cases b <;> simp [PyData.eqv, pln] at hb ⊢
  | .list xs, b, ha, hb => by
    cases b with
    | list ys =>
      have := eqvAll_iff xs ys (by simpa [pln] using ha) (by simpa [pln] using hb)
      simp only [PyData.eqv, this, PyData.list.injEq]
    | _ => simp [PyData.eqv]
  | .tuple xs, b, ha, hb => by
    cases b with
    | tuple ys =>
      have := eqvAll_iff xs ys (by simpa [pln] using ha) (by simpa [pln] using hb)
      simp only [PyData.eqv, this, PyData.tuple.injEq]
    | _ => simp [PyData.eqv]
theorem eqvAll_iff : ∀ xs ys : List PyData, plnAll xs = true → plnAll ys = true → (PyData.eqvAll xs ys = true ↔ xs = ys)
  | [], ys, _, _ => by cases ys <;> simp [PyData.eqvAll]
  | x :: xs, [], _, _ => by simp [PyData.eqvAll]
  | x :: xs, y :: ys, ha, hb => by
    have h1 : pln x = true ∧ plnAll xs = true := by simpa [plnAll] using ha
    have h2 : pln y = true ∧ plnAll ys = true := by simpa [plnAll] using hb
    simp only [PyData.eqvAll, Bool.and_eq_true, eqv_iff x y h1.1 h2.1, eqvAll_iff xs ys h1.2 h2.2, List.cons.injEq]
end
theorem pln_shaped {d : PyData} (h : pln d = true) (hd : d.depth ≤ 64) : SeqAt.shaped d = true := Bool.and_eq_true_iff.mpr ⟨pln_lay d h, decide_eq_true hd⟩
theorem plnAll_of : ∀ {xs : List PyData}, (∀ x ∈ xs, pln x = true) → plnAll xs = true
  | [], _ => rfl
  | x :: xs, h => by
    show (pln x && plnAll xs) = true
    rw [h x List.mem_cons_self, plnAll_of fun y hy => h y (List.mem_cons_of_mem _ hy)]
    rfl
theorem depthAll_le {n : Nat} : ∀ {xs : List PyData}, (∀ x ∈ xs, x.depth ≤ n) → PyData.depthAll xs ≤ n
  | [], _ => by unfold PyData.depthAll; omega
  | x :: xs, h => by
    unfold PyData.depthAll
    have := h x List.mem_cons_self
    have := depthAll_le fun y hy => h y (List.mem_cons_of_mem _ hy)
    omega
theorem depth_tup {n : Nat} {xs : List PyData} (h : ∀ x ∈ xs, x.depth ≤ n) : (PyData.tuple xs).depth ≤ n + 1 := by
  have := depthAll_le h
  unfold PyData.depth
  omega
theorem depth_lst {n : Nat} {xs : List PyData} (h : ∀ x ∈ xs, x.depth ≤ n) : (PyData.list xs).depth ≤ n + 1 := by
  have := depthAll_le h
  unfold PyData.depth
  omega
theorem pln_tup {xs : List PyData} (h : ∀ x ∈ xs, pln x = true) : pln (.tuple xs) = true := by
  show plnAll xs = true
  exact plnAll_of h
section
variable {K : PySem.W.Frag} {H : Hp} {x y : V} {dx dy : PyData} {Q : VK}
theorem eqd_pln (hx : Dp K H x dx) (hy : Dp K H y dy) (px : pln dx = true) (py : pln dy = true) (lx : dx.depth ≤ 64) (ly : dy.depth ≤ 64) (q : ∀ k : Bool, (k = true ↔ dx = dy) → Q (.bl k) H) : rEqD K x y H Q :=
  ⟨_, _, hx, hy, pln_shaped px lx, pln_shaped py ly, q _ (eqv_iff dx dy px py)⟩
theorem ned_pln (hx : Dp K H x dx) (hy : Dp K H y dy) (px : pln dx = true) (py : pln dy = true) (lx : dx.depth ≤ 64) (ly : dy.depth ≤ 64) (q : ∀ k : Bool, (k = true ↔ dx = dy) → Q (.bl (!k)) H) : rNeD K x y H Q :=
  ⟨_, _, hx, hy, pln_shaped px lx, pln_shaped py ly, q _ (eqv_iff dx dy px py)⟩
end
/-! prices as data -/
def pD : Option Nat → PyData
  | none => .none
  | some n => .int n
theorem pD_inj {a b : Option Nat} (h : pD a = pD b) : a = b := by
  cases a <;> cases b <;> simp [pD] at h
  · rfl
  · congr 1
    omega
theorem pD_pln (p : Option Nat) : pln (pD p) = true := by cases p <;> rfl
theorem pD_depth (p : Option Nat) : (pD p).depth ≤ 0 := by cases p <;> exact Nat.le_refl 0
theorem dp_price {K : PySem.W.Frag} {H : Hp} (p : Option Nat) : Dp K H (pV p) (pD p) := by
  cases p with
  | none => exact .non
  | some n => exact .int n
theorem dp_prices {K : PySem.W.Frag} {H : Hp} : ∀ ps : List (Option Nat), DpAll K H (ps.map pV) (ps.map pD)
  | [] => .nil
  | p :: ps => .cons (dp_price p) (dp_prices ps)
theorem pDs_inj {a b : List (Option Nat)} (h : a.map pD = b.map pD) : a = b := by
  induction a generalizing b with
  | nil => cases b with
    | nil => rfl
    | cons => cases h
  | cons x a ih => cases b with
    | nil => cases h
    | cons y b =>
      rw [List.map_cons, List.map_cons] at h
      injection h with h1 h2
      rw [pD_inj h1, ih h2]
end L2.KK
/-! methods and classes that raise; == of tuples of instances with an own ==; what stands when lists and one kind of instance change -/
namespace GQ
open PySem PySem.SeqAt
open AutoSeq1 (wpAny_loadPart')
open MeetsSeq MeetsSeq2 MeetsSeq3 SeqRoads2
section
variable {prog : Program} {w : World} {A : Around} {R : Result → Shared → Prop}
/-- items compared one by one, up to the first that differs -/
theorem tuple_eqB (l b : Addr) (items items2 : Array Value) (n n2 : Nat) (dd dd2 : Option Addr) (sl sl2 : Array (Option Value)) (hsz : items.size = items2.size) (e : Nat → Bool) (I : Nat → Shared → Prop)
    (turn : ∀ i (h1 : i < items.size) (h2 : i < items2.size) s, I i s → wpAny (model prog w) A.in1 (eqBool items[i] items2[i]) (fun r s' => r = e i ∧ I (i + 1) s') (fun e s' => R (.error e) s') s)
    (fin : ∀ i s, I i s → i ≤ items.size → ∀ r : Bool, (r = true ↔ ∀ j, j < items.size → e j = true) → R (.ok (.ret (.bool r))) s) {s : Shared} (hl1 : s.heap.get? l = some { cls := .type "tuple", dict := dd, data := .seq items n, slots := sl }) (hb1 : s.heap.get? b = some { cls := .type "tuple", dict := dd2, data := .seq items2 n2, slots := sl2 }) (h : I 0 s) :
    wpAny (model prog w) A.in1 (Builtin.«tuple.__eq__» ⟨[.ref l, .ref b], []⟩) (FinOf prog w A R) (fun e s' => R (.error e) s') s := by
  have f2 := AutoSeq1.sub_tuple_tuple
  have hZ : (items.toList.zip items2.toList).length = items.size := by simp [hsz]
  have h0 := h
  obtain ⟨hp, g, d, tk, os⟩ := s
  wp_walk using wpAny_loadPart' hl1, wpAny_loadPart' hb1, wpAny_forIn_list _ (fun rest b s' => b.1 = none ∧ ∃ i, rest = (items.toList.zip items2.toList).drop i ∧ i ≤ items.size ∧ (∀ j, j < i → e j = true) ∧ I i s') _
  case turn =>
    rintro ⟨y, x⟩ rest b s' ⟨hb', i, hz, hi, hall, hI⟩
    have hlt : i < (items.toList.zip items2.toList).length := by
      rcases Nat.lt_or_ge i (items.toList.zip items2.toList).length with h' | h'
      · exact h'
      · rw [List.drop_of_length_le h'] at hz; cases hz
    have h1 : i < items.size := hZ ▸ hlt
    have h2 : i < items2.size := hsz ▸ h1
    rw [List.drop_eq_getElem_cons hlt] at hz
    injection hz with hyx hrest
    have hy : y = items[i] := by have := congrArg Prod.fst hyx; simpa using this
    have hx : x = items2[i] := by have := congrArg Prod.snd hyx; simpa using this
    subst hy hx
    refine wpAny_bind (wpAny_mono (turn i h1 h2 s' hI) (fun r s2 q2 => ?_) fun _ _ x => x)
    obtain ⟨hr, q2⟩ := q2
    cases hei : e i with
    | true =>
      rw [hei] at hr
      subst hr
      wp_walk
      refine ⟨rfl, i + 1, hrest, h1, fun j hj => ?_, q2⟩
      rcases Nat.lt_succ_iff_lt_or_eq.mp hj with q | q
      · exact hall j q
      · rw [q]; exact hei
    | false =>
      rw [hei] at hr
      subst hr
      wp_walk
      exact fin (i + 1) s2 q2 h1 false ⟨fun z => (nomatch z), fun z => by rw [z i h1] at hei; cases hei⟩
  case fin =>
    rintro ⟨b1, b2⟩ s' ⟨hb', i, hz, hi, hall, hI⟩
    simp only at hb'
    subst hb'
    have hge : items.size ≤ i := by
      rcases Nat.lt_or_ge i (items.toList.zip items2.toList).length with h' | h'
      · rw [List.drop_eq_getElem_cons h'] at hz; cases hz
      · exact hZ ▸ h'
    have hi' : i = items.size := by omega
    have hR : R (.ok (.ret (.bool true))) s' := fin i s' hI hi true ⟨fun _ j hj => hall j (by omega), fun _ => rfl⟩
    wp_walk
    simpa [Builtin.Tuple.tupleCompareSizes, hsz] using hR
  case h =>
    exact ⟨rfl, 0, rfl, Nat.zero_le _, fun j hj => absurd hj (Nat.not_lt_zero j), h0⟩
end
section
variable {prog : Program} {w : World} {A : Around} {E : Value → Shared → Prop} {s : Shared}
theorem rc_tupB {l b : Addr} {items items2 : Array Value} {Q : Value → Shared → Prop} (hsz : items.size = items2.size) (hu : A.units < cLine) (e : Nat → Bool) (I : Nat → Shared → Prop)
    (hl : s.heap.IsTuple l items) (hb : s.heap.IsTuple b items2)
    (turn : ∀ i (h1 : i < items.size) (h2 : i < items2.size) s, I i s → wpAny (model prog w) A.in1 (eqBool items[i] items2[i]) (fun r s' => r = e i ∧ I (i + 1) s') E s)
    (fin : ∀ i s, I i s → i ≤ items.size → ∀ r : Bool, (r = true ↔ ∀ j, j < items.size → e j = true) → Q (.bool r) s) (h : I 0 s) : wpAny (model prog w) A (richCompare .Eq (.ref l) (.ref b)) Q E s := by
  obtain ⟨⟨cls, dd, data, sl⟩, ho, hc, n, hd⟩ := id hl
  obtain ⟨⟨cls2, dd2, data2, sl2⟩, ho2, hc2, n2, hd2⟩ := id hb
  simp only at hc hd hc2 hd2
  subst hc hd hc2 hd2
  refine wpAny_richCompare_same_room (op := .Eq) ⟨_, ho, rfl⟩ ⟨_, ho2, rfl⟩ F.slot_tuple_eq (call_here F.slot_tuple_eq ⟨_, ho, rfl⟩ F.entry_tuple_eq (F.args_tuple_eq_2 _ _) ?_) hu
  exact tuple_eqB (R := wants (fun v s' => v ≠ .notImplemented ∧ Q v s') E) l b items items2 n n2 dd dd2 sl sl2 hsz e I turn (fun i s' q hi r hr => ⟨(fun x => nomatch x), fin i s' q hi r hr⟩) ho ho2 h
end
end GQ
namespace L2.KK
open PySem PySem.Spec PyProof.Rows C8
section
variable {X : Cx} {C : Addr}
/-- == of two tuples of instances with an own == that changes nothing: e i: the answer at the i-th pair -/
def rEqTI (K : PySem.W.Frag) (C : Addr) (sp : Sp) : R2 := fun x y H Q => ∃ (a b : Addr) (xs ys : List V) (e : Nat → Bool), x = .ref a ∧ y = .ref b ∧ SqT K H a xs ∧ SqT K H b ys ∧ xs.length = ys.length ∧
  (∀ i, i < xs.length → ∃ p q dx dy fs gs, xs[i]? = some (.ref p) ∧ ys[i]? = some (.ref q) ∧ H p = some (.ins C dx fs) ∧ H q = some (.ins C dy gs) ∧ (p = q → e i = true) ∧ (p ≠ q → sp [.ref p, .ref q] H (fun v H' => v = .bl (e i) ∧ H' = H) E0)) ∧
  ∀ r : Bool, (r = true ↔ ∀ i, i < xs.length → e i = true) → Q (.bl r) H
theorem op_eqTI {n : Nat} {f : Addr} {fd : FuncData} {ps : List Str} {sp : Sp} (F : FnOk X.prog X.w X.K X.mg X.base CX0 n f fd ps sp) (me : Meth X.K C "__eq__" f) (hb : Binds X.K fd ps []) (hr : Room (n + 1) X.A) : OpR X (compareOp .Eq) (rEqTI X.K C sp) := by
  intro pins s σ H x y v u Q I rx ry h
  obtain ⟨a, b, xs, ys, e, rfl, rfl, ha, hb', hl, items, q⟩ := h
  cases rx
  cases ry
  obtain ⟨its, r, e1, z⟩ := I.tuple ha
  obtain ⟨its2, r2, e2, z2⟩ := I.tuple hb'
  have hsz : its.toArray.size = its2.toArray.size := by rw [List.size_toArray, List.size_toArray, ← r.length, ← r2.length]; exact hl
  show wpAny (model X.prog X.w) X.A (richCompare .Eq (.ref a) (.ref b)) (EP X pins σ Q) X.xe s
  refine GQ.rc_tupB hsz hr.units0 e (fun _ s' => Inv X pins σ H s') e1 e2 (fun i h1 h2 s' I' => ?_) (fun i s' I' _ k hk => ⟨.bl k, H, I', rfl, q k ⟨fun z i hi => hk.mp z i (by rw [List.size_toArray, ← r.length]; exact hi), fun z => hk.mpr fun i hi => z i (by rw [List.size_toArray, ← r.length] at hi; exact hi)⟩⟩) I
  have k1 : i < xs.length := by rw [r.length]; simpa using h1
  have k2 : i < ys.length := by rw [← hl]; exact k1
  obtain ⟨p, p', dx, dy, fs, gs, g1, g2, hp, hp', same, hsp⟩ := items i k1
  have v1 : its.toArray[i] = .ref p := by
    obtain ⟨u, hu, ru⟩ := r.get g1
    cases ru
    have : its[i]? = some its.toArray[i] := by
      have h1' : i < its.length := by simpa using h1
      rw [List.getElem?_eq_getElem h1'] <;> simp
    rw [this] at hu
    exact Option.some.inj hu
  have v2 : its2.toArray[i] = .ref p' := by
    obtain ⟨u, hu, ru⟩ := r2.get g2
    cases ru
    have : its2[i]? = some its2.toArray[i] := by
      have h1' : i < its2.length := by simpa using h2
      rw [List.getElem?_eq_getElem h1'] <;> simp
    rw [this] at hu
    exact Option.some.inj hu
  rw [v1, v2]
  by_cases hne : p = p'
  · subst hne
    exact SeqAt.EqAt.same (A := X.A.in1) (s := s') (.ref p) X.prog X.w X.xe _ ⟨(same rfl).symm, I'⟩
  · refine GQ.eqBool_refG hne ?_
    obtain ⟨mA, J, _⟩ := ins_get I'.hok hp
    obtain ⟨mB, J', _⟩ := ins_get I'.hok hp'
    obtain ⟨od, J, _⟩ := J.look
    obtain ⟨od', J', _⟩ := J'.look
    have fr : X.A.in1.frames = some X.stack := I'.env0.frames
    obtain ⟨m, hF⟩ := I'.fr
    refine PySem.W.cmp_K (op := .Eq) (tb := .ref C) hr.in1.units0 hF I'.ok.mod.kin J J'.type (by simp [PySem.W.notFirst]) me.at_ me.fn ?_
    have rv : Vals [V.ref p, V.ref p'] [Value.ref p, Value.ref p'] := .cons rfl (.cons rfl .nil)
    refine wpAny_mono (run_in (A := X.A.in1) F fr hr.in1 hb I' rv (hsp hne)) (fun w s2 hq => ?_) fun _ _ x => x
    obtain ⟨v, H', I2, rv2, ⟨ev, eh⟩, _⟩ := ce_inv I' hq
    subst ev eh
    cases rv2
    exact ⟨_, rfl, rfl, I2⟩
/-! ### methods and classes that raise -/
end
section
variable {P : Program} {w : World} {K : PySem.W.Frag} {mg : Str → Option Value} {base : Heap}
structure MetX (P : Program) (w : World) (K : PySem.W.Frag) (mg : Str → Option Value) (base : Heap) (k : Nat) (C : Addr) (m : Str) (sp : Sp) : Prop where
  ex : ∃ (f : Addr) (fd : FuncData) (ps : List Str), Cls K C ∧ Meth K C m f ∧ FnOk P w K mg base (L2.CX P w) k f fd ps sp ∧ Binds K fd ps []
theorem MetX.calm {k : Nat} {C : Addr} {m : Str} {sp : Sp} (c : MetX P w K mg base k C m sp) : Met P w K mg base k C m (fun vs H Q _ => sp vs H Q E0) [] := by
  obtain ⟨f, fd, ps, hc, me, F, b⟩ := c.ex
  exact ⟨f, fd, ps, [], hc, me, fnok_calm F, b, .nil⟩
structure MakY (P : Program) (w : World) (K : PySem.W.Frag) (mg : Str → Option Value) (base : Heap) (k : Nat) (x : Str) (C : Addr) (sp : Sp) : Prop where
  ex : ∃ (f : Addr) (fd : FuncData) (ps : List Str), Mk K C f ∧ FnOk P w K mg base (L2.CX P w) k f fd ps sp ∧ mg x = some (.ref C) ∧ Binds K fd ps []
theorem MakY.calm {k : Nat} {x : Str} {C : Addr} {sp : Sp} (c : MakY P w K mg base k x C sp) : Mak P w K mg base k x C (fun vs H Q _ => sp vs H Q E0) [] := by
  obtain ⟨f, fd, ps, M, F, m, b⟩ := c.ex
  exact ⟨f, fd, ps, [], M, fnok_calm F, m, b, .nil⟩
theorem Met.weak {k : Nat} {C : Addr} {m : Str} {sp sp' : Sp} (c : Met P w K mg base k C m sp []) (h : ∀ vs H Q E, sp' vs H Q E → sp vs H Q E) : Met P w K mg base k C m sp' [] := by
  obtain ⟨f, fd, ps, ds, hc, me, F, b, d⟩ := c.ex
  exact ⟨f, fd, ps, ds, hc, me, F.imp h, b, d⟩
theorem Mak.weak {k : Nat} {x : Str} {C : Addr} {sp sp' : Sp} (c : Mak P w K mg base k x C sp []) (h : ∀ vs H Q E, sp' vs H Q E → sp vs H Q E) : Mak P w K mg base k x C sp' [] := by
  obtain ⟨f, fd, ps, ds, M, F, m, b, d⟩ := c.ex
  exact ⟨f, fd, ps, ds, M, F.imp h, m, b, d⟩
theorem metOfX {m q : Str} {C : Addr} {st : Stmt} {N ps : List Str} {sp : Sp} {k : Nat} (c : Cls K C) (D : MtAt K C m q st) (S : FnScope N ps (defScope st))
    (bn : ∀ (kV doc pm : Value) (an : Option Addr) (cdv ct : Value) (us : List Value), us.length = ps.length → bindArgs (PySem.W.fnOf m q (defArgs st) (defBody st) (defScope st) .none kV doc pm an cdv ct) ⟨us, []⟩ = pure (ps.zip us))
    (len : ∀ vs H Q E, sp vs H Q E → vs.length = ps.length)
    (body : ∀ (f : Addr) (cdv : Value) (A : Around) (outer : List Env) (s : Shared) (H : Hp) (vs : List V) (Q : VK) (E : XK), Room k (A.deeper (envOfC q (defScope st) s.heap.objs.size f cdv)) → sp vs H Q E →
      ∃ t, PSs (cxOf (L2.CX P w) P w K mg base N q (defScope st) f cdv A outer s H E) (defBody st) t ∧ t { nx := fun _ H' => Q .non H', rt := Q } (start N vs) H) : MetX P w K mg base (k + 1) C m sp := by
  obtain ⟨f, fd, F, me⟩ := D.ex
  refine ⟨f, fd, ps, c, me, ?_, F.bindsN bn⟩
  exact F.ok S len fun cdv A outer s H vs Q E hr hsp => body f cdv A outer s H vs Q E hr hsp
theorem makOfY {x q : Str} {C : Addr} {st : Stmt} {N ps : List Str} {sp : Sp} {k : Nat} (hm : mg x = some (.ref C)) (D : InAt K C q st) (S : FnScope N ps (defScope st))
    (bn : ∀ (kV doc pm : Value) (an : Option Addr) (cdv ct : Value) (us : List Value), us.length = ps.length → bindArgs (PySem.W.fnOf "__init__" q (defArgs st) (defBody st) (defScope st) .none kV doc pm an cdv ct) ⟨us, []⟩ = pure (ps.zip us))
    (len : ∀ vs H Q E, sp vs H Q E → vs.length = ps.length)
    (body : ∀ (f : Addr) (cdv : Value) (A : Around) (outer : List Env) (s : Shared) (H : Hp) (vs : List V) (Q : VK) (E : XK), Room k (A.deeper (envOfC q (defScope st) s.heap.objs.size f cdv)) → sp vs H Q E →
      ∃ t, PSs (cxOf (L2.CX P w) P w K mg base N q (defScope st) f cdv A outer s H E) (defBody st) t ∧ t { nx := fun _ H' => Q .non H', rt := Q } (start N vs) H) : MakY P w K mg base (k + 1) x C sp := by
  obtain ⟨f, fd, F, me⟩ := D.ex
  refine ⟨f, fd, ps, me, ?_, hm, F.bindsN bn⟩
  exact F.ok S len fun cdv A outer s H vs Q E hr hsp => body f cdv A outer s H vs Q E hr hsp
end
section
variable {X : Cx} {k j : Nat} {C : Addr} {x m : Str} {sp : Sp} {p pos apos : Pos} {e o : Expr} {es : List Expr} {ta : TE} {t : TA} {W : WX}
def tMethW (C : Addr) (m : Str) (sp : Sp) (E : St → XK) (ta : TE) (t : TA) : TE := fun σ H Q => ta σ H fun x H1 => ∃ a dx fs, x = .ref a ∧ H1 a = some (.ins C dx fs) ∧ fs.lookup m = none ∧ t σ H1 fun vs H2 => sp (x :: vs) H2 Q (E σ)
theorem pe_mtx {pl : Sem Bool} (c : MetX X.prog X.w X.K X.mg X.base k C m sp) (hr : Room j X.A) (hk : k ≤ j) (tk : Takes X W) (he : PE X o ta) (ha : PA X (e :: es) t)
    (hst : starEach (e :: es) X.env = (false, eval e X.env) :: starEach es X.env := by rfl) (hpl : (backTo pos (starEach es X.env)).any (·.1) = false := by rfl)
    (ht : eval (.Call (.Attribute o m apos) (e :: es) [] pos) X.env = (do
      let ov ← eval o X.env
      standAt apos.atName
      let (f, first) ← holding [ov] (getMethod ov m pl)
      callWith pos f first (backTo pos (starEach (e :: es) X.env)) (backToKw pos (keywordEach [] X.env))) := by rfl) :
    PE X (.Call (.Attribute o m apos) (e :: es) [] pos) (tMethW C m sp (WE W) ta t) := by
  obtain ⟨f, fd, ps, hc, hm, F, hb⟩ := c.ex
  refine ⟨fun pins s σ H Q I h => ?_⟩
  refine PySem.W.methodCall_KW (pl := pl) (thn (he.run pins s σ H _ I h) fun u s1 ⟨x, H1, I1, rx, a, dx, fs, ex, ea, l, q⟩ => ?_) ht
  subst ex
  obtain rfl : u = Value.ref a := rx
  refine getmeth_ok I1 ea hc hm l ?_
  refine PySem.W.callWith_K (first := [.ref a]) (h₀ := X.base) I.ok.mod.kin hm.kp (thn (ha.run pos pins s1 σ H1 _ I1 q) fun us s2 ⟨vs, H2, I2, r, q2⟩ => ⟨I2.kIn, ?_⟩) hst hpl
  exact run_fnS (us := .ref a :: us) (vs := .ref a :: vs) F (hr.mono hk) hb (passAt tk σ) I2 (.cons rfl r) q2
def tMakeW (C : Addr) (sp : Sp) (E : St → XK) (t : TA) : TE := fun σ H Q => t σ H fun vs H1 => ∀ x dx, H1 x = none → H1 dx = none → dx ≠ x →
  sp (.ref x :: vs) (upd (upd H1 dx (.own x)) x (.ins C dx [])) (fun v H2 => v = .non ∧ Q (.ref x) H2) (E σ)
theorem pe_mky (c : MakY X.prog X.w X.K X.mg X.base k x C sp) (hr : Room j X.A) (hk : k + 1 ≤ j) (hg : Gl X x) (tk : Takes X W) (ha : PA X (e :: es) t)
    (hdb : (x == ("__debug__" : Str)) = false := by decide) (he : starEach (e :: es) X.env = (false, eval e X.env) :: starEach es X.env := by rfl) (hpl : (backTo pos (starEach es X.env)).any (·.1) = false := by rfl) :
    PE X (.Call (.Name x p) (e :: es) [] pos) (tMakeW C sp (WE W) t) := by
  obtain ⟨f, fd, ps, M, F, hm, hb⟩ := c.ex
  refine ⟨fun pins s σ H Q I h => ?_⟩
  refine wpAny_Call_Name_kw (ld_glob I hg hm ?_ hdb)
  refine PySem.W.callWith_K (h₀ := X.base) I.ok.mod.kin M.kp (thn (ha.run pos pins s σ H _ I h) fun us s1 ⟨vs, H1, I1, r, q⟩ => ⟨I1.kIn, ?_⟩) he hpl
  have hq := q (s1.heap.objs.size + 1) s1.heap.objs.size (I1.hok.fresh (Nat.le_succ _)) (I1.hok.fresh (Nat.le_refl _)) (Nat.ne_of_lt (Nat.lt_succ_self _))
  have I2 := Inv.made (C := C) I1
  have r2 : Vals (V.ref (s1.heap.objs.size + 1) :: vs) (Value.ref (s1.heap.objs.size + 1) :: us) := .cons rfl r
  have hl : (Value.ref (s1.heap.objs.size + 1) :: us).length = ps.length := by
    have e := r2.length
    rw [F.len _ _ _ _ hq] at e
    exact e.symm
  have b := hb _ (Value.ref (s1.heap.objs.size + 1) :: us) I2.kIn (by rw [List.append_nil]; exact hl)
  rw [List.append_nil] at b
  refine wpAny_call (make_map (f := f) I1.kIn M.makes M.init (beq_iff_eq.mp M.fn) (codeAny_mono (F.run _ X.stack _ _ ⟨Value.ref (s1.heap.objs.size + 1) :: us, []⟩ (Value.ref (s1.heap.objs.size + 1) :: us) _ _ (WE W σ) ((hr.mono hk).make C us [])
    (I2.env0.make C us []) b r2 hq) fun r s' hq' => ?_))
  cases r with
  | error e => exact passAt tk σ pins _ _ e s' I2 hq'
  | ok fl =>
    cases fl with
    | ret u =>
      obtain ⟨v, H', I3, rv, ev, q3⟩ := I2.after hq'
      subst ev
      exact ⟨rv, ⟨V.ref (s1.heap.objs.size + 1), H', I3, rfl, q3⟩⟩
    | next => exact False.elim hq'
    | brk => exact False.elim hq'
    | cont => exact False.elim hq'
end
section
variable {X : Cx} {e : Expr} {es : List Expr} {te : TE} {t : TA} {p : Pos}
theorem pa_starK (K : PySem.W.Frag) (he : PE X e te) (hr : PA X es t) (hs : starEach (.Starred e p :: es) X.env = (true, eval e X.env) :: starEach es X.env := by rfl) (h : X.K = K := by rfl) : PA X (.Starred e p :: es) (StX.tStar K te t) := by
  subst h
  exact StX.pa_star he hr hs
end
/-! ### what stands: all but lists and the instances whose first field is named past -/
def MutO : HO → Prop
  | .lst _ => True
  | .ins _ _ [] => True
  | .ins _ _ ((f, _) :: _) => f = "past"
  | _ => False
def Imm (H H' : Hp) : Prop := ∀ b o, H b = some o → ¬ MutO o → H' b = some o
theorem Imm.refl (H : Hp) : Imm H H := fun _ _ h _ => h
theorem Imm.trans {H H1 H2 : Hp} (a : Imm H H1) (b : Imm H1 H2) : Imm H H2 := fun c o h n => b c o (a c o h n) n
theorem Same.imm {H H' : Hp} (e : Same H H') : Imm H H' := fun b o h _ => e b o h
theorem SameT.imm {H H' : Hp} (e : SameT H H') : Imm H H' := fun b o h n => e b o h (by
  cases o with
  | lst _ => exact absurd trivial n
  | _ => trivial)
section
variable {K : PySem.W.Frag} {H H' : Hp} {d c a : Addr} {xs : List V}
theorem Kp.imm (k : Kp d H H') (D : Dr H d c) : Imm H H' := fun b o h n => k b o h fun z => by
  obtain ⟨_, _, _, _, hd, _⟩ := D.ex
  rw [z, hd] at h
  cases h
  exact n trivial
theorem imm_seqT (e : Imm H H') (h : SqT K H a xs) : SqT K H' a xs := by
  rcases h with (h | ⟨o, h⟩) | h
  · exact .inl (.inl (e _ _ h id))
  · exact .inl (.inr ⟨o, e _ _ h id⟩)
  · exact .inr h
theorem Imm.new {H2 : Hp} {p : Addr} {o : HO} (e : Imm H H') (h : H p = none) : Imm H (upd H' p o) := fun b u q n => by
  rw [upd_ne (ne_of_none q h)]
  exact e b u q n
end
theorem imm_upd {H : Hp} {x : Addr} {o0 o : HO} (h : H x = some o0) (m : MutO o0) : Imm H (upd H x o) := fun c u e n => by
  rw [upd_ne (fun z => by
    rw [z, h] at e
    cases e
    exact n m)]
  exact e
theorem kp_imm {H H' : Hp} {x : Addr} {o0 : HO} (k : Kp x H H') (h : H x = some o0) (m : MutO o0) : Imm H H' := fun c u e n => k c u e fun z => by
  rw [z, h] at e
  cases e
  exact n m
theorem kp_none {H H' : Hp} {x c : Addr} (k : Kp x H H') (h : H' c = none) (n : c ≠ x) : H c = none := by
  cases e : H c with
  | none => rfl
  | some o => rw [k c o e n] at h; cases h
/-- what stands but for the objects at M -/
def Chg (M : List Addr) (H H' : Hp) : Prop := ∀ b o, H b = some o → b ∉ M → H' b = some o
theorem Chg.trans {M : List Addr} {H H1 H2 : Hp} (a : Chg M H H1) (b : Chg M H1 H2) : Chg M H H2 := fun c o h n => b c o (a c o h n) n
theorem Same.chg {M : List Addr} {H H' : Hp} (e : Same H H') : Chg M H H' := fun b o h _ => e b o h
end L2.KK
/-! a list comprehension whose element may let an exception out of a call -/
namespace L2.KK
open PySem PySem.Spec PyProof.Rows C8
/-- an exception that flew out of a call within a comprehension's block -/
def XB (Y : Cx) (E : XK) (u : Value) (t : Shared) : Prop :=
  ∃ (a : Addr) (B : Heap) (sI : Shared) (pins : List (Addr × Obj)) (σ : St) (H : Hp) (cls : Value) (d : Option Addr), u = .ref a ∧ Inv Y pins σ H sI ∧
    (∀ b o, sI.heap.get? b = some o → b ∉ frs Y.stack → B.get? b = some o) ∧ sI.heap.UpToSlots t.heap ∧ HandSPX.FlyingZ B Y.stack a (Zc cls d) t.heap ∧ H a = none ∧ t.os = sI.os ∧ AllBare t.gens ∧ E cls d H
theorem traced_uniq {h B B' : Heap} {a : Addr} {Z Z' : Obj → Prop} {fl fl' : Value} (x : HandSPX.TracedZ h B a Z fl) (y : HandSPX.TracedZ h B' a Z' fl') : fl = fl' := by
  obtain ⟨o1, v1, T1, p1, t1, h1, _, d1, e1, _, _, g1, q1, r1⟩ := x
  obtain ⟨o2, v2, T2, p2, t2, h2, _, d2, e2, _, _, g2, q2, r2⟩ := y
  rw [h1] at h2
  cases h2
  rw [d1] at d2
  cases d2
  rw [e1] at e2
  cases e2
  rw [g1] at g2
  cases g2
  rw [q1] at q2
  cases q2
  rw [r1] at r2
  exact Option.some.inj r2
theorem traced_not_new {h B : Heap} {a : Addr} {Z : Obj → Prop} {fl : Value} {oe : Obj} {vs : Array Value} (x : HandSPX.TracedZ h B a Z fl) (h1 : h.get? a = some oe) (h2 : oe.data = .fields vs) (h3 : vs[1]? = some .none) : False := by
  obtain ⟨o1, v1, T1, p1, t1, g1, _, d1, e1, _⟩ := x
  rw [g1] at h1
  cases h1
  rw [d1] at h2
  cases h2
  rw [e1] at h3
  cases h3
theorem passB {Y : Cx} {E : XK} (σ : St) : PassesAt (L2.CX Y.prog Y.w) (Y.wish (XB Y E)) σ (fun cls d H => E cls d H) := fun pins H s e t I c => by
  have I' : Inv Y pins σ H s := I.unwish
  have x : XE Y (fun cls d _ H => E cls d H) e t := XE.of_call I' (fun _ _ _ h => h) c
  obtain ⟨a, B, sI, pins', σ', H', cls, d, e1, I2, nb, up, sky, na, os, ag, q⟩ := x
  obtain ⟨a2, B2, _, _, _, e2, fl2, _⟩ := c
  rw [e1] at e2
  cases e2
  refine ⟨a, B, sI, pins', σ', H', cls, d, e1, I2, nb, up, ?_, na, os, ag, q⟩
  rcases sky with ⟨_, _, _, oe, vs, he, _, hd, h1⟩ | fl | hh
  · exact (traced_not_new fl2.2.2.2 he hd h1).elim
  · exact fl
  · have := traced_uniq hh.2.2.2 fl2.2.2.2
    exact absurd this (by simp [rawInt])
section
variable {X Y : Cx} {E : XK} {C : Addr} {ce : Env} {u : Value} {t : Shared} {pins : List (Addr × Obj)} {σ : St}
/-- .. noted by the def's frame, let go by the comprehension, the def's own air -/
theorem note_out (tk : Takes X fun cls d _ H => E cls d H) (hfr : X.A.frames = some (X.env :: X.outer)) (hst : X.stack = X.env :: X.outer) (hfm : X.env.frame = some X.env.locals) (hys : Y.stack = X.stack) (hye : Y.env = ce) (hcf : ce.frame = X.env.frame)
    (back : ∀ (pins' : List (Addr × Obj)) (σ' : St) (H' : Hp) (sI : Shared), Inv Y pins' σ' H' sI → Inv X pins σ H' { sI with heap := PySem.W.hideAll sI.heap [ce.locals] }) (x : XB Y E u t) :
    notedBy (model X.prog X.w) X.A ce (CompFails (model X.prog X.w) X.A X.xe ce) u t := by
  obtain ⟨a, B, sI, pins', σ', H', cls, d, rfl, I6, nb, up, fl, na, os, ag, q⟩ := x
  show wpAny (model X.prog X.w) X.A (noteFrame (.ref a) ce) (fun _ t1 => CompFails (model X.prog X.w) X.A X.xe ce (.ref a) t1) (fun e t1 => CompFails (model X.prog X.w) X.A X.xe ce e t1) t
  rw [noteFrame_env _ hcf]
  rw [hys] at fl nb
  rw [hst] at fl
  refine HandSPX.looks_onZ Zc.steady hfr hfm fl fun h1 hh1 up1 => ?_
  obtain ⟨m, hn, _⟩ := I6.loc
  rw [hye] at hn
  have n2 : h1.Ns ce.locals m := (hn.upToSlots up).upToSlots up1
  refine ⟨m, n2, fun h2 m2 k2 sb => ?_⟩
  obtain ⟨f1, f2, f3, f4⟩ := hh1
  have bne : ∀ b o, (PySem.W.hideAll B [ce.locals]).get? b = some o → b ≠ ce.locals := fun b o e z => by
    rw [PySem.W.hideAll_none [ce.locals] (by rw [z]; exact List.mem_singleton.mpr rfl)] at e
    cases e
  have ine : ∀ b o, (PySem.W.hideAll sI.heap [ce.locals]).get? b = some o → b ≠ ce.locals := fun b o e z => by
    rw [PySem.W.hideAll_none [ce.locals] (by rw [z]; exact List.mem_singleton.mpr rfl)] at e
    cases e
  have hnone : ∀ b, B.get? b = none → (PySem.W.hideAll B [ce.locals]).get? b = none := fun b hb => by
    cases e : (PySem.W.hideAll B [ce.locals]).get? b with
    | none => rfl
    | some o =>
      have z := PySem.W.of_hideAll [ce.locals] e
      rw [hb] at z
      cases z
  have g1 : (PySem.W.hideAll B [ce.locals]).StaysIn h2 := fun b o e => (sb.2 b (bne b o e)).trans (f1 b o (PySem.W.of_hideAll [ce.locals] e))
  have f3' : h2.FunFrames B (X.env :: X.outer) := Heap.FunFrames.sameBut sb k2 f3
  have g3 : h2.FunFrames (PySem.W.hideAll B [ce.locals]) (X.env :: X.outer) := funFrames_none f3' fun b hb => hnone b (f3'.mem hb).1
  obtain ⟨oL, es, ep, hoL, hdL, _⟩ := n2
  obtain ⟨oe, vs, T, oT, ts, he, hz, hd, e1, hnT, hTe, hT, hdT, e3⟩ := f4
  have a1 : a ≠ ce.locals := fun z => by
    rw [z, hoL] at he
    cases he
    rw [hdL] at hd
    cases hd
  have a2 : T ≠ ce.locals := fun z => by
    rw [z, hoL] at hT
    cases hT
    rw [hdL] at hdT
    cases hdT
  have he2 := (sb.2 a a1).trans he
  have hT2 := (sb.2 T a2).trans hT
  have g4 : HandSPX.TracedZ h2 (PySem.W.hideAll B [ce.locals]) a (Zc cls d) (rawInt X.env.locals) := ⟨oe, vs, T, oT, ts, he2, hz, hd, e1, hnone T hnT, hTe, hT2, hdT, e3⟩
  unfold PySem.passOn
  refine wpAny_bind (wpAny_field he2 hd e1 ?_)
  rw [if_neg (show ¬ ((Value.ref T == Value.none) = true) from by simp), hcf, hfm]
  refine wpAny_bind (HandSPX.setFlight_onZ (l := X.env :: X.outer) ⟨g1, hnone a f2, g3, g4⟩ fun h3 hh3 up3 => ?_)
  refine wpAny_throw ?_
  refine tk _ _ ⟨a, PySem.W.hideAll B [ce.locals], _, pins, σ, H', cls, d, rfl, back pins' σ' H' sI I6, fun b o e hb => ?_, fun b o e hnf => ?_, ?_, na, os, ag, q⟩
  · exact PySem.W.hideAll_get [ce.locals] (nb b o (PySem.W.of_hideAll [ce.locals] e) hb) fun z => ine b o e (List.mem_singleton.mp z)
  · obtain ⟨l1, r1⟩ := up b o (PySem.W.of_hideAll [ce.locals] e) hnf
    obtain ⟨l2, r2⟩ := up1 b _ r1 hnf
    have r3 := (sb.2 b (ine b o e)).trans r2
    obtain ⟨l4, r4⟩ := up3 b _ r3 hnf
    exact ⟨l4, r4⟩
  · rw [hst]
    exact .inr (.inr hh3)
/-- what a block's state is to the def around it, the block's own names hidden -/
theorem blk_back {H3 : Hp} {s3 sI : Shared} {scope : Scope} {fp : List Addr} {pins' : List (Addr × Obj)} {σ' : St} {H' : Hp} (I3 : Inv X pins σ H3 s3) (hC : ce.locals = s3.heap.objs.size) (hfp : ∀ b ∈ fp, FpOk X pins H3 b)
    (J : Inv (X.blk s3 H3 scope ce fp) pins' σ' H' sI) : Inv X pins σ H' { sI with heap := PySem.W.hideAll sI.heap [ce.locals] } := by
  have old : ∀ b o, s3.heap.get? b = some o → b ∉ [ce.locals] := fun b o e z => by
    have h1 := Heap.lt_size e
    rw [List.mem_singleton.mp z, hC] at h1
    exact Nat.lt_irrefl _ h1
  have nC : H' ce.locals = none := J.free
  have U := J.base
  refine I3.call' (ch := fp) J.os ⟨fun b o e n1 n2 n3 => PySem.W.hideAll_get _ (U.keep b o e n1 n2 n3) (old b o e), fun b o e n1 n2 n3 => ?_, U.free, fun b o e n3 => ?_, U.tups, U.frzs, U.tbls⟩
    (fun b o e => (J.hok b o e).stay (fun c v hc r => PySem.W.hideAll_get _ r fun z => ?_) (fun _ r => r) fun _ _ r => r) J.bare fun b hb => ⟨(hfp b hb).2.2.2.1, (hfp b hb).2.1, (hfp b hb).2.2.2.2.1, (hfp b hb).2.2.2.2.2⟩
  · obtain ⟨sl, r⟩ := U.slot b o e n1 n2 n3
    exact ⟨sl, PySem.W.hideAll_get _ r (old b o e)⟩
  · obtain ⟨o2, r⟩ := U.there b o e n3
    exact ⟨o2, PySem.W.hideAll_get _ r (old b o e)⟩
  · rw [List.mem_singleton.mp z] at hc
    rcases hc with hc | hc
    · rw [← hc, nC] at e
      cases e
    · rw [nC] at hc
      cases hc
end
section
variable {X : Cx} {E : XK}
/-- [element for target in iterable if ..], the element's calls may raise -/
theorem pe_lcX {elt tg iter : Expr} {ifs : List Expr} {scope : Scope} {own : List (Str × Nat)} {pos : Pos} {wi : TI} {g : TG} {tt : TT} {te : TE} (tk : Takes X fun cls d _ H => E cls d H) (hst : X.stack = X.env :: X.outer) (hfm : X.env.frame = some X.env.locals)
    (hc : X.calm = true) (hN : X.N.Nodup) (hi : PI X tg iter wi) (ok : BlkOk X.N X.env.scope scope own)
    (hg : ∀ (s : Shared) (H : Hp) (C : Addr) (cl : List (Str × Addr)) (fp : List Addr), PG (X.blk s H scope (compEnvC scope cl C X.env) fp) tg g)
    (ht : ∀ (s : Shared) (H : Hp) (C : Addr) (cl : List (Str × Addr)) (fp : List Addr), PTs (X.blk s H scope (compEnvC scope cl C X.env) fp) ifs tt)
    (he : ∀ (s : Shared) (H : Hp) (C : Addr) (cl : List (Str × Addr)) (fp : List Addr), PE ((X.blk s H scope (compEnvC scope cl C X.env) fp).wish (XB (X.blk s H scope (compEnvC scope cl C X.env) fp) E)) elt te)
    (hs : ∀ x, foldedSetIterable iter X.env x = pure x := by intro _; rfl) : PE X (.ListComp elt [⟨tg, iter, ifs, 0⟩] scope pos) (tLc wi g tt te (own.map (·.2))) := by
  refine ⟨fun pins s σ H Q I h => ?_⟩
  have hfree : ∀ y ∈ scope.names, y.2 = .free → ∃ c, X.env.cells.lookup y.1 = some c := fun y hy e => by
    have := ok.free y hy e
    rcases this with this | this
    · exact I.ok.has y.1 (.inl this)
    · exact I.ok.has y.1 (.inr this)
  have hfr : X.A.frames = some (X.env :: X.outer) := by rw [I.ok.frames, hst]
  rw [eval_ListComp]
  refine comprehension_at (use := none) rfl hs (closure_ok hfree) ok.kind (fun y hy e => by rw [ok.uniq y hy, e]) ?_
  refine thn (hi.run pins s σ H _ I h) fun u1 t1 r1 => ?_
  refine thn r1 fun u2 t2 r2 => ?_
  obtain ⟨it, fp, tn, J, H2, rfl, I2, T, st2, ff2, q2⟩ := r2
  refine wpAny_newObj_type (newEnv_comp ?_) (by show 0 ≤ sizeLine; decide)
  obtain ⟨D, eD⟩ : ∃ D, t2.heap.objs.size = D := ⟨_, rfl⟩
  rw [eD]
  obtain ⟨W, ⟨mS, wS⟩, turn⟩ := q2 D (I2.hok.fresh (Nat.le_of_eq eD))
  -- with the new list
  have I3 : Inv X pins σ (upd H2 D (.lst [])) { t2 with heap := t2.heap.push { cls := .type "list", data := .seq ([] : List Value).toArray } } := by
    refine I2.laid (t' := t2.toks) (fun b o e => Heap.get?_push_of_some _ e) (Nat.le_of_eq eD) ⟨Nat.zero_le _, [], 0, .nil, ?_⟩
    rw [← eD]
    exact Heap.get?_push_size _ rfl
  have old3 : ∀ b o, t2.heap.get? b = some o → (t2.heap.push { cls := .type "list", data := .seq ([] : List Value).toArray }).get? b = some o := fun b o e => Heap.get?_push_of_some _ e
  have size3 : (t2.heap.push { cls := .type "list", data := .seq ([] : List Value).toArray }).objs.size = D + 1 := by rw [Heap.size_push, eD]
  revert I3 old3 size3
  generalize t2.heap.push { cls := .type "list", data := .seq ([] : List Value).toArray } = h3
  intro I3 old3 size3
  obtain ⟨t3, e3⟩ : ∃ t3 : Shared, { t2 with heap := h3 } = t3 := ⟨_, rfl⟩
  have e3h : h3 = t3.heap := by rw [← e3]
  rw [e3] at I3
  rw [e3]
  rw [e3h] at old3 size3
  have lt2 : ∀ b ∈ fp, b < D := fun b hb => by
    obtain ⟨o, e, _⟩ := T.obj _ _ st2 b hb
    rw [← eD]
    exact Heap.lt_size e
  have ff3 : ∀ b ∈ fp, FpOk X pins (upd H2 D (.lst [])) b ∧ b < t3.heap.objs.size := fun b hb => by
    have h1 := lt2 b hb
    refine ⟨⟨?_, (ff2 b hb).2⟩, by rw [size3]; exact Nat.lt_succ_of_lt h1⟩
    rw [upd_ne (Nat.ne_of_lt h1)]
    exact (ff2 b hb).1
  have st3 : tn 0 t3.heap := T.keep _ _ _ st2 fun b _ o e => old3 b o e
  have I4 := block_start I3 ok hN ff3
  have pg := hg t3 (upd H2 D (.lst [])) t3.heap.objs.size (cellsFrom (t3.heap.objs.size + 1) scope.names (cloFrom X.env.cells scope.names [])) fp
  have pt := ht t3 (upd H2 D (.lst [])) t3.heap.objs.size (cellsFrom (t3.heap.objs.size + 1) scope.names (cloFrom X.env.cells scope.names [])) fp
  have pe := he t3 (upd H2 D (.lst [])) t3.heap.objs.size (cellsFrom (t3.heap.objs.size + 1) scope.names (cloFrom X.env.cells scope.names [])) fp
  show codeAny (model X.prog X.w) X.A (.compStart (.ListComp elt [⟨tg, iter, ifs, 0⟩] scope pos) 0 (.ref it) (.ref D) (compEnvC scope (cellsFrom (t3.heap.objs.size + 1) scope.names (cloFrom X.env.cells scope.names [])) t3.heap.objs.size X.env))
    (compEnds (model X.prog X.w) X.A X.xe none (EP X pins σ Q) (.ref D) (compEnvC scope (cellsFrom (t3.heap.objs.size + 1) scope.names (cloFrom X.env.cells scope.names [])) t3.heap.objs.size X.env)) { t3 with heap := pushCells (t3.heap.push { cls := .type "dict", data := .dict #[] }) scope.names }
  have old4 : ∀ b o, t3.heap.get? b = some o → (pushCells (t3.heap.push { cls := .type "dict", data := .dict #[] }) scope.names).get? b = some o := fun b o e => pushCells_keeps _ _ _ _ (Heap.get?_push_of_some _ e)
  obtain ⟨ce, ece⟩ : ∃ ce, compEnvC scope (cellsFrom (t3.heap.objs.size + 1) scope.names (cloFrom X.env.cells scope.names [])) t3.heap.objs.size X.env = ce := ⟨_, rfl⟩
  have cL : ce.locals = t3.heap.objs.size := by rw [← ece]; rfl
  have cF : ce.frame = X.env.frame := by rw [← ece]; rfl
  rw [ece] at I4 pg pt pe ⊢
  obtain ⟨t4, e4⟩ : ∃ t4 : Shared, { t3 with heap := pushCells (t3.heap.push { cls := .type "dict", data := .dict #[] }) scope.names } = t4 := ⟨_, rfl⟩
  have st4 : tn 0 t4.heap := T.keep _ _ _ st3 fun b _ o e => by rw [← e4]; exact old4 b o e
  rw [e4] at I4 ⊢
  clear e4 old4 e3 e3h old3 size3 st3 h r1
  have nfp : ∀ b ∈ fp, upd H2 D (.lst []) b = none := fun b hb => (ff3 b hb).1.1
  obtain ⟨H3, eH3⟩ : ∃ H3, upd H2 D (.lst []) = H3 := ⟨_, rfl⟩
  rw [eH3] at wS I3 I4 pg pt pe
  have nfp3 : ∀ b ∈ fp, H3 b = none := fun b hb => by rw [← eH3]; exact nfp b hb
  have fp3 : ∀ b ∈ fp, FpOk X pins H3 b := fun b hb => by rw [← eH3]; exact (ff3 b hb).1
  have hand : ∀ {σ' : St} {H' : Hp} {t : Shared}, Inv (X.blk t3 H3 scope ce fp) [] σ' H' t → (∀ b ∈ fp, H' b = none) → ∀ b ∈ fp, FpOk (X.blk t3 H3 scope ce fp) [] H' b := fun {σ' H' t} K hn b hb =>
    ⟨hn b hb, (K.ok.exf b hb).1, K.ok.exfs b hb, .inl hb, fun x c e => (K.ok.exf b hb).2 x c e, fun p hp => absurd (show p ∈ ([] : List (Addr × Obj)) ++ [] from hp) (by simp)⟩
  have outX : ∀ (e : Value) (t : Shared), XB (X.blk t3 H3 scope ce fp) E e t → notedBy (model X.prog X.w) X.A ce (CompFails (model X.prog X.w) X.A X.xe ce) e t := fun e t x =>
    note_out (Y := X.blk t3 H3 scope ce fp) tk hfr hst hfm rfl rfl cF (fun pins' σ' H' sI K => blk_back I3 cL fp3 K) x
  have loop : codeAny (model X.prog X.w) X.A (.compLoop (.ListComp elt [⟨tg, iter, ifs, 0⟩] scope pos) 0 (.ref it) (.ref D) ce) (compEnds (model X.prog X.w) X.A X.xe none (EP X pins σ Q) (.ref D) ce) t4 := by
    refine compLoop_any (fun n t => ∃ i H', Inv (X.blk t3 H3 scope ce fp) [] (wipe σ (own.map (·.2))) H' t ∧ tn i t.heap ∧ (∀ b ∈ fp, H' b = none) ∧ W i n H') ?_ mS ⟨0, H3, I4, st4, nfp3, wS⟩
    rintro n t5 ⟨i, H5, I5, st5, n5, w5⟩
    rcases turn i n H5 w5 with ⟨stop, fin⟩ | ⟨go, Nx, hNx, step⟩
    · refine thnF (T.done (X.blk t3 H3 scope ce fp) rfl rfl rfl hc i [] t5 _ H5 (fun _ _ => False) I5 (hand I5 n5) st5 stop) fun r t6 ⟨er, I6⟩ => ?_
      subst er
      have I7 : Inv X pins σ H5 t6 := I3.call' (ch := fp) I6.os I6.base I6.hok I6.bare fun b hb => by
        obtain ⟨_, k1, _, k2, k3, k4⟩ := fp3 b hb
        exact ⟨k2, k1, k3, k4⟩
      have nC : H5 ce.locals = none := I6.free
      obtain ⟨m, hn, _⟩ := I6.loc
      have f := I3.fpOk (H' := H5) (b := ce.locals) (by rw [cL]; exact Nat.le_refl _) nC
      refine ⟨m, hn, fun h6 sb => ?_⟩
      obtain ⟨f0, f1, f2, f3, f4, f5⟩ := f
      exact ⟨.ref D, H5, I7.turned (t' := t6.toks) (fun b o hb e => (sb.2 b hb).trans e) f0 f1 f3 f4 f5, rfl, fin⟩
    · refine thnF (T.item (X.blk t3 H3 scope ce fp) rfl rfl rfl hc i [] t5 _ H5 (fun _ _ => False) I5 (hand I5 n5) st5 go) fun r t6 ⟨u, er, k6⟩ => ?_
      subst er
      refine thnF k6 fun _ t7 ⟨x, H7, I7, r7, y7, st7, n7⟩ => ?_
      have I7' := I7.pinned (hand I7 n7) (T.obj _ _ st7)
      refine thnF (pg.run _ t7 _ H7 x u _ I7' r7 (step x H7 y7)) fun _ t8 ⟨σ8, H8, I8, hw8, q8⟩ => ?_
      refine thnF (pt.run _ t8 σ8 H8 _ I8 q8) fun b t9 ⟨H9, I9, q9⟩ => ?_
      have more : ∀ {t : Shared} {H' : Hp}, Inv (X.blk t3 H3 scope ce fp) ([] ++ pinsAt fp t7.heap) σ8 H' t → Nx H' → ∃ m, m < n ∧ ∃ i H', Inv (X.blk t3 H3 scope ce fp) [] (wipe σ (own.map (·.2))) H' t ∧ tn i t.heap ∧ (∀ b ∈ fp, H' b = none) ∧ W i m H' := fun {t H'} K nx => by
        obtain ⟨m2, hm2, w2⟩ := hNx H' nx
        have stay : ∀ b ∈ fp, ∀ o, t7.heap.get? b = some o → t.heap.get? b = some o ∧ H' b = none := fun b hb o e => by
          have z := K.pin (b, o) (List.mem_append_right _ (List.mem_append_right _ (mem_pinsAt hb e)))
          exact ⟨z.1, z.2.1⟩
        refine ⟨m2, hm2, i + 1, H', (K.unpinned (pins := [])).weak (by rw [← hw8, wipe_length]) (fun j v e => ?_), T.keep _ _ _ st7 fun b hb o e => (stay b hb o e).1, fun b hb => ?_, w2⟩
        · rw [← hw8] at e
          exact (wipe_some e).1
        · obtain ⟨o, e, _⟩ := T.obj _ _ st7 b hb
          exact (stay b hb o e).2
      cases b with
      | false =>
        rw [if_neg Bool.false_ne_true] at q9 ⊢
        exact more I9 q9
      | true =>
        rw [if_pos rfl] at q9 ⊢
        refine wpAny_mono (pe.run _ t9 σ8 H9 _ (I9.wish _) q9) (fun z t10 ⟨yv, H10, I10, r10, acc, hD10, hz10, nx⟩ => ?_) fun e t10 x => outX e t10 x
        exact app_ok (X := X.blk t3 H3 scope ce fp) I10.unwish hD10 hz10 r10 fun t11 I11 => more I11 nx
  exact codeAny_compStart_list loop (T.self X.A 0 _ _ _ st4 loop)
/-- a raising call in a block -/
theorem pe_cxB {Y : Cx} {x : Str} {e : Expr} {es : List Expr} {ta : TA} {p1 pos : Pos} {k j : Nat} {sp : Sp} (c : CalX Y.prog Y.w Y.K Y.mg Y.base k x sp) (hr : Room j Y.A) (hk : k ≤ j) (hg : Gl (Y.wish (XB Y E)) x) (ha : PA (Y.wish (XB Y E)) (e :: es) ta)
    (hdb : (x == ("__debug__" : Str)) = false := by decide) (he : starEach (e :: es) Y.env = (false, eval e Y.env) :: starEach es Y.env := by rfl) (hpl : (backTo pos (starEach es Y.env)).any (·.1) = false := by rfl) :
    PE (Y.wish (XB Y E)) (.Call (.Name x p1) (e :: es) [] pos) (tCallS sp (WE fun cls d _ H => E cls d H) ta) := by
  obtain ⟨f, fd, ps, F, m, kp, b⟩ := c.ex
  exact pe_callS (X := Y.wish (XB Y E)) F (hr.mono hk) hg m kp b (fun σ => passB σ) ha hdb he hpl
end
end L2.KK
/-! for sign in '()': text = text.replace(sign, ' ' + sign + ' ') : a sign that a loop hands out, as the old text -/
namespace L2.KK
open PySem PySem.Spec PyProof.Rows L2
/-- a tree that asks, reads and stores, but calls nobody -/
def Flat {α : Type} : Sem α → Prop
  | .pure _ => True
  | .raise _ => True
  | .unsupported _ => True
  | .finish _ => True
  | .rule _ k => Flat (k ())
  | .at _ k => Flat (k ())
  | .load _ _ k => ∀ o, Flat (k o)
  | .update _ _ _ k => Flat (k ())
  | .fresh k => ∀ t, Flat (k t)
  | .ask k => ∀ w, Flat (k w)
  | _ => False
theorem flat_bind {α β : Type} {f : α → Sem β} : ∀ {m : Sem α}, Flat m → (∀ a, Flat (f a)) → Flat (m.bind f) := by
  intro m
  induction m with
  | pure a => intro _ h; exact h a
  | raise e => intro _ _; trivial
  | unsupported _ => intro _ _; trivial
  | finish _ => intro _ _; trivial
  | rule _ k ih => intro hm h; exact ih () hm h
  | «at» _ k ih => intro hm h; exact ih () hm h
  | load _ _ k ih => intro hm h o; exact ih o (hm o) h
  | update _ _ _ k ih => intro hm h; exact ih () hm h
  | fresh k ih => intro hm h t; exact ih t (hm t) h
  | ask k ih => intro hm h w; exact ih w (hm w) h
  | alloc _ _ _ => intro hm; exact hm.elim
  | loadIfAlive _ _ _ => intro hm; exact hm.elim
  | point _ _ _ => intro hm; exact hm.elim
  | register _ _ _ => intro hm; exact hm.elim
  | choose _ _ _ _ => intro hm; exact hm.elim
  | os _ _ _ _ => intro hm; exact hm.elim
  | call _ _ _ _ _ _ => intro hm; exact hm.elim
  | handled _ _ _ => intro hm; exact hm.elim
  | newGen _ _ _ => intro hm; exact hm.elim
  | genState _ _ _ => intro hm; exact hm.elim
  | resume _ _ _ _ _ => intro hm; exact hm.elim
  | yield _ _ _ _ _ => intro hm; exact hm.elim
  | stack _ _ => intro hm; exact hm.elim
  | fork _ _ _ => intro hm; exact hm.elim
  | thread _ _ => intro hm; exact hm.elim
  | await _ _ _ _ _ _ => intro hm; exact hm.elim
theorem flat_wp {α : Type} (M : Model) (Γ : PySem.Ctx) (t : Sem α) : ∀ (Q Q' : α → Pos → Shared → Prop) (E E' : Value → Pos → Shared → Prop) (p : Pos) (s : Shared), Flat t → Sem.wp M Γ t Q E p s → Sem.wp M Γ t Q' E' p s →
    Sem.wp M Γ t (fun a p s => Q a p s ∧ Q' a p s) (fun e p s => E e p s ∧ E' e p s) p s := by
  induction t with
  | pure a => intro Q Q' E E' p s _ h h'; exact ⟨h, h'⟩
  | raise e => intro Q Q' E E' p s _ h h'; exact ⟨h, h'⟩
  | unsupported _ => intro Q Q' E E' p s _ h h'; exact h
  | finish _ => intro Q Q' E E' p s _ h h'; exact h
  | rule _ k ih => intro Q Q' E E' p s hf h h'; exact ih () Q Q' E E' p s hf h h'
  | «at» p' k ih => intro Q Q' E E' p s hf h h'; exact ih () Q Q' E E' p' s hf h h'
  | load a _ k ih =>
    intro Q Q' E E' p s hf h h'
    obtain ⟨o, ho, h⟩ := h
    obtain ⟨o', ho', h'⟩ := h'
    rw [ho] at ho'
    cases ho'
    exact ⟨o, ho, ih o Q Q' E E' p s (hf o) h h'⟩
  | update a _ f k ih => intro Q Q' E E' p s hf h h'; exact ⟨h.1, ih () Q Q' E E' p _ hf h.2 h'.2⟩
  | fresh k ih => intro Q Q' E E' p s hf h h'; exact ih _ Q Q' E E' p _ (hf _) h h'
  | ask k ih => intro Q Q' E E' p s hf h h'; exact ih _ Q Q' E E' p s (hf _) h h'
  | alloc _ _ _ => intro Q Q' E E' p s hf; exact hf.elim
  | loadIfAlive _ _ _ => intro Q Q' E E' p s hf; exact hf.elim
  | point _ _ _ => intro Q Q' E E' p s hf; exact hf.elim
  | register _ _ _ => intro Q Q' E E' p s hf; exact hf.elim
  | choose _ _ _ _ => intro Q Q' E E' p s hf; exact hf.elim
  | os _ _ _ _ => intro Q Q' E E' p s hf; exact hf.elim
  | call _ _ _ _ _ _ => intro Q Q' E E' p s hf; exact hf.elim
  | handled _ _ _ => intro Q Q' E E' p s hf; exact hf.elim
  | newGen _ _ _ => intro Q Q' E E' p s hf; exact hf.elim
  | genState _ _ _ => intro Q Q' E E' p s hf; exact hf.elim
  | resume _ _ _ _ _ => intro Q Q' E E' p s hf; exact hf.elim
  | yield _ _ _ _ _ => intro Q Q' E E' p s hf; exact hf.elim
  | stack _ _ => intro Q Q' E E' p s hf; exact hf.elim
  | fork _ _ _ => intro Q Q' E E' p s hf; exact hf.elim
  | thread _ _ => intro Q Q' E E' p s hf; exact hf.elim
  | await _ _ _ _ _ _ => intro Q Q' E E' p s hf; exact hf.elim
theorem flat_any {α : Type} {M : Model} {A : Around} {s : Shared} {t : Sem α} {Q Q' : α → Shared → Prop} {E E' : Value → Shared → Prop} (hf : Flat t) (h : wpAny M A t Q E s) (h' : wpAny M A t Q' E' s) :
    wpAny M A t (fun a s => Q a s ∧ Q' a s) (fun e s => E e s ∧ E' e s) s := fun Γ p hΓ => flat_wp M Γ t _ _ _ _ p s hf (h Γ p hΓ) (h' Γ p hΓ)
theorem flat_nsSet (ns : Addr) (name : Str) (v : Value) : Flat (nsSet ns name v) := by
  refine flat_bind (m := strHash name) (fun w => ?_) fun h => flat_bind (m := mkText name) (fun t => trivial) fun key => fun o => ?_
  · trivial
  · show Flat (match o.data with | .dict es _ => _ | _ => _)
    cases o.data <;> first | trivial | skip
    rename_i es n
    show Flat (if aRefKeyMayBeTheName name es = true then _ else _)
    split <;> trivial
section
variable {X : Cx} {pins : List (Addr × Obj)} {σ : St} {H : Hp} {s : Shared}
/-- a store to a local name: what the frame then holds there is known in full -/
theorem store_raw {M : Model} {A : Around} {E : Value → Shared → Prop} {i : Nat} {x : Str} {v : V} {u : Value} {Q : Unit → Shared → Prop} (I : Inv X pins σ H s) (hN : X.N.Nodup) (hi : X.N[i]? = some x) (hk : X.env.scope.names.lookup x = some .local) (r : RelV v u)
    (h : ∀ (h' : Heap) (m : Str → Option Value), Inv X pins (σ.set i (some v)) H { s with heap := h', toks := s.toks + 1 } → h'.Ns X.env.locals m → m x = some u → Heap.SameBut X.env.locals s.heap h' → Q () { s with heap := h', toks := s.toks + 1 }) :
    wpAny M A (storeName X.env x u) Q E s := by
  obtain ⟨m, hn, _⟩ := id I.loc
  have hcls : (X.env.scope.kind == .class || (X.env.scope.kind == .module && X.env.locals != X.env.globals)) = false := by rw [I.ok.kind]; rfl
  have hkk : X.env.kindOf x = some .local := hk
  have a := store_ok (M := M) (A := A) (E := E) (Q := fun _ s' => Inv X pins (σ.set i (some v)) H s') I hN hi (.inl hk) r (fun s' I' => I') (.inr hk)
  have b := wpAny_storeName_local (M := M) (A := A) (E := E) (v := u) (Q := fun _ s' => ∃ h' : Heap, s' = { s with heap := h', toks := s.toks + 1 } ∧ h'.Ns X.env.locals (fun y => if y = x then some u else m y) ∧ Heap.SameBut X.env.locals s.heap h') hkk hn
    (fun h' h1 h2 => ⟨h', rfl, h1, h2⟩) hcls
  rw [storeName_local hkk hcls] at a b ⊢
  refine wpAny_mono (flat_any (flat_nsSet _ _ _) a b) (fun _ s' q => ?_) fun _ _ e => e.1
  obtain ⟨q1, h', rfl, q2, q3⟩ := q
  exact h h' _ q1 q2 (by simp) q3
/-- a sign, put between two texts, replaced in a text, sign by sign of a written text -/
def surr (b1 b2 : Str) (c : Nat) : Str := (b1 ++ ⟨#[c]⟩) ++ b2
def tSigns (lit b1 b2 : Str) (it : Nat) : TS := fun D σ H => ∃ xs : Nat → Str, σ[it]? = some (some (.str (xs 0))) ∧
  (∀ i c, lit.cps[i]? = some c → (xs i).length + ((xs i).length + 1) * (surr b1 b2 c).length ≤ 16777216 ∧ xs (i + 1) = Txt.replace (xs i) ⟨#[c]⟩ (surr b1 b2 c)) ∧
  ∀ σ', σ'[it]? = some (some (.str (xs lit.cps.size))) → D.nx σ' H
theorem str_ne {y z : Str} (h : y.length ≠ z.length) : (y == z) = false := by
  cases e : y == z with
  | false => rfl
  | true => exact absurd (congrArg Str.length (eq_of_beq e)) h
theorem len_one (c : Nat) : (⟨#[c]⟩ : Str).length = 1 := rfl
theorem len_app (y z : Str) : (y ++ z).length = y.length + z.length := by
  show (y.cps ++ z.cps).size = _
  rw [Array.size_append]
  rfl
theorem ps_signs {it is : Nat} {lit tx sg b1 b2 : Str} {j0 j1 j2 : Nat} {c0 c1 c2 p1 p2 p3 p4 p5 p6 p7 p8 apos cpos pos : Pos} (hp : PassesOwn (model X.prog X.w) X.A X.env X.xe) (hc : X.calm = true) (hN : X.N.Nodup)
    (hit : X.N[it]? = some tx) (his : X.N[is]? = some sg) (ht : X.env.scope.names.lookup tx = some .local) (hs : X.env.scope.names.lookup sg = some .local) (ne : it ≠ is)
    (hlit : lit.cps.all (· < 128) = true) (h1 : b1.length = 1) (h2 : b2.length = 1)
    (hst : starEach [.Name sg p3, .BinOp (.BinOp (.Constant (.str b1) j1 c1) .Add (.Name sg p4) p5) .Add (.Constant (.str b2) j2 c2) p6] X.env =
      [(false, eval (.Name sg p3) X.env), (false, eval (.BinOp (.BinOp (.Constant (.str b1) j1 c1) .Add (.Name sg p4) p5) .Add (.Constant (.str b2) j2 c2) p6) X.env)] := by rfl)
    (hbase : attributeBase (.Name tx p2) "replace" X.env (eval (.Name tx p2) X.env) = eval (.Name tx p2) X.env := by rfl) (hline : (apos.endLine == cpos.line) = true := by rfl)
    (hdt : (tx == ("__debug__" : Str)) = false := by decide) (hds : (sg == ("__debug__" : Str)) = false := by decide) (hct : (tx == ("__classdict__" : Str)) = false := by decide)
    (hsw : swapsWith (.Call (.Attribute (.Name tx p2) "replace" apos) [.Name sg p3, .BinOp (.BinOp (.Constant (.str b1) j1 c1) .Add (.Name sg p4) p5) .Add (.Constant (.str b2) j2 c2) p6] [] cpos) (some (.Name tx p1)) p7.line X.env = pure false := by rfl) :
    PS X (.For (.Name sg p8) (.Constant (.str lit) j0 c0) [.Assign [.Name tx p1] (.Call (.Attribute (.Name tx p2) "replace" apos) [.Name sg p3, .BinOp (.BinOp (.Constant (.str b1) j1 c1) .Add (.Name sg p4) p5) .Add (.Constant (.str b2) j2 c2) p6] [] cpos) p7] [] pos) (tSigns lit b1 b2 it) := by
  refine ⟨fun pins s σ H D I h => ?_⟩
  obtain ⟨xs, hx0, hxs, hD⟩ := h
  refine wpAny_For (Calls.Constant_str (wpAny_pyIter_ascii hlit ?_)) (by intro _; rfl)
  have I1 : Inv X pins σ H { s with toks := s.toks + 1 } := I.tok _
  generalize hit0 : s.heap.objs.size = itA
  have fp : FpOk X pins H itA := I.fpOk (Nat.le_of_eq hit0) (I.hok.fresh (Nat.le_of_eq hit0))
  show codeAny _ _ _ _ { s with heap := s.heap.push _, toks := s.toks + 1 }
  refine codeAny_forLoop_any (fun n s' => ∃ i σ', n = lit.cps.size - i ∧ i ≤ lit.cps.size ∧ Inv X pins σ' H s' ∧ s'.heap.IsStrIter itA "str_ascii_iterator" lit s.toks i ∧ 1 ≤ s'.toks ∧ σ'[it]? = some (some (.str (xs i)))) ?_ lit.cps.size
    ⟨0, σ, rfl, Nat.zero_le _, I.kept (t' := s.toks + 1) fun b o e => Heap.get?_push_of_some _ e, ⟨_, by rw [← hit0]; exact Heap.get?_push_size _ rfl, rfl, rfl⟩, by show 1 ≤ s.toks + 1; omega, hx0⟩
  rintro n s3 ⟨i, σ3, rfl, hle, I3, st3, k3, e3⟩
  by_cases hi : i < lit.cps.size
  · -- a turn
    have hci : lit.cps[i]? = some lit.cps[i] := Array.getElem?_eq_getElem hi
    generalize lit.cps[i] = c at hci
    obtain ⟨hb, hx⟩ := hxs i c hci
    obtain ⟨f0, f1, f2, f3, f4, f5⟩ := id fp
    refine wpAny_passesOwn hp (wpAny_pyNext_ascii_item st3 hci fun h4 st4 sb4 => ?_)
    have I4 : Inv X pins σ3 H { s3 with heap := h4, toks := s3.toks + 1 } := I3.turned (fun b o hb e => (sb4.2 b hb).trans e) f0 f1 f3 f4 f5
    obtain ⟨oi, e, cc, dd⟩ := id st4
    refine wpAny_passesOwn hp (go_of (s := { s3 with heap := h4, toks := s3.toks + 1 }) e cc dd (by decide) ?_)
    refine wpAny_passesOwn hp (wpAny_assign_Name (store_raw (v := .str ⟨#[c]⟩) I4 hN his hs ⟨s3.toks, rfl⟩ fun h5 m5 I5 ns5 m5s sb5 => ?_))
    have st5 : h5.IsStrIter itA "str_ascii_iterator" lit s.toks (i + 1) := ⟨oi, (sb5.2 itA f1).trans e, cc, dd⟩
    refine wpAny_passesOwn hp (wpAny_execs_cons (wpAny_Assign_Name (PySem.Call_method2 hbase hst hline ?_) hsw))
    have et : (σ3.set is (some (V.str ⟨#[c]⟩)))[it]? = some (some (.str (xs i))) := by rw [List.getElem?_set_ne ne.symm]; exact e3
    refine raw_name hit (.inl ht) I5 et (fun v r => ?_) hdt hct
    obtain ⟨tv, rfl⟩ := r
    refine ⟨"str", _, F.plainAttrs_str, F.slot_str_replace, F.type_str_replace, typeIs_str _ _ _, (fun _ e => nomatch e), Calls.callWith_builtin rfl (Calls.evalArgs_plain (Calls.spliced_cons ?_))⟩
    refine wpAny_Name (wpAny_loadName_local I5.ok.kind hs ns5 m5s ?_) hds
    refine Calls.spliced_cons (wpAny_BinOp (wpAny_BinOp (Calls.Constant_str (wpAny_Name (wpAny_loadName_local (s := { s3 with heap := h5, toks := _ }) I5.ok.kind hs ns5 m5s ?_) hds))))
    have l1 : (⟨#[c]⟩ : Str).length = 1 := rfl
    refine P.add_str ?_
    rw [if_neg (by rw [h1]; decide), if_neg (by rw [l1]; decide)]
    have l2 : (b1 ++ ⟨#[c]⟩ : Str).length = 2 := by rw [len_app, h1]; rfl
    refine ⟨by rw [l2]; decide, Calls.Constant_str (P.add_str ?_)⟩
    rw [if_neg (by rw [l2]; decide), if_neg (by rw [h2]; decide)]
    have l3 : ((b1 ++ ⟨#[c]⟩ : Str) ++ b2).length = 3 := by rw [len_app, l2, h2]
    refine ⟨by rw [l3]; decide, Calls.spliced_nil ?_⟩
    refine PySem.SC.replace (by show s3.toks ≠ 0; omega) (by simp) (by show s3.toks ≠ _; simp only []; omega) (str_ne (by rw [l1, l3]; decide)) hb fun t' k => ?_
    rw [← show surr b1 b2 c = (b1 ++ ⟨#[c]⟩) ++ b2 from rfl, ← hx]
    have I6 : Inv X pins (σ3.set is (some (V.str ⟨#[c]⟩))) H { s3 with heap := h5, toks := k } := I5.tok k
    refine store_raw (v := .str (xs (i + 1))) I6 hN hit ht ⟨t', rfl⟩ fun h7 m7 I7 ns7 _ sb7 => wpAny_execs_nil ?_
    refine ⟨lit.cps.size - (i + 1), by omega, i + 1, _, rfl, hi, I7, ⟨oi, (sb7.2 itA f1).trans ((sb5.2 itA f1).trans e), cc, dd⟩, by show 1 ≤ k + 1; omega, ?_⟩
    rw [List.getElem?_set_self]
    rw [List.length_set, I3.len]
    exact (List.getElem?_eq_some_iff.mp hit).1
  · have ei : i = lit.cps.size := by omega
    subst ei
    obtain ⟨f0, f1, f2, f3, f4, f5⟩ := id fp
    refine wpAny_passesOwn hp (wpAny_pyNext_ascii_end (I3.ok.hd hc) st3 (Array.getElem?_eq_none (Nat.le_refl _)) fun h4 eb => ?_)
    exact wpAny_passesOwn hp (wpAny_execs_nil ⟨σ3, H, I3.turned (t' := s3.toks) (fun b o hb e => eb b o hb e) f0 f1 f3 f4 f5, hD σ3 e3⟩)
end
end L2.KK
/-! tellings: values, their signs, what is read of signs; no program in sight -/
namespace L2.MT
open PySem TL SX
inductive Tv where
  | non
  | int (n : Int)
  | str (s : List Nat)
  | tup (vs : List Tv)
def numT (n : Int) : List Nat := tl (Str.ofString (toString n))
mutual
def toks : Tv → List (List Nat)
  | .non => [[45]]
  | .int n => [numT n]
  | .str s => [s]
  | .tup vs => [40] :: (toksL vs ++ [[41]])
def toksL : List Tv → List (List Nat)
  | [] => []
  | v :: vs => toks v ++ toksL vs
end
mutual
def dep : Tv → Nat
  | .non => 0
  | .int _ => 0
  | .str _ => 0
  | .tup vs => depL vs + 1
def depL : List Tv → Nat
  | [] => 0
  | v :: vs => max (dep v) (depL vs)
end
def letters (s : List Nat) : Prop := s ≠ [] ∧ ∀ c ∈ s, 97 ≤ c ∧ c ≤ 122
mutual
def Ok : Tv → Prop
  | .non => True
  | .int n => n.natAbs < 10 ^ 100
  | .str s => letters s
  | .tup vs => OkL vs
def OkL : List Tv → Prop
  | [] => True
  | v :: vs => Ok v ∧ OkL vs
end
theorem toksL_append : ∀ a b : List Tv, toksL (a ++ b) = toksL a ++ toksL b
  | [], _ => rfl
  | v :: a, b => by
    show toks v ++ toksL (a ++ b) = toks v ++ toksL a ++ toksL b
    rw [toksL_append a b, List.append_assoc]
theorem toksL_one (v : Tv) : toksL [v] = toks v := List.append_nil _
theorem okL_mem : ∀ {vs : List Tv}, OkL vs → ∀ v ∈ vs, Ok v
  | w :: vs, h, v, hv => by
    rcases List.mem_cons.mp hv with e | e
    · rw [e]; exact h.1
    · exact okL_mem h.2 v e
theorem okL_of : ∀ {vs : List Tv}, (∀ v ∈ vs, Ok v) → OkL vs
  | [], _ => trivial
  | v :: vs, h => ⟨h v List.mem_cons_self, okL_of fun w hw => h w (List.mem_cons_of_mem _ hw)⟩
theorem okL_append {a b : List Tv} : OkL (a ++ b) ↔ OkL a ∧ OkL b := by
  constructor
  · exact fun h => ⟨okL_of fun v hv => okL_mem h v (List.mem_append_left _ hv), okL_of fun v hv => okL_mem h v (List.mem_append_right _ hv)⟩
  · exact fun ⟨h, k⟩ => okL_of fun v hv => (List.mem_append.mp hv).elim (okL_mem h v) (okL_mem k v)
theorem toks_pos : ∀ v : Tv, 1 ≤ (toks v).length
  | .non => Nat.le_refl _
  | .int _ => Nat.le_refl _
  | .str _ => Nat.le_refl _
  | .tup vs => by
    show 1 ≤ ([40] :: (toksL vs ++ [[41]])).length
    rw [List.length_cons]
    omega
theorem len_le_toksL : ∀ vs : List Tv, vs.length ≤ (toksL vs).length
  | [] => Nat.le_refl _
  | v :: vs => by
    show _ ≤ (toks v ++ toksL vs).length
    rw [List.length_append, List.length_cons]
    have := toks_pos v
    have := len_le_toksL vs
    omega
theorem depL_le : ∀ {vs : List Tv} {n : Nat}, depL vs ≤ n ↔ ∀ v ∈ vs, dep v ≤ n
  | [], n => ⟨fun _ v h => (List.not_mem_nil h).elim, fun _ => Nat.zero_le _⟩
  | w :: vs, n => by
    show max (dep w) (depL vs) ≤ n ↔ _
    rw [Nat.max_le, depL_le (vs := vs)]
    constructor
    · rintro ⟨h, k⟩ v hv
      rcases List.mem_cons.mp hv with e | e
      · rw [e]; exact h
      · exact k v e
    · exact fun h => ⟨h w List.mem_cons_self, fun v hv => h v (List.mem_cons_of_mem _ hv)⟩

/-! ### joining -/
def joinStep (w t : List Nat) : List Nat := (if w ≠ [] ∧ w.getLast? ≠ some 40 ∧ t ≠ [41] then w ++ [32] else w) ++ t
def joinS (ts : List (List Nat)) : List Nat := ts.foldl joinStep []
theorem joinS_snoc (ts : List (List Nat)) (t : List Nat) : joinS (ts ++ [t]) = joinStep (joinS ts) t := by
  unfold joinS
  rw [List.foldl_append]
  rfl
def wtT (ts : List (List Nat)) : Nat := (ts.map fun t => t.length + 1).sum
theorem wtT_append (a b : List (List Nat)) : wtT (a ++ b) = wtT a + wtT b := by
  unfold wtT
  rw [List.map_append, List.sum_append]
theorem joinStep_len (w t : List Nat) : (joinStep w t).length ≤ w.length + t.length + 1 := by
  unfold joinStep
  rw [List.length_append]
  split
  · rw [List.length_append]
    show w.length + 1 + t.length ≤ _
    omega
  · omega
theorem foldl_join_len : ∀ (ts : List (List Nat)) (w : List Nat), (ts.foldl joinStep w).length ≤ w.length + wtT ts
  | [], w => Nat.le_refl _
  | t :: ts, w => by
    rw [List.foldl_cons]
    have h1 := foldl_join_len ts (joinStep w t)
    have h2 := joinStep_len w t
    have e : wtT (t :: ts) = t.length + 1 + wtT ts := by unfold wtT; rw [List.map_cons, List.sum_cons]
    omega
theorem joinS_len (ts : List (List Nat)) : (joinS ts).length ≤ wtT ts := by
  have h := foldl_join_len ts []
  rw [List.length_nil, Nat.zero_add] at h
  exact h
theorem joinStep_ne {w t : List Nat} (h : t ≠ []) : joinStep w t ≠ [] := by
  unfold joinStep
  intro e
  exact h (List.append_eq_nil_iff.mp e).2
theorem joinStep_last {w t : List Nat} (h : t ≠ []) : (joinStep w t).getLast? = t.getLast? := by
  unfold joinStep
  rw [List.getLast?_append]
  cases t with
  | nil => exact absurd rfl h
  | cons c t => rw [List.getLast?_cons]; rfl

/-! ### signs put between blanks; words -/
def sur (c k : Nat) : List Nat := if k = c then [32, c, 32] else [k]
def surL (c : Nat) (l : List Nat) : List Nat := l.flatMap (sur c)
theorem surL_append (c : Nat) (a b : List Nat) : surL c (a ++ b) = surL c a ++ surL c b := List.flatMap_append
theorem surL_free {c : Nat} : ∀ {l : List Nat}, c ∉ l → surL c l = l
  | [], _ => rfl
  | k :: l, h => by
    have h1 : ¬ k = c := fun e => h (e ▸ List.mem_cons_self)
    show sur c k ++ surL c l = k :: l
    rw [surL_free fun m => h (List.mem_cons_of_mem _ m)]
    unfold sur
    rw [if_neg h1]
    rfl
theorem surL_len (c : Nat) : ∀ l : List Nat, (surL c l).length ≤ 3 * l.length
  | [] => Nat.le_refl _
  | k :: l => by
    show (sur c k ++ surL c l).length ≤ _
    rw [List.length_append, List.length_cons]
    have := surL_len c l
    have : (sur c k).length ≤ 3 := by
      unfold sur
      split
      · exact Nat.le_refl _
      · show 1 ≤ 3
        decide
    omega
theorem surL_join (c : Nat) : ∀ parts : List (List Nat), (∀ p ∈ parts, c ∉ p) → surL c (joinL [c] parts) = joinL [32, c, 32] parts
  | [], _ => rfl
  | [p], h => surL_free (h p (List.mem_singleton.mpr rfl))
  | p :: q :: r, h => by
    show surL c (p ++ ([c] ++ joinL [c] (q :: r))) = p ++ ([32, c, 32] ++ joinL [32, c, 32] (q :: r))
    rw [surL_append, surL_append, surL_join c (q :: r) fun a ha => h a (List.mem_cons_of_mem _ ha), surL_free (h p List.mem_cons_self)]
    have e : surL c [c] = [32, c, 32] := by
      show sur c c ++ [] = _
      unfold sur
      rw [if_pos rfl]
      rfl
    rw [e]
theorem replace_sur (l : List Nat) (c : Nat) : Txt.replace (S l) ⟨#[c]⟩ (S [32, c, 32]) = S (surL c l) := by
  apply ext_tl
  have e := StrLaws.replace_one (S l) (S [32, c, 32]) c
  rw [e, tl_join]
  have f := StrLaws.join_split (S l) ⟨#[c]⟩
  have f2 : joinL [c] ((Txt.split (S l) ⟨#[c]⟩).map tl) = l := by
    have q := congrArg tl f
    rw [tl_join] at q
    exact q
  have fr := StrLaws.split_free (S l) c
  have g := surL_join c ((Txt.split (S l) ⟨#[c]⟩).map tl) fun p hp => by
    obtain ⟨z, hz, rfl⟩ := List.mem_map.mp hp
    exact fr z hz
  rw [f2] at g
  exact g.symm
def par2 (l : List Nat) : List Nat := surL 41 (surL 40 l)
theorem par2_append (a b : List Nat) : par2 (a ++ b) = par2 a ++ par2 b := by
  unfold par2
  rw [surL_append, surL_append]
theorem par2_len (l : List Nat) : (par2 l).length ≤ 9 * l.length := by
  have h1 := surL_len 41 (surL 40 l)
  have h2 := surL_len 40 l
  unfold par2
  omega
def wordsL (l : List Nat) : List (List Nat) := wfin ((par2 l).foldl wstep ([], []))
theorem words_par2 (l : List Nat) : Txt.words (S (par2 l)) = (wordsL l).map S := by
  refine map_tl_inj ?_
  rw [words_tl, map_S_tl]
  rfl
/-- a sign of its own, or a word without blanks and parentheses -/
def Part (t : List Nat) : Prop := t = [40] ∨ t = [41] ∨ (t ≠ [] ∧ ∀ c ∈ t, Unicode.isSpace c = false ∧ c ≠ 40 ∧ c ≠ 41)
theorem Part.ne {t : List Nat} (h : Part t) : t ≠ [] := by
  rcases h with h | h | h
  · rw [h]; simp
  · rw [h]; simp
  · exact h.1
theorem space32 : Unicode.isSpace 32 = true := by decide +kernel
theorem nsp40 : Unicode.isSpace 40 = false := by decide +kernel
theorem nsp41 : Unicode.isSpace 41 = false := by decide +kernel
theorem wstep32 (st : List (List Nat) × List Nat) : wstep st 32 = (wfin st, []) := by
  obtain ⟨ws, u⟩ := st
  unfold wstep wfin
  rw [if_pos space32]
  by_cases h : u = []
  · rw [if_pos h, if_pos h, h]
  · rw [if_neg h, if_neg h]
theorem wfold_sign {c : Nat} (h : Unicode.isSpace c = false) (st : List (List Nat) × List Nat) : [32, c, 32].foldl wstep st = (wfin st ++ [[c]], []) := by
  rw [List.foldl_cons, wstep32, List.foldl_cons, List.foldl_cons, List.foldl_nil]
  have e : wstep (wfin st, []) c = (wfin st, [c]) := by
    unfold wstep
    rw [if_neg (by rw [h]; exact Bool.false_ne_true)]
    rfl
  rw [e, wstep32]
  rfl
theorem par2_40 : par2 [40] = [32, 40, 32] := by decide
theorem par2_41 : par2 [41] = [32, 41, 32] := by decide
theorem par2_32 : par2 [32] = [32] := by decide
theorem par2_free {t : List Nat} (h : ∀ c ∈ t, c ≠ 40 ∧ c ≠ 41) : par2 t = t := by
  unfold par2
  rw [surL_free fun m => (h 40 m).1 rfl, surL_free fun m => (h 41 m).2 rfl]
theorem rev_ind {α : Type} {motive : List α → Prop} (ts : List α) (nil : motive []) (snoc : ∀ (ts : List α) (t : α), motive ts → motive (ts ++ [t])) : motive ts := by
  have key : ∀ l : List α, motive l.reverse := by
    intro l
    induction l with
    | nil => exact nil
    | cons a l ih =>
      rw [List.reverse_cons]
      exact snoc _ _ ih
  have := key ts.reverse
  rw [List.reverse_reverse] at this
  exact this
/-- the state of the reading behind joined parts -/
theorem words_joined : ∀ ts : List (List Nat), (∀ t ∈ ts, Part t) → ∃ st, (par2 (joinS ts)).foldl wstep ([], []) = st ∧ wfin st = ts ∧ (joinS ts = [] → st.2 = []) ∧ ((joinS ts).getLast? = some 40 → st.2 = []) := by
  intro ts
  induction ts using rev_ind with
  | nil => exact fun _ => ⟨_, rfl, rfl, fun _ => rfl, fun _ => rfl⟩
  | snoc ts t ih =>
    intro h
    obtain ⟨st, e1, e2, e3, e4⟩ := ih fun x hx => h x (List.mem_append_left _ hx)
    have ht := h t (List.mem_append_right _ (List.mem_singleton.mpr rfl))
    rw [joinS_snoc]
    generalize joinS ts = w at *
    have hne := ht.ne
    refine ⟨_, rfl, ?_, fun z => absurd z (joinStep_ne hne), fun z => ?_⟩
    · -- the state ahead of t
      have hb : ∃ st', (par2 (if w ≠ [] ∧ w.getLast? ≠ some 40 ∧ t ≠ [41] then w ++ [32] else w)).foldl wstep ([], []) = st' ∧ wfin st' = ts ∧ (t ≠ [41] → st'.2 = []) := by
        by_cases c : w ≠ [] ∧ w.getLast? ≠ some 40 ∧ t ≠ [41]
        · rw [if_pos c, par2_append, List.foldl_append, e1, par2_32, List.foldl_cons, List.foldl_nil, wstep32]
          refine ⟨_, rfl, ?_, fun _ => rfl⟩
          unfold wfin
          rw [if_pos rfl]
          exact e2
        · rw [if_neg c]
          refine ⟨st, e1, e2, fun n => ?_⟩
          by_cases c1 : w = []
          · exact e3 c1
          · refine e4 (Classical.byContradiction fun c2 => c ⟨c1, c2, n⟩)
      obtain ⟨st', f1, f2, f3⟩ := hb
      unfold joinStep
      rw [par2_append, List.foldl_append, f1]
      rcases ht with e | e | ⟨_, e⟩
      · rw [e, par2_40, wfold_sign nsp40, f2]
        rfl
      · rw [e, par2_41, wfold_sign nsp41, f2]
        rfl
      · have n41 : t ≠ [41] := fun z => by rw [z] at e; exact (e 41 (List.mem_singleton.mpr rfl)).2.2 rfl
        have s2 := f3 n41
        obtain ⟨ws, u⟩ := st'
        have s2' : u = [] := s2
        subst s2'
        have f2' : ws = ts := by
          unfold wfin at f2
          rw [if_pos rfl] at f2
          exact f2
        subst f2'
        rw [par2_free fun c hc => (e c hc).2, wfold_word t ws [] fun c hc => (e c hc).1, List.nil_append]
        unfold wfin
        rw [if_neg hne]
    · rw [joinStep_last hne] at z
      unfold joinStep
      rw [par2_append, List.foldl_append]
      rcases ht with e | e | ⟨_, e⟩
      · rw [e, par2_40, wfold_sign nsp40]
      · rw [e] at z
        cases z
      · exact absurd rfl (e 40 (List.mem_of_getLast? z)).2.1
theorem words_join {ts : List (List Nat)} (h : ∀ t ∈ ts, Part t) : wordsL (joinS ts) = ts := by
  obtain ⟨st, e1, e2, _⟩ := words_joined ts h
  unfold wordsL
  rw [e1, e2]
end L2.MT
/-! what is read of the parts of a telling -/
namespace L2.MT
open PySem TL SX
/-! ### parts of a value -/
instance (s : List Nat) : Decidable (letters s) := inferInstanceAs (Decidable (_ ∧ _))
def digs (t : List Nat) : List Nat := if t.take 1 = [45] then t.drop 1 else t
def numB (t : List Nat) : Prop := digs t ≠ [] ∧ (digs t).length ≤ 100 ∧ (∀ c ∈ digs t, 48 ≤ c ∧ c ≤ 57) ∧ ((digs t).head? ≠ some 48 ∨ t = [48])
instance (t : List Nat) : Decidable (numB t) := inferInstanceAs (Decidable (_ ∧ _))
def valI (t : List Nat) : Int := if t.take 1 = [45] then -((NumText.digitsVal (t.drop 1) : Nat) : Int) else ((NumText.digitsVal t : Nat) : Int)
def readPart (t : List Nat) : Option Tv := if t = [45] then some .non else if letters t then some (.str t) else if numB t then some (.int (valI t)) else none
theorem numT_nat (n : Nat) : numT (n : Int) = numL n := tl_num n
theorem numT_neg {n : Nat} (h : 0 < n) : numT (-(n : Int)) = 45 :: numL n := by
  unfold numT
  obtain ⟨m, rfl⟩ : ∃ m, n = m + 1 := ⟨n - 1, by omega⟩
  have e : toString (-((m + 1 : Nat) : Int)) = "-" ++ toString (m + 1) := rfl
  rw [e, tl_ofString, String.toList_append, List.map_append]
  have q := tl_num (m + 1)
  have e2 : toString (((m + 1 : Nat) : Int)) = toString (m + 1) := rfl
  rw [e2, tl_ofString] at q
  rw [q]
  rfl
theorem numT_cases (n : Int) : (∃ k : Nat, n = (k : Int) ∧ numT n = numL k) ∨ (∃ k : Nat, 0 < k ∧ n = -(k : Int) ∧ numT n = 45 :: numL k) := by
  by_cases h : 0 ≤ n
  · obtain ⟨k, rfl⟩ : ∃ k : Nat, n = (k : Int) := ⟨n.toNat, by omega⟩
    exact .inl ⟨k, rfl, numT_nat k⟩
  · obtain ⟨k, hk, rfl⟩ : ∃ k : Nat, 0 < k ∧ n = -(k : Int) := ⟨(-n).toNat, by omega, by omega⟩
    exact .inr ⟨k, hk, rfl, numT_neg hk⟩
/-- digits without needless zeros are the number's own -/
theorem numL_back {d : List Nat} (h1 : d ≠ []) (h2 : ∀ c ∈ d, 48 ≤ c ∧ c ≤ 57) (h3 : d.head? ≠ some 48 ∨ d.length = 1) : numL (NumText.digitsVal d) = d := by
  have e := NumText.toDigits_digitsVal (d.length - 1) d (by have : 0 < d.length := List.length_pos_iff.mpr h1; omega) h2 (by
    rcases h3 with h3 | h3
    · cases d with
      | nil => exact absurd rfl h1
      | cons c r =>
        refine .inr ⟨c, r, rfl, ?_⟩
        have := h2 c List.mem_cons_self
        have : c ≠ 48 := fun z => h3 (by rw [z]; rfl)
        omega
    · exact .inl (by omega))
  unfold numL
  rw [e, List.map_map]
  have : ∀ c ∈ d, (Char.toNat ∘ Char.ofNat) c = c := fun c hc => by
    have := h2 c hc
    have key : ∀ x : Nat, x < 58 → (Char.ofNat x).toNat = x := by decide +kernel
    exact key c (by omega)
  rw [List.map_congr_left this, List.map_id']
theorem numL_head {n : Nat} (h : 0 < n) : (numL n).head? ≠ some 48 := by
  induction n using Nat.strongRecOn with
  | _ n ih =>
    by_cases h1 : n < 10
    · rw [numL_lt h1]
      intro e
      injection e with e
      omega
    · rw [numL_step (by omega)]
      have h2 := ih (n / 10) (by omega) (by omega)
      have h3 := numL_ne (n / 10)
      cases e : numL (n / 10) with
      | nil => exact absurd e h3
      | cons c r =>
        rw [e] at h2
        exact h2
theorem readPart_toks {t : List Nat} {v : Tv} (h : readPart t = some v) : toks v = [t] ∧ Ok v ∧ dep v = 0 := by
  unfold readPart at h
  by_cases h1 : t = [45]
  · rw [if_pos h1] at h
    cases h
    exact ⟨by rw [h1]; rfl, trivial, rfl⟩
  · rw [if_neg h1] at h
    by_cases h2 : letters t
    · rw [if_pos h2] at h
      cases h
      exact ⟨rfl, h2, rfl⟩
    · rw [if_neg h2] at h
      by_cases h3 : numB t
      · rw [if_pos h3] at h
        cases h
        obtain ⟨n1, n2, n3, n4⟩ := h3
        have big : ∀ d : List Nat, (∀ c ∈ d, 48 ≤ c ∧ c ≤ 57) → d.length ≤ 100 → NumText.digitsVal d < 10 ^ 100 := fun d hd hl => by
          have key : ∀ (d : List Nat) (a : Nat), (∀ c ∈ d, 48 ≤ c ∧ c ≤ 57) → d.foldl (fun acc c => acc * 10 + (c - 48)) a < (a + 1) * 10 ^ d.length := by
            intro d
            induction d with
            | nil => intro a _; show a < (a + 1) * 10 ^ 0; omega
            | cons c d ih =>
              intro a hd
              have hc := hd c List.mem_cons_self
              rw [List.foldl_cons]
              refine Nat.lt_of_lt_of_le (ih _ fun x hx => hd x (List.mem_cons_of_mem _ hx)) ?_
              rw [List.length_cons, Nat.pow_succ, Nat.mul_comm (10 ^ d.length) 10, ← Nat.mul_assoc]
              exact Nat.mul_le_mul_right _ (by omega)
          have q := key d 0 hd
          rw [Nat.zero_add, Nat.one_mul] at q
          exact Nat.lt_of_lt_of_le q (Nat.pow_le_pow_right (by decide) hl)
        refine ⟨?_, ?_, rfl⟩
        · show [numT (valI t)] = [t]
          unfold valI
          by_cases h4 : t.take 1 = [45]
          · rw [if_pos h4]
            unfold digs at n1 n2 n3 n4
            rw [if_pos h4] at n1 n2 n3 n4
            obtain ⟨c, r, rfl⟩ : ∃ c r, t = c :: r := by
              cases t with
              | nil => cases h4
              | cons c r => exact ⟨c, r, rfl⟩
            rw [List.take_succ_cons, List.take_zero] at h4
            injection h4 with h4 _
            subst h4
            rw [List.drop_succ_cons, List.drop_zero] at *
            have hd : r.head? ≠ some 48 := by
              rcases n4 with n4 | n4
              · exact n4
              · injection n4 with n4 _
                cases n4
            have b := numL_back n1 n3 (.inl hd)
            have pos : 0 < NumText.digitsVal r := by
              cases r with
              | nil => exact absurd rfl n1
              | cons c r =>
                have := n3 c List.mem_cons_self
                have : c ≠ 48 := fun z => hd (by rw [z]; rfl)
                exact NumText.digitsVal_pos (by omega)
            rw [numT_neg pos, b]
          · rw [if_neg h4]
            unfold digs at n1 n2 n3 n4
            rw [if_neg h4] at n1 n2 n3 n4
            rw [numT_nat, numL_back n1 n3 (n4.imp id fun e => by rw [e]; rfl)]
        · show (valI t).natAbs < 10 ^ 100
          unfold valI
          unfold digs at n2 n3
          split
          · rename_i h4
            rw [if_pos h4] at n2 n3
            rw [Int.natAbs_neg, Int.natAbs_natCast]
            exact big _ n3 n2
          · rename_i h4
            rw [if_neg h4] at n2 n3
            rw [Int.natAbs_natCast]
            exact big _ n3 n2
      · rw [if_neg h3] at h
        cases h
theorem numT_numB {n : Int} (h : n.natAbs < 10 ^ 100) : numB (numT n) ∧ valI (numT n) = n ∧ ¬ letters (numT n) ∧ numT n ≠ [45] := by
  have nl : ∀ k c, c ∈ numL k → 48 ≤ c ∧ c ≤ 57 := fun k c hc => numL_digits k c hc
  rcases numT_cases n with ⟨k, rfl, e⟩ | ⟨k, hk, rfl, e⟩
  · rw [Int.natAbs_natCast] at h
    rw [e]
    have ne := numL_ne k
    have hx : ∃ c r, numL k = c :: r := by
      cases q : numL k with
      | nil => exact absurd q ne
      | cons c r => exact ⟨c, r, rfl⟩
    obtain ⟨c, r, q⟩ := hx
    have hc := nl k c (by rw [q]; exact List.mem_cons_self)
    have n45 : ¬ (numL k).take 1 = [45] := fun z => by
      rw [q, List.take_succ_cons, List.take_zero] at z
      injection z with z _
      omega
    refine ⟨?_, ?_, fun z => ?_, fun z => ?_⟩
    · unfold numB digs
      rw [if_neg n45]
      refine ⟨ne, numL_len (by decide) h, nl k, ?_⟩
      by_cases k0 : k = 0
      · exact .inr (by rw [k0]; rfl)
      · exact .inl (numL_head (by omega))
    · unfold valI
      rw [if_neg n45, numL_val]
    · have := z.2 c (by rw [q]; exact List.mem_cons_self)
      omega
    · rw [z] at n45
      exact n45 rfl
  · rw [Int.natAbs_neg, Int.natAbs_natCast] at h
    rw [e]
    have y45 : (45 :: numL k).take 1 = [45] := by rw [List.take_succ_cons, List.take_zero]
    refine ⟨?_, ?_, fun z => ?_, fun z => ?_⟩
    · unfold numB digs
      rw [if_pos y45, List.drop_succ_cons, List.drop_zero]
      exact ⟨numL_ne k, numL_len (by decide) h, nl k, .inl (numL_head hk)⟩
    · unfold valI
      rw [if_pos y45, List.drop_succ_cons, List.drop_zero, numL_val]
    · have := z.2 45 List.mem_cons_self
      omega
    · injection z with _ z
      exact numL_ne k z
theorem readPart_back {v : Tv} (h : Ok v) (hd : dep v = 0) : ∃ t, toks v = [t] ∧ readPart t = some v ∧ t ≠ [40] ∧ t ≠ [41] := by
  cases v with
  | non => exact ⟨_, rfl, rfl, by decide, by decide⟩
  | int n =>
    obtain ⟨a, b, c, d⟩ := numT_numB h
    refine ⟨_, rfl, ?_, fun z => ?_, fun z => ?_⟩
    · unfold readPart
      rw [if_neg d, if_neg c, if_pos a, b]
    · rw [z] at a
      exact absurd (a.2.2.1 40 (by decide)) (by decide)
    · rw [z] at a
      exact absurd (a.2.2.1 41 (by decide)) (by decide)
  | str s =>
    have hs : letters s := h
    refine ⟨s, rfl, ?_, fun z => ?_, fun z => ?_⟩
    · unfold readPart
      rw [if_neg, if_pos hs]
      intro z
      rw [z] at hs
      exact absurd (hs.2 45 (by decide)) (by decide)
    · rw [z] at hs
      exact absurd (hs.2 40 (by decide)) (by decide)
    · rw [z] at hs
      exact absurd (hs.2 41 (by decide)) (by decide)
  | tup vs => exact absurd hd (Nat.succ_ne_zero _)
/-! ### the parts of a value's telling -/
theorem part_num (n : Int) : Part (numT n) := by
  have r : ∀ k c, c ∈ numL k → Unicode.isSpace c = false ∧ c ≠ 40 ∧ c ≠ 41 := fun k c hc => by
    have := numL_digits k c hc
    have key : ∀ x : Nat, x < 58 → 48 ≤ x → Unicode.isSpace x = false := by decide +kernel
    exact ⟨key c (by omega) (by omega), by omega, by omega⟩
  refine .inr (.inr ?_)
  rcases numT_cases n with ⟨k, _, e⟩ | ⟨k, _, _, e⟩
  · rw [e]
    exact ⟨numL_ne k, r k⟩
  · rw [e]
    refine ⟨by simp, fun c hc => ?_⟩
    rcases List.mem_cons.mp hc with z | z
    · rw [z]
      exact ⟨by decide +kernel, by decide, by decide⟩
    · exact r k c z
theorem part_letters {s : List Nat} (h : letters s) : Part s := by
  refine .inr (.inr ⟨h.1, fun c hc => ?_⟩)
  have := h.2 c hc
  have key : ∀ x : Nat, x < 123 → 97 ≤ x → Unicode.isSpace x = false := by decide +kernel
  exact ⟨key c (by omega) (by omega), by omega, by omega⟩
mutual
theorem toks_part : ∀ (v : Tv), Ok v → ∀ t ∈ toks v, Part t
  | .non, _, t, ht => by
    rw [List.mem_singleton.mp ht]
    exact .inr (.inr ⟨by decide, fun c hc => by rw [List.mem_singleton.mp hc]; exact ⟨by decide +kernel, by decide, by decide⟩⟩)
  | .int n, _, t, ht => by
    rw [List.mem_singleton.mp ht]
    exact part_num n
  | .str s, h, t, ht => by
    rw [List.mem_singleton.mp ht]
    exact part_letters h
  | .tup vs, h, t, ht => by
    rcases List.mem_cons.mp ht with z | z
    · exact .inl z
    · rcases List.mem_append.mp z with z | z
      · exact toksL_part vs h t z
      · exact .inr (.inl (List.mem_singleton.mp z))
theorem toksL_part : ∀ (vs : List Tv), OkL vs → ∀ t ∈ toksL vs, Part t
  | [], _, t, ht => by cases ht
  | v :: vs, h, t, ht => by
    rcases List.mem_append.mp ht with z | z
    · exact toks_part v h.1 t z
    · exact toksL_part vs h.2 t z
end
/-! ### the reading, part by part -/
abbrev RS := List (List Tv) × List Tv
def stepR (st : RS) (t : List Nat) : Option RS :=
  if t = [40] then (if st.1.length + 1 > 12 then none else some (st.1 ++ [st.2], []))
  else if t = [41] then (match st.1.getLast? with | none => none | some l => some (st.1.dropLast, l ++ [.tup st.2]))
  else match readPart t with | none => none | some v => some (st.1, st.2 ++ [v])
def runR : List (List Nat) → RS → Option RS
  | [], st => some st
  | t :: ts, st => match stepR st t with | none => none | some s => runR ts s
theorem runR_append : ∀ (a b : List (List Nat)) (st : RS), runR (a ++ b) st = (runR a st).bind (runR b)
  | [], _, _ => rfl
  | t :: a, b, st => by
    show (match stepR st t with | none => none | some s => runR (a ++ b) s) = (match stepR st t with | none => none | some s => runR a s).bind (runR b)
    cases stepR st t with
    | none => rfl
    | some s => exact runR_append a b s
def flatR (st : RS) : List (List Nat) := st.1.flatMap (fun l => toksL l ++ [[40]]) ++ toksL st.2
theorem dropLast_snoc {α : Type} {l : List α} {x : α} (h : l.getLast? = some x) : l = l.dropLast ++ [x] := by
  have hne : l ≠ [] := fun z => by rw [z] at h; cases h
  rw [List.getLast?_eq_some_getLast hne] at h
  injection h with h
  rw [← h]
  exact (List.dropLast_concat_getLast hne).symm
def OkR (st : RS) : Prop := (∀ l ∈ st.1, OkL l ∧ depL l ≤ 12) ∧ OkL st.2
theorem stepR_flat {st s : RS} {t : List Nat} (h : stepR st t = some s) : flatR s = flatR st ++ [t] := by
  obtain ⟨O, W⟩ := st
  unfold stepR at h
  by_cases h1 : t = [40]
  · rw [if_pos h1] at h
    split at h
    · cases h
    · cases h
      unfold flatR
      rw [List.flatMap_append, h1]
      show O.flatMap _ ++ (toksL W ++ [[40]] ++ []) ++ [] = _
      rw [List.append_nil, List.append_nil, ← List.append_assoc]
  · rw [if_neg h1] at h
    by_cases h2 : t = [41]
    · rw [if_pos h2] at h
      cases hl : O.getLast? with
      | none => rw [hl] at h; cases h
      | some l =>
        rw [hl] at h
        cases h
        unfold flatR
        conv => rhs; rw [show (O, W).1 = O.dropLast ++ [l] from dropLast_snoc hl]
        rw [List.flatMap_append, toksL_append, toksL_one, h2]
        show O.dropLast.flatMap _ ++ (toksL l ++ [40] :: (toksL W ++ [[41]])) = O.dropLast.flatMap _ ++ (toksL l ++ [[40]] ++ []) ++ toksL W ++ [[41]]
        simp only [List.append_assoc, List.cons_append, List.nil_append, List.append_nil]
    · rw [if_neg h2] at h
      cases hp : readPart t with
      | none => rw [hp] at h; cases h
      | some v =>
        rw [hp] at h
        cases h
        unfold flatR
        rw [toksL_append, toksL_one, (readPart_toks hp).1, ← List.append_assoc]
theorem runR_flat : ∀ {ts : List (List Nat)} {st s : RS}, runR ts st = some s → flatR s = flatR st ++ ts
  | [], st, s, h => by
    cases h
    rw [List.append_nil]
  | t :: ts, st, s, h => by
    have h' : (match stepR st t with | none => none | some s => runR ts s) = some s := h
    cases e : stepR st t with
    | none => rw [e] at h'; cases h'
    | some s1 =>
      rw [e] at h'
      rw [runR_flat h', stepR_flat e, List.append_assoc]
      rfl
/-- what is open is good, and not deeper than what the reading lets -/
def Good (st : RS) : Prop := (∀ l ∈ st.1, OkL l) ∧ OkL st.2
theorem stepR_good {st s : RS} {t : List Nat} (h : stepR st t = some s) (g : Good st) : Good s := by
  obtain ⟨O, W⟩ := st
  obtain ⟨g1, g2⟩ := g
  unfold stepR at h
  by_cases h1 : t = [40]
  · rw [if_pos h1] at h
    split at h
    · cases h
    · cases h
      exact ⟨fun l hl => (List.mem_append.mp hl).elim (g1 l) fun z => by rw [List.mem_singleton.mp z]; exact g2, trivial⟩
  · rw [if_neg h1] at h
    by_cases h2 : t = [41]
    · rw [if_pos h2] at h
      cases hl : O.getLast? with
      | none => rw [hl] at h; cases h
      | some l =>
        rw [hl] at h
        cases h
        exact ⟨fun x hx => g1 x ((List.dropLast_sublist O).subset hx), okL_append.mpr ⟨g1 l (List.mem_of_getLast? hl), g2, trivial⟩⟩
    · rw [if_neg h2] at h
      cases hp : readPart t with
      | none => rw [hp] at h; cases h
      | some v =>
        rw [hp] at h
        cases h
        exact ⟨g1, okL_append.mpr ⟨g2, (readPart_toks hp).2.1, trivial⟩⟩
theorem stepR_len {st s : RS} {t : List Nat} (h : stepR st t = some s) (l : st.1.length ≤ 12) : s.1.length ≤ 12 := by
  unfold stepR at h
  by_cases h1 : t = [40]
  · rw [if_pos h1] at h
    split at h
    · cases h
    · cases h
      rw [List.length_append, List.length_singleton]
      omega
  · rw [if_neg h1] at h
    by_cases h2 : t = [41]
    · rw [if_pos h2] at h
      cases hl : st.1.getLast? with
      | none => rw [hl] at h; cases h
      | some l =>
        rw [hl] at h
        cases h
        rw [List.length_dropLast]
        omega
    · rw [if_neg h2] at h
      cases hp : readPart t with
      | none => rw [hp] at h; cases h
      | some v =>
        rw [hp] at h
        cases h
        exact l
theorem runR_good : ∀ {ts : List (List Nat)} {st s : RS}, runR ts st = some s → Good st → Good s
  | [], st, s, h, g => by cases h; exact g
  | t :: ts, st, s, h, g => by
    have h' : (match stepR st t with | none => none | some s => runR ts s) = some s := h
    cases e : stepR st t with
    | none => rw [e] at h'; cases h'
    | some s1 =>
      rw [e] at h'
      exact runR_good h' (stepR_good e g)
mutual
theorem run_toks : ∀ (v : Tv) (O : List (List Tv)) (W : List Tv), Ok v → dep v + O.length ≤ 12 → runR (toks v) (O, W) = some (O, W ++ [v])
  | .non, O, W, _, _ => rfl
  | .int n, O, W, h, _ => by
    obtain ⟨t, e, r, a, b⟩ := readPart_back (v := .int n) h rfl
    rw [e]
    show (match stepR (O, W) t with | none => none | some s => runR [] s) = _
    unfold stepR
    rw [if_neg a, if_neg b, r]
    rfl
  | .str s, O, W, h, _ => by
    obtain ⟨t, e, r, a, b⟩ := readPart_back (v := .str s) h rfl
    rw [e]
    show (match stepR (O, W) t with | none => none | some s => runR [] s) = _
    unfold stepR
    rw [if_neg a, if_neg b, r]
    rfl
  | .tup vs, O, W, h, hd => by
    have hd' : depL vs + 1 + O.length ≤ 12 := hd
    show (match stepR (O, W) [40] with | none => none | some s => runR (toksL vs ++ [[41]]) s) = _
    have e : stepR (O, W) [40] = some (O ++ [W], []) := by
      unfold stepR
      rw [if_pos rfl, if_neg (by show ¬ O.length + 1 > 12; omega)]
    rw [e]
    show runR (toksL vs ++ [[41]]) (O ++ [W], []) = _
    rw [runR_append, run_toksL vs (O ++ [W]) [] h (by rw [List.length_append, List.length_singleton]; omega)]
    show (match stepR (O ++ [W], [] ++ vs) [41] with | none => none | some s => runR [] s) = _
    have e2 : stepR (O ++ [W], [] ++ vs) [41] = some (O, W ++ [.tup vs]) := by
      unfold stepR
      rw [if_neg (by decide), if_pos rfl]
      show (match (O ++ [W]).getLast? with | none => none | some l => some ((O ++ [W]).dropLast, l ++ [Tv.tup ([] ++ vs)])) = _
      rw [List.getLast?_concat, List.dropLast_concat, List.nil_append]
    rw [e2]
    rfl
theorem run_toksL : ∀ (vs : List Tv) (O : List (List Tv)) (W : List Tv), OkL vs → depL vs + O.length ≤ 12 → runR (toksL vs) (O, W) = some (O, W ++ vs)
  | [], O, W, _, _ => by
    rw [List.append_nil]
    rfl
  | v :: vs, O, W, h, hd => by
    have hd' : max (dep v) (depL vs) + O.length ≤ 12 := hd
    show runR (toks v ++ toksL vs) (O, W) = _
    rw [runR_append, run_toks v O W h.1 (by omega)]
    show runR (toksL vs) (O, W ++ [v]) = _
    rw [run_toksL vs O (W ++ [v]) h.2 (by omega), List.append_assoc]
    rfl
end
/-- what a text is read as -/
def readM (l : List Nat) : Option Tv :=
  match runR (wordsL l) ([], []) with
  | some (O, W) => match O, W with
    | [], [v] => if joinS (wordsL l) = l then some v else none
    | _, _ => none
  | none => none
def tellM (v : Tv) : List Nat := joinS (toks v)
theorem read_tell {v : Tv} (h : Ok v) (hd : dep v ≤ 12) : readM (tellM v) = some v := by
  unfold readM tellM
  rw [words_join (toks_part v h), run_toks v [] [] h (by show dep v + 0 ≤ 12; omega)]
  show (if joinS (toks v) = joinS (toks v) then some v else none) = _
  rw [if_pos rfl]
theorem read_some {l : List Nat} {v : Tv} (h : readM l = some v) : Ok v ∧ toks v = wordsL l ∧ tellM v = l ∧ runR (wordsL l) ([], []) = some ([], [v]) := by
  unfold readM at h
  cases e : runR (wordsL l) ([], []) with
  | none => rw [e] at h; cases h
  | some s =>
    rw [e] at h
    obtain ⟨O, W⟩ := s
    have hg := runR_good e ⟨fun _ z => (List.not_mem_nil z).elim, trivial⟩
    have hf := runR_flat e
    match O, W, h with
    | [], [w], h =>
      have h' : (if joinS (wordsL l) = l then some w else none) = some v := h
      split at h'
      · rename_i q
        cases h'
        have ht : toks v = wordsL l := by
          have : flatR ([], [v]) = toks v := by
            unfold flatR
            rw [toksL_one]
            rfl
          rw [← this, hf]
          rfl
        exact ⟨hg.2.1, ht, by unfold tellM; rw [ht]; exact q, rfl⟩
      · cases h'
end L2.MT
/-! the law's own reading of a text, sign by sign, agrees with the reading by parts -/
namespace L2.MT
open PySem TL SX
def sep (c : Nat) : Bool := c == 32 || c == 40 || c == 41
def word (l : List Nat) : List Nat := l.takeWhile fun c => !sep c
def rest (l : List Nat) : List Nat := l.dropWhile fun c => !sep c
theorem word_rest (l : List Nat) : word l ++ rest l = l := List.takeWhile_append_dropWhile
inductive Ah where
  | start
  | part
  | blank
  | opn
  deriving DecidableEq
/-- n turns are left at most; what is ahead: deep, the kind of what stands before, how many whole ones -/
def fit : Nat → List Nat → Nat → Ah → Nat → Bool
  | 0, _, _, _, _ => false
  | _ + 1, [], deep, _, whole => decide (deep = 0) && decide (whole = 1)
  | n + 1, c :: r, deep, a, whole =>
    if c = 32 then (if a ≠ .part ∨ deep = 0 then false else fit n r deep .blank whole)
    else if c = 41 then (if deep = 0 ∨ a = .blank then false else fit n r (deep - 1) .part (whole + if deep - 1 = 0 then 1 else 0))
    else if a = .part ∨ (deep = 0 ∧ whole > 0) then false
    else if c = 40 then (if deep + 1 > 12 then false else fit n r (deep + 1) .opn whole)
    else if (readPart (word (c :: r))).isSome = false then false
    else fit n (rest (c :: r)) deep .part (whole + if deep = 0 then 1 else 0)
/-- how many whole ones the reading has at the top -/
def topN (st : RS) : Nat := match st.1 with | [] => st.2.length | l :: _ => l.length
theorem topN_snoc (O : List (List Tv)) (l W : List Tv) : topN (O ++ [l], W) = topN (O, l) := by
  cases O with
  | nil => rfl
  | cons a b => rfl
theorem topN_nil (W : List Tv) : topN ([], W) = W.length := rfl
theorem topN_deep {O : List (List Tv)} (h : O ≠ []) (W W' : List Tv) : topN (O, W) = topN (O, W') := by
  cases O with
  | nil => exact absurd rfl h
  | cons a b => rfl
/-! ### what the signs fit, the parts tell -/
structure Fits (p l : List Nat) (ts : List (List Nat)) (st : RS) (deep : Nat) (a : Ah) (whole : Nat) : Prop where
  run : runR ts ([], []) = some st
  good : ∀ t ∈ ts, Part t
  dp : st.1.length = deep
  wh : topN st = whole
  ah : match a with
    | .start => ts = [] ∧ p = []
    | .opn => p = joinS ts ∧ p.getLast? = some 40
    | .part => p = joinS ts ∧ p ≠ [] ∧ p.getLast? ≠ some 40
    | .blank => p = joinS ts ++ [32] ∧ joinS ts ≠ [] ∧ (joinS ts).getLast? ≠ some 40 ∧ deep ≠ 0
theorem run_snoc {ts : List (List Nat)} {st st' : RS} {t : List Nat} (h : runR ts ([], []) = some st) (hs : stepR st t = some st') : runR (ts ++ [t]) ([], []) = some st' := by
  rw [runR_append, h]
  show (match stepR st t with | none => none | some s => runR [] s) = _
  rw [hs]
  rfl
/-- a part that is no closing sign, behind what is not a part -/
theorem join_at {p : List Nat} {l : List Nat} {ts : List (List Nat)} {st : RS} {deep whole : Nat} {a : Ah} (F : Fits p l ts st deep a whole) (ha : a ≠ .part) {t : List Nat} (ht : t ≠ [41]) : joinS (ts ++ [t]) = p ++ t := by
  rw [joinS_snoc]
  unfold joinStep
  have h := F.ah
  cases a with
  | start =>
    obtain ⟨h1, h2⟩ := h
    rw [h1, h2]
    rfl
  | part => exact absurd rfl ha
  | opn =>
    obtain ⟨h1, h2⟩ := h
    rw [h1] at h2
    rw [if_neg fun q => q.2.1 h2, h1]
  | blank =>
    obtain ⟨h1, h2, h3, _⟩ := h
    rw [if_pos ⟨h2, h3, ht⟩, h1]
theorem join_close {p : List Nat} {l : List Nat} {ts : List (List Nat)} {st : RS} {deep whole : Nat} {a : Ah} (F : Fits p l ts st deep a whole) (ha : a ≠ .blank) : joinS (ts ++ [[41]]) = p ++ [41] := by
  rw [joinS_snoc]
  unfold joinStep
  rw [if_neg fun q => q.2.2 rfl]
  have h := F.ah
  cases a with
  | start =>
    obtain ⟨h1, h2⟩ := h
    rw [h1, h2]
    rfl
  | part => rw [h.1]
  | opn => rw [h.1]
  | blank => exact absurd rfl ha
theorem part_of {t : List Nat} {v : Tv} (h : readPart t = some v) : Part t ∧ t ≠ [40] ∧ t ≠ [41] := by
  obtain ⟨a, b, c⟩ := readPart_toks h
  have q := toks_part v b t (by rw [a]; exact List.mem_singleton.mpr rfl)
  obtain ⟨t', e, _, n1, n2⟩ := readPart_back b c
  rw [a] at e
  injection e with e _
  subst e
  exact ⟨q, n1, n2⟩
theorem last_part {t : List Nat} (h : Part t) (h1 : t ≠ [40]) : t.getLast? ≠ some 40 := by
  intro z
  rcases h with h | h | ⟨_, h⟩
  · exact h1 h
  · rw [h] at z
    cases z
  · exact (h 40 (List.mem_of_getLast? z)).2.1 rfl
theorem fit_read : ∀ (n : Nat) (p l : List Nat) (ts : List (List Nat)) (st : RS) (deep : Nat) (a : Ah) (whole : Nat), Fits p l ts st deep a whole → fit n l deep a whole = true → ∃ v, readM (p ++ l) = some v
  | 0, _, _, _, _, _, _, _, _, h => by cases h
  | n + 1, p, [], ts, st, deep, a, whole, F, h => by
    unfold fit at h
    rw [Bool.and_eq_true, decide_eq_true_iff, decide_eq_true_iff] at h
    obtain ⟨h1, h2⟩ := h
    obtain ⟨O, W⟩ := st
    have hO : O = [] := List.eq_nil_of_length_eq_zero (F.dp.trans h1)
    subst hO
    have hW : W.length = 1 := F.wh.trans h2
    obtain ⟨v, rfl⟩ : ∃ v, W = [v] := by
      match W, hW with
      | [v], _ => exact ⟨v, rfl⟩
    have hf := runR_flat F.run
    have ne : ts ≠ [] := fun e => by
      have := F.run
      rw [e] at this
      cases this
    have ep : p = joinS ts := by
      have h := F.ah
      cases a with
      | start => exact absurd h.1 ne
      | part => exact h.1
      | opn => exact h.1
      | blank => exact absurd h1 h.2.2.2
    rw [List.append_nil, ep]
    refine ⟨v, ?_⟩
    unfold readM
    rw [words_join F.good, F.run]
    show (if joinS ts = joinS ts then some v else none) = _
    rw [if_pos rfl]
  | n + 1, p, c :: r, ts, st, deep, a, whole, F, h => by
    unfold fit at h
    by_cases h32 : c = 32
    · rw [if_pos h32] at h
      by_cases hb : a ≠ .part ∨ deep = 0
      · rw [if_pos hb] at h
        cases h
      · rw [if_neg hb] at h
        have ha : a = .part := Classical.byContradiction fun q => hb (.inl q)
        subst ha
        have q := F.ah
        have := fit_read n (p ++ [32]) r ts st deep .blank whole ⟨F.run, F.good, F.dp, F.wh, ⟨by rw [q.1], by rw [← q.1]; exact q.2.1, by rw [← q.1]; exact q.2.2, fun z => hb (.inr z)⟩⟩ h
        rw [h32]
        rw [List.append_assoc] at this
        exact this
    · rw [if_neg h32] at h
      by_cases h41 : c = 41
      · rw [if_pos h41] at h
        by_cases hb : deep = 0 ∨ a = .blank
        · rw [if_pos hb] at h
          cases h
        · rw [if_neg hb] at h
          have hd : deep ≠ 0 := fun q => hb (.inl q)
          have ha : a ≠ .blank := fun q => hb (.inr q)
          obtain ⟨O, W⟩ := st
          have hne : O ≠ [] := fun z => hd (by rw [← F.dp, z]; rfl)
          obtain ⟨O2, lo, rfl⟩ : ∃ O2 lo, O = O2 ++ [lo] := ⟨_, _, (List.dropLast_concat_getLast hne).symm⟩
          have hs : stepR (O2 ++ [lo], W) [41] = some (O2, lo ++ [.tup W]) := by
            unfold stepR
            rw [if_neg (by decide), if_pos rfl]
            show (match (O2 ++ [lo]).getLast? with | none => none | some l => some ((O2 ++ [lo]).dropLast, l ++ [Tv.tup W])) = _
            rw [List.getLast?_concat, List.dropLast_concat]
          have dp : O2.length = deep - 1 := by
            have := F.dp
            rw [List.length_append] at this
            have : O2.length + 1 = deep := this
            omega
          have wh := F.wh
          rw [topN_snoc] at wh
          have ej := join_close F ha
          have := fit_read n (p ++ [41]) r (ts ++ [[41]]) (O2, lo ++ [.tup W]) (deep - 1) .part _ ⟨run_snoc F.run hs, fun t ht => (List.mem_append.mp ht).elim (F.good t) fun z => .inr (.inl (List.mem_singleton.mp z)), dp, ?_, ⟨ej.symm, by simp, by rw [List.getLast?_concat]; decide⟩⟩ h
          · rw [h41]
            rw [List.append_assoc] at this
            exact this
          · by_cases hO2 : O2 = []
            · subst hO2
              have e0 : deep - 1 = 0 := dp.symm
              rw [if_pos e0, topN_nil, List.length_append]
              rw [topN_nil] at wh
              show lo.length + 1 = _
              omega
            · have e0 : ¬ deep - 1 = 0 := fun q => hO2 (List.eq_nil_of_length_eq_zero (dp.trans q))
              rw [if_neg e0, topN_deep hO2 _ lo]
              exact wh
      · rw [if_neg h41] at h
        by_cases hb : a = .part ∨ (deep = 0 ∧ whole > 0)
        · rw [if_pos hb] at h
          cases h
        · rw [if_neg hb] at h
          have ha : a ≠ .part := fun q => hb (.inl q)
          by_cases h40 : c = 40
          · rw [if_pos h40] at h
            by_cases h12 : deep + 1 > 12
            · rw [if_pos h12] at h
              cases h
            · rw [if_neg h12] at h
              obtain ⟨O, W⟩ := st
              have hs : stepR (O, W) [40] = some (O ++ [W], []) := by
                unfold stepR
                rw [if_pos rfl, if_neg (by rw [show O.length = deep from F.dp]; exact h12)]
              have ej := join_at F ha (t := [40]) (by decide)
              have := fit_read n (p ++ [40]) r (ts ++ [[40]]) (O ++ [W], []) (deep + 1) .opn whole ⟨run_snoc F.run hs, fun t ht => (List.mem_append.mp ht).elim (F.good t) fun z => .inl (List.mem_singleton.mp z), by rw [List.length_append, show O.length = deep from F.dp]; rfl, by rw [topN_snoc]; exact F.wh, ⟨ej.symm, by rw [List.getLast?_concat]⟩⟩ h
              rw [h40]
              rw [List.append_assoc] at this
              exact this
          · rw [if_neg h40] at h
            cases hp : readPart (word (c :: r)) with
            | none =>
              rw [hp] at h
              cases h
            | some v =>
              rw [hp] at h
              have h' : fit n (rest (c :: r)) deep .part (whole + if deep = 0 then 1 else 0) = true := h
              obtain ⟨g1, g2, g3⟩ := part_of hp
              obtain ⟨O, W⟩ := st
              have hs : stepR (O, W) (word (c :: r)) = some (O, W ++ [v]) := by
                unfold stepR
                rw [if_neg g2, if_neg g3, hp]
              have ej := join_at F ha (t := word (c :: r)) g3
              have := fit_read n (p ++ word (c :: r)) (rest (c :: r)) (ts ++ [word (c :: r)]) (O, W ++ [v]) deep .part _ ⟨run_snoc F.run hs, fun t ht => (List.mem_append.mp ht).elim (F.good t) fun z => by rw [List.mem_singleton.mp z]; exact g1, F.dp, ?_, ⟨ej.symm, fun z => g1.ne (List.append_eq_nil_iff.mp z).2, ?_⟩⟩ h'
              · rw [List.append_assoc, word_rest] at this
                exact this
              · have wh := F.wh
                by_cases hO2 : O = []
                · subst hO2
                  have e0 : deep = 0 := F.dp.symm
                  rw [if_pos e0, topN_nil, List.length_append]
                  rw [topN_nil] at wh
                  show W.length + 1 = _
                  omega
                · have e0 : ¬ deep = 0 := fun q => hO2 (List.eq_nil_of_length_eq_zero (F.dp.trans q))
                  rw [if_neg e0, topN_deep hO2 _ W]
                  exact wh
              · rw [List.getLast?_append]
                cases q : (word (c :: r)).getLast? with
                | none => exact absurd (List.getLast?_eq_none_iff.mp q) g1.ne
                | some x =>
                  have := last_part g1 g2
                  rw [q] at this
                  exact this
  termination_by n => n
/-! ### what the parts tell, the signs fit -/
def restJ : Bool → List (List Nat) → List Nat
  | _, [] => []
  | b, t :: ts => (if b = true ∧ t ≠ [41] then [32] else []) ++ t ++ restJ (decide (t ≠ [40])) ts
theorem join_rest : ∀ (ts : List (List Nat)) (w : List Nat), (∀ t ∈ ts, Part t) → ts.foldl joinStep w = w ++ restJ (decide (w ≠ [] ∧ w.getLast? ≠ some 40)) ts
  | [], w, _ => (List.append_nil w).symm
  | t :: ts, w, h => by
    have ht := h t List.mem_cons_self
    have hne := ht.ne
    rw [List.foldl_cons, join_rest ts (joinStep w t) fun x hx => h x (List.mem_cons_of_mem _ hx)]
    have e : decide (joinStep w t ≠ [] ∧ (joinStep w t).getLast? ≠ some 40) = decide (t ≠ [40]) := by
      rw [Bool.eq_iff_iff, decide_eq_true_iff, decide_eq_true_iff, joinStep_last hne]
      constructor
      · exact fun q e => q.2 (by rw [e]; rfl)
      · exact fun q => ⟨joinStep_ne hne, last_part ht q⟩
    rw [e]
    show joinStep w t ++ _ = w ++ ((if decide (w ≠ [] ∧ w.getLast? ≠ some 40) = true ∧ t ≠ [41] then [32] else []) ++ t ++ restJ (decide (t ≠ [40])) ts)
    unfold joinStep
    by_cases c : w ≠ [] ∧ w.getLast? ≠ some 40 ∧ t ≠ [41]
    · rw [if_pos c, if_pos ⟨decide_eq_true ⟨c.1, c.2.1⟩, c.2.2⟩]
      simp only [List.append_assoc]
    · rw [if_neg c, if_neg fun q => c ⟨(of_decide_eq_true q.1).1, (of_decide_eq_true q.1).2, q.2⟩]
      simp only [List.append_assoc, List.nil_append]
theorem joinS_rest {ts : List (List Nat)} (h : ∀ t ∈ ts, Part t) : joinS ts = restJ false ts := by
  have := join_rest ts [] h
  rw [List.nil_append] at this
  exact this
def com (st : RS) : Nat := topN st + if st.1 = [] then 0 else 1
theorem com_step {st st' : RS} {t : List Nat} (h : stepR st t = some st') : com st ≤ com st' := by
  obtain ⟨O, W⟩ := st
  unfold stepR at h
  by_cases h1 : t = [40]
  · rw [if_pos h1] at h
    split at h
    · cases h
    · cases h
      unfold com
      rw [topN_snoc, if_neg (show ¬ O ++ [W] = [] by simp)]
      show topN (O, W) + (if O = [] then 0 else 1) ≤ topN (O, W) + 1
      split <;> omega
  · rw [if_neg h1] at h
    by_cases h2 : t = [41]
    · rw [if_pos h2] at h
      cases hl : O.getLast? with
      | none => rw [hl] at h; cases h
      | some l =>
        rw [hl] at h
        cases h
        have eO := dropLast_snoc hl
        generalize O.dropLast = O2 at *
        subst eO
        unfold com
        rw [topN_snoc, if_neg (show ¬ O2 ++ [l] = [] by simp)]
        by_cases hO2 : O2 = []
        · subst hO2
          rw [topN_nil, topN_nil, if_pos rfl, List.length_append]
          exact Nat.le_refl _
        · rw [if_neg hO2, topN_deep hO2 l (l ++ [.tup W])]
          exact Nat.le_refl _
    · rw [if_neg h2] at h
      cases hp : readPart t with
      | none => rw [hp] at h; cases h
      | some v =>
        rw [hp] at h
        cases h
        unfold com
        by_cases hO2 : O = []
        · subst hO2
          show W.length + 0 ≤ (W ++ [v]).length + 0
          rw [List.length_append]
          omega
        · show topN (O, W) + (if O = [] then 0 else 1) ≤ topN (O, W ++ [v]) + (if O = [] then 0 else 1)
          rw [topN_deep hO2 W (W ++ [v])]
          exact Nat.le_refl _
theorem com_run : ∀ {ts : List (List Nat)} {st s : RS}, runR ts st = some s → com st ≤ com s
  | [], st, s, h => by cases h; exact Nat.le_refl _
  | t :: ts, st, s, h => by
    have h' : (match stepR st t with | none => none | some s => runR ts s) = some s := h
    cases e : stepR st t with
    | none => rw [e] at h'; cases h'
    | some s1 =>
      rw [e] at h'
      exact Nat.le_trans (com_step e) (com_run h')
theorem sep_part {t : List Nat} {v : Tv} (h : readPart t = some v) : ∀ c ∈ t, sep c = false := by
  obtain ⟨g1, g2, g3⟩ := part_of h
  intro c hc
  rcases g1 with z | z | ⟨_, z⟩
  · exact absurd z g2
  · exact absurd z g3
  · obtain ⟨z1, z2, z3⟩ := z c hc
    have n32 : c ≠ 32 := fun e => by rw [e, space32] at z1; cases z1
    unfold sep
    rw [beq_eq_false_iff_ne.mpr n32, beq_eq_false_iff_ne.mpr z2, beq_eq_false_iff_ne.mpr z3]
    rfl
theorem word_app : ∀ {t x : List Nat}, (∀ c ∈ t, sep c = false) → (∀ c, x.head? = some c → sep c = true) → word (t ++ x) = t ∧ rest (t ++ x) = x
  | [], x, _, hx => by
    cases x with
    | nil => exact ⟨rfl, rfl⟩
    | cons c r =>
      have := hx c rfl
      unfold word rest
      constructor
      · show List.takeWhile _ (c :: r) = []
        rw [List.takeWhile_cons, this]
        rfl
      · show List.dropWhile _ (c :: r) = _
        rw [List.dropWhile_cons, this]
        rfl
  | c :: t, x, h, hx => by
    obtain ⟨h1, h2⟩ := word_app (t := t) (x := x) (fun d hd => h d (List.mem_cons_of_mem _ hd)) hx
    have hc := h c List.mem_cons_self
    unfold word rest at *
    constructor
    · show List.takeWhile _ (c :: (t ++ x)) = _
      rw [List.takeWhile_cons, hc]
      show c :: List.takeWhile _ (t ++ x) = _
      rw [h1]
    · show List.dropWhile _ (c :: (t ++ x)) = _
      rw [List.dropWhile_cons, hc]
      exact h2
theorem restJ_head {ts : List (List Nat)} : ∀ c, (restJ true ts).head? = some c → sep c = true := by
  cases ts with
  | nil => intro c h; cases h
  | cons t ts =>
    intro c h
    by_cases e : t = [41]
    · subst e
      have h' : some 41 = some c := h
      cases h'
      rfl
    · have e2 : restJ true (t :: ts) = 32 :: (t ++ restJ (decide (t ≠ [40])) ts) := by
        show (if true = true ∧ t ≠ [41] then [32] else []) ++ t ++ _ = _
        rw [if_pos ⟨rfl, e⟩]
        rfl
      rw [e2] at h
      cases h
      rfl
theorem restJ_close (b : Bool) (ts : List (List Nat)) : restJ b ([41] :: ts) = 41 :: restJ true ts := by
  show (if b = true ∧ [41] ≠ [41] then [32] else []) ++ [41] ++ restJ (decide (([41] : List Nat) ≠ [40])) ts = _
  rw [if_neg fun q => q.2 rfl]
  rfl
/-- one turn for a part that is no closing sign, behind what is no part -/
theorem read_fit {v : Tv} : ∀ (ts : List (List Nat)) (st : RS) (deep : Nat) (a : Ah) (whole n : Nat), runR ts st = some ([], [v]) → st.1.length = deep → topN st = whole → a ≠ .blank → (a = .part → deep = 0 → 1 ≤ whole) → (restJ (decide (a = .part)) ts).length < n →
    fit n (restJ (decide (a = .part)) ts) deep a whole = true
  | [], st, deep, a, whole, n, hr, hd, hw, _, _, hn => by
    cases hr
    obtain ⟨m, rfl⟩ : ∃ m, n = m + 1 := ⟨n - 1, by omega⟩
    have h1 : deep = 0 := hd.symm
    have h2 : whole = 1 := hw.symm
    show (decide (deep = 0) && decide (whole = 1)) = true
    rw [decide_eq_true h1, decide_eq_true h2]
    rfl
  | t :: ts, st, deep, a, whole, n, hr, hd, hw, hnb, hpw, hn => by
    have hr' : (match stepR st t with | none => none | some s => runR ts s) = some ([], [v]) := hr
    cases e : stepR st t with
    | none => rw [e] at hr'; cases hr'
    | some s1 =>
      rw [e] at hr'
      have hr1 : runR ts s1 = some ([], [v]) := hr'
      have hcom : com s1 ≤ 1 := com_run hr1
      obtain ⟨O, W⟩ := st
      have hd' : O.length = deep := hd
      by_cases h41 : t = [41]
      · subst h41
        rw [restJ_close] at hn ⊢
        obtain ⟨m, rfl⟩ : ∃ m, n = m + 1 := ⟨n - 1, by omega⟩
        rw [List.length_cons] at hn
        unfold stepR at e
        rw [if_neg (by decide), if_pos rfl] at e
        cases hl : O.getLast? with
        | none => rw [hl] at e; cases e
        | some lo =>
          rw [hl] at e
          cases e
          have eO := dropLast_snoc hl
          generalize O.dropLast = O2 at *
          subst eO
          have ld : O2.length + 1 = deep := by
            rw [List.length_append] at hd'
            exact hd'
          rw [topN_snoc] at hw
          unfold fit
          rw [if_neg (by decide), if_pos rfl, if_neg (fun q => q.elim (fun z => by omega) hnb)]
          refine read_fit ts (O2, lo ++ [.tup W]) (deep - 1) .part _ m hr1 (by show O2.length = _; omega) ?_ (by decide) (fun _ z => ?_) ?_
          · by_cases hO2 : O2 = []
            · subst hO2
              have e0 : deep - 1 = 0 := by rw [← ld]; rfl
              rw [if_pos e0, topN_nil, List.length_append]
              rw [topN_nil] at hw
              show lo.length + 1 = _
              omega
            · have e0 : ¬ deep - 1 = 0 := fun q => hO2 (List.eq_nil_of_length_eq_zero (by omega))
              rw [if_neg e0, topN_deep hO2 _ lo]
              exact hw
          · rw [if_pos z]
            omega
          · show (restJ true ts).length < m
            omega
      · -- what is read behind a blank
        have body : ∀ (a' : Ah) (m : Nat), a' ≠ .part → (t ++ restJ (decide (t ≠ [40])) ts).length < m → fit m (t ++ restJ (decide (t ≠ [40])) ts) deep a' whole = true := by
          intro a' m ha' hm
          obtain ⟨m, rfl⟩ : ∃ k, m = k + 1 := ⟨m - 1, by omega⟩
          unfold stepR at e
          by_cases h40 : t = [40]
          · subst h40
            rw [if_pos rfl] at e
            split at e
            · cases e
            · rename_i h12
              cases e
              have h12' : ¬ deep + 1 > 12 := by rw [← hd']; exact h12
              have hno : ¬ (deep = 0 ∧ whole > 0) := fun ⟨z1, z2⟩ => by
                have hO : O = [] := List.eq_nil_of_length_eq_zero (hd'.trans z1)
                subst hO
                have hc2 : W.length + 1 ≤ 1 := hcom
                have hw2 : W.length = whole := hw
                omega
              show fit (m + 1) (40 :: restJ false ts) deep a' whole = true
              unfold fit
              rw [if_neg (by decide), if_neg (by decide), if_neg (fun q => q.elim ha' hno), if_pos rfl, if_neg h12']
              refine read_fit ts (O ++ [W], []) (deep + 1) .opn whole m hr1 ?_ (by rw [topN_snoc]; exact hw) (by decide) (fun z => by cases z) ?_
              · rw [List.length_append]
                show O.length + 1 = _
                omega
              · have : ([40] ++ restJ false ts).length < m + 1 := hm
                rw [List.length_append] at this
                show (restJ false ts).length < m
                have : 1 + (restJ false ts).length < m + 1 := this
                omega
          · rw [if_neg h40, if_neg h41] at e
            cases hp : readPart t with
            | none => rw [hp] at e; cases e
            | some u =>
              rw [hp] at e
              cases e
              rw [decide_eq_true h40] at hm ⊢
              obtain ⟨w1, w2⟩ := word_app (x := restJ true ts) (sep_part hp) restJ_head
              obtain ⟨g1, _, _⟩ := part_of hp
              obtain ⟨c, r, rfl⟩ : ∃ c r, t = c :: r := by
                cases t with
                | nil => exact absurd rfl g1.ne
                | cons c r => exact ⟨c, r, rfl⟩
              have hsc := sep_part hp c List.mem_cons_self
              have n32 : c ≠ 32 := fun z => by rw [z] at hsc; cases hsc
              have n41 : c ≠ 41 := fun z => by rw [z] at hsc; cases hsc
              have n40 : c ≠ 40 := fun z => by rw [z] at hsc; cases hsc
              have hno : ¬ (deep = 0 ∧ whole > 0) := fun ⟨z1, z2⟩ => by
                have hO : O = [] := List.eq_nil_of_length_eq_zero (hd'.trans z1)
                subst hO
                unfold com at hcom
                rw [topN_nil, if_pos rfl, List.length_append] at hcom
                rw [topN_nil] at hw
                have : W.length + 1 + 0 ≤ 1 := hcom
                omega
              show fit (m + 1) (c :: (r ++ restJ true ts)) deep a' whole = true
              unfold fit
              rw [if_neg n32, if_neg n41, if_neg (fun q => q.elim ha' hno), if_neg n40]
              rw [show word (c :: (r ++ restJ true ts)) = c :: r from w1, show rest (c :: (r ++ restJ true ts)) = restJ true ts from w2, hp]
              rw [if_neg (by simp)]
              refine read_fit ts (O, W ++ [u]) deep .part _ m hr1 hd' ?_ (by decide) (fun _ z => by rw [if_pos z]; omega) ?_
              · by_cases hO2 : O = []
                · subst hO2
                  have e0 : deep = 0 := hd'.symm
                  rw [if_pos e0, topN_nil, List.length_append]
                  rw [topN_nil] at hw
                  show W.length + 1 = _
                  omega
                · have e0 : ¬ deep = 0 := fun q => hO2 (List.eq_nil_of_length_eq_zero (hd'.trans q))
                  rw [if_neg e0, topN_deep hO2 _ W]
                  exact hw
              · have : (c :: r ++ restJ true ts).length < m + 1 := hm
                rw [List.length_append, List.length_cons] at this
                show (restJ true ts).length < m
                omega
        by_cases ha : a = .part
        · subst ha
          have e2 : restJ (decide (Ah.part = .part)) (t :: ts) = 32 :: (t ++ restJ (decide (t ≠ [40])) ts) := by
            show (if decide (Ah.part = .part) = true ∧ t ≠ [41] then [32] else []) ++ t ++ _ = _
            rw [if_pos ⟨rfl, h41⟩]
            rfl
          rw [e2] at hn ⊢
          obtain ⟨m, rfl⟩ : ∃ m, n = m + 1 := ⟨n - 1, by omega⟩
          have hdn : deep ≠ 0 := fun z => by
            have w1 := hpw rfl z
            have hO : O = [] := List.eq_nil_of_length_eq_zero (hd'.trans z)
            subst hO
            rw [topN_nil] at hw
            unfold stepR at e
            by_cases h40 : t = [40]
            · rw [if_pos h40] at e
              split at e
              · cases e
              · cases e
                have hc2 : W.length + 1 ≤ 1 := hcom
                have hw2 : W.length = whole := hw
                omega
            · rw [if_neg h40, if_neg h41] at e
              cases hp : readPart t with
              | none => rw [hp] at e; cases e
              | some u =>
                rw [hp] at e
                cases e
                unfold com at hcom
                rw [topN_nil, if_pos rfl, List.length_append] at hcom
                have : W.length + 1 + 0 ≤ 1 := hcom
                omega
          unfold fit
          rw [if_pos rfl, if_neg (fun q => q.elim (fun z => z rfl) hdn)]
          refine body .blank m (by decide) ?_
          rw [List.length_cons] at hn
          omega
        · have e2 : restJ (decide (a = .part)) (t :: ts) = t ++ restJ (decide (t ≠ [40])) ts := by
            show (if decide (a = .part) = true ∧ t ≠ [41] then [32] else []) ++ t ++ _ = _
            rw [decide_eq_false ha, if_neg (fun q => by cases q.1)]
            rfl
          rw [e2] at hn ⊢
          exact body a n ha hn
/-- the law's own reading takes just what is read -/
theorem fit_iff (l : List Nat) : fit (l.length + 1) l 0 .start 0 = (readM l).isSome := by
  rw [Bool.eq_iff_iff, Option.isSome_iff_exists]
  constructor
  · intro h
    have := fit_read (l.length + 1) [] l [] ([], []) 0 .start 0 ⟨rfl, fun _ h => (List.not_mem_nil h).elim, rfl, rfl, rfl, rfl⟩ h
    rw [List.nil_append] at this
    exact this
  · rintro ⟨v, h⟩
    obtain ⟨ok, ht, hl, hr⟩ := read_some h
    have el : l = restJ false (toks v) := by
      rw [← joinS_rest (toks_part v ok)]
      exact hl.symm
    rw [← ht] at hr
    have := read_fit (toks v) ([], []) 0 .start 0 (l.length + 1) hr rfl rfl (by decide) (fun z => by cases z) (by
      show (restJ false (toks v)).length < _
      rw [← el]
      exact Nat.lt_succ_self _)
    have e2 : restJ (decide (Ah.start = .part)) (toks v) = l := el.symm
    rw [e2] at this
    exact this
/-! ### telling of a tuple -/
theorem restJ_toks : ∀ (v : Tv) (b : Bool) (ts : List (List Nat)), Ok v → restJ b (toks v ++ ts) = (if b = true then [32] else []) ++ tellM v ++ restJ true ts := by
  have key : ∀ (xs : List (List Nat)) (b : Bool) (ts : List (List Nat)), xs ≠ [] → xs.head? ≠ some [41] → xs.getLast? ≠ some [40] → restJ b (xs ++ ts) = (if b = true then [32] else []) ++ restJ false xs ++ restJ true ts := by
    intro xs
    induction xs with
    | nil => intro b ts h; exact absurd rfl h
    | cons x xs ih =>
      intro b ts _ h41 h40
      have hx : x ≠ [41] := fun z => h41 (by rw [z]; rfl)
      show (if b = true ∧ x ≠ [41] then [32] else []) ++ x ++ restJ (decide (x ≠ [40])) (xs ++ ts) = (if b = true then [32] else []) ++ ((if false = true ∧ x ≠ [41] then [32] else []) ++ x ++ restJ (decide (x ≠ [40])) xs) ++ restJ true ts
      have e1 : (if b = true ∧ x ≠ [41] then [32] else []) = (if b = true then [32] else [] : List Nat) := by
        cases b
        · rw [if_neg (fun q => by cases q.1), if_neg (fun q => by cases q)]
        · rw [if_pos ⟨rfl, hx⟩, if_pos rfl]
      have e2 : (if false = true ∧ x ≠ [41] then [32] else [] : List Nat) = [] := if_neg fun q => by cases q.1
      rw [e1, e2, List.nil_append]
      have e3 : restJ (decide (x ≠ [40])) (xs ++ ts) = restJ (decide (x ≠ [40])) xs ++ restJ true ts := by
        cases xs with
        | nil =>
          have : x ≠ [40] := fun z => h40 (by rw [z]; rfl)
          rw [decide_eq_true this]
          rfl
        | cons y ys =>
          -- the same gaps behind the first
          have gen : ∀ (zs : List (List Nat)) (b : Bool) (ts : List (List Nat)), zs ≠ [] → zs.getLast? ≠ some [40] → restJ b (zs ++ ts) = restJ b zs ++ restJ true ts := by
            intro zs
            induction zs with
            | nil => intro b ts h; exact absurd rfl h
            | cons z zs ihz =>
              intro b ts _ hl
              show (if b = true ∧ z ≠ [41] then [32] else []) ++ z ++ restJ (decide (z ≠ [40])) (zs ++ ts) = (if b = true ∧ z ≠ [41] then [32] else []) ++ z ++ restJ (decide (z ≠ [40])) zs ++ restJ true ts
              cases zs with
              | nil =>
                have : z ≠ [40] := fun q => hl (by rw [q]; rfl)
                rw [decide_eq_true this]
                show _ ++ restJ true ts = _ ++ [] ++ restJ true ts
                rw [List.append_nil]
              | cons y ys =>
                rw [ihz (decide (z ≠ [40])) ts (by simp) (by rw [List.getLast?_cons_cons] at hl; exact hl)]
                simp only [List.append_assoc]
          exact gen (y :: ys) _ ts (by simp) (by rw [List.getLast?_cons_cons] at h40; exact h40)
      rw [e3]
      simp only [List.append_assoc]
  intro v b ts ok
  have hp := toks_part v ok
  rw [key (toks v) b ts ?_ ?_ ?_]
  · unfold tellM
    rw [joinS_rest hp]
  · intro z
    have := toks_pos v
    rw [z] at this
    exact absurd this (by decide)
  · cases v with
    | non => decide
    | int n =>
      intro z
      have z' : some (numT n) = some [41] := z
      exact absurd (numT_numB (show n.natAbs < 10 ^ 100 from ok)).1 (by rw [Option.some.inj z']; decide)
    | str s =>
      intro z
      have z' : some s = some [41] := z
      have hs : letters s := ok
      rw [Option.some.inj z'] at hs
      exact absurd (hs.2 41 (by decide)) (by decide)
    | tup vs =>
      intro z
      have z' : some ([40] : List Nat) = some [41] := z
      cases z'
  · cases v with
    | non => decide
    | int n =>
      intro z
      have z' : some (numT n) = some [40] := z
      exact absurd (numT_numB (show n.natAbs < 10 ^ 100 from ok)).1 (by rw [Option.some.inj z']; decide)
    | str s =>
      intro z
      have z' : some s = some [40] := z
      have hs : letters s := ok
      rw [Option.some.inj z'] at hs
      exact absurd (hs.2 40 (by decide)) (by decide)
    | tup vs =>
      intro z
      have z' : ([40] :: (toksL vs ++ [[41]])).getLast? = some [40] := z
      rw [← List.cons_append, List.getLast?_concat] at z'
      cases z'
theorem tell_tup : ∀ (vs : List Tv), OkL vs → tellM (.tup vs) = [40] ++ joinL [32] (vs.map tellM) ++ [41] := by
  intro vs ok
  have h1 : tellM (.tup vs) = restJ false ([40] :: (toksL vs ++ [[41]])) := joinS_rest (toks_part (.tup vs) ok)
  rw [h1]
  show (if false = true ∧ ([40] : List Nat) ≠ [41] then [32] else []) ++ [40] ++ restJ false (toksL vs ++ [[41]]) = _
  rw [if_neg (fun q => by cases q.1)]
  have gen : ∀ (vs : List Tv) (b : Bool), OkL vs → vs ≠ [] → restJ b (toksL vs ++ [[41]]) = (if b = true then [32] else []) ++ joinL [32] (vs.map tellM) ++ [41] := by
    intro vs
    induction vs with
    | nil => intro b _ h; exact absurd rfl h
    | cons v vs ih =>
      intro b ok _
      show restJ b (toks v ++ toksL vs ++ [[41]]) = _
      rw [List.append_assoc, restJ_toks v b _ ok.1]
      cases vs with
      | nil =>
        show _ ++ tellM v ++ restJ true ([] ++ [[41]]) = _ ++ tellM v ++ [41]
        rw [List.nil_append, restJ_close]
        rfl
      | cons u us =>
        rw [ih true ok.2 (by simp), if_pos rfl]
        show _ ++ tellM v ++ ([32] ++ joinL [32] ((u :: us).map tellM) ++ [41]) = _ ++ (tellM v ++ ([32] ++ joinL [32] ((u :: us).map tellM))) ++ [41]
        simp only [List.append_assoc]
  cases vs with
  | nil => rfl
  | cons v vs =>
    rw [gen (v :: vs) false ok (by simp), if_neg (fun q => by cases q)]
    simp only [List.append_assoc, List.nil_append]
end L2.MT
/-! texts: list(text), comprehensions over a text; values of tellings in the heap -/
namespace L2.KK
open PySem PySem.Spec PyProof.Rows C8 SX
/-- the signs of a text, each a text -/
def sgV (l : List Nat) : List V := l.map fun c => V.str (S [c])
section
variable {X : Cx} {K : PySem.W.Frag} {H H1 : Hp} {D : Addr} {σ : St} {k : Nat} {tt : TT} {te : TE} {Qd : Hp → Prop} {sel : Nat → Bool} {P : Nat → V → Hp → Prop}
/-- list(text) -/
theorem crListS (hc : X.calm = true := by rfl) : CallR X (.type "list") (fun xs H Q => ∃ l : List Nat, xs = [.str (S l)] ∧ l.length ≤ sizeLine ∧ ∀ q, H q = none → Q (.ref q) (upd H q (.lst (sgV l)))) := by
  intro pins s σ H xs us Q I r h
  obtain ⟨l, rfl, hz, q⟩ := h
  obtain ⟨u, rfl, t, rfl⟩ := vals1 r
  refine PySem.call_list_str (I.ok.hd hc) (S l) t (fun h' tk acc c' kp e hi => ?_) (by simpa [Str.length] using hz)
  have hl : (sgV l).length = acc.toList.length := by
    unfold sgV
    rw [List.length_map]
    have e1 : acc.toList.length = (S l).cps.size := by rw [Array.length_toList]; exact hi.1
    rw [e1]
    simp
  refine ⟨.ref s.heap.objs.size, upd H s.heap.objs.size (.lst (sgV l)), I.laid kp (Nat.le_refl _) (show ObjOk X.prog X.w _ _ _ (.lst (sgV l)) from ⟨by unfold sgV; rw [List.length_map]; exact hz, acc.toList, c', ?_, by rw [Array.toArray_toList]; exact e⟩), rfl, q _ (I.hok.fresh (Nat.le_refl _))⟩
  refine vals_of_at hl fun j x u h1 h2 => ?_
  obtain ⟨c, v, hc2, rfl⟩ := hi.2 j u (by rw [← Array.getElem?_toList]; exact h2)
  unfold sgV at h1
  rw [List.getElem?_map] at h1
  have e2 : l[j]? = some c := by simpa using hc2
  rw [e2] at h1
  cases h1
  exact ⟨v, rfl⟩
/-- a comprehension over a text, its turns changing nothing that stood -/
theorem lc_strT {l : List Nat} (T : Turns H σ k (fun i => .str (S [l.getD i 0])) l.length tt te sel P) (hD : H D = none) (hz : l.length ≤ sizeLine)
    (hd : ∀ H' ys, Same H H' → H' D = some (.lst ys) → ys.length ≤ l.length → Paired (fun y j => P j y H') ys ((List.range l.length).filter sel) → Qd H') :
    ∃ W : Nat → Nat → Hp → Prop, (∃ m, W 0 m (upd H D (.lst []))) ∧ ∀ i m H, W i m H →
      ((Its (S l)).stop i H ∧ Qd H) ∨ ((Its (S l)).go i H ∧ ∃ Nx : Hp → Prop, (∀ H', Nx H' → ∃ m', m' < m ∧ W (i + 1) m' H') ∧ ∀ x H', (Its (S l)).yld i H x H' → gName k x (wipe σ [k]) H' fun σ2 H2 => wipe σ2 [k] = wipe σ [k] ∧ tt σ2 H2 fun b H3 =>
        if b = true then te σ2 H3 fun y H4 => ∃ acc, H4 D = some (.lst acc) ∧ acc.length < sizeLine ∧ Nx (upd H4 D (.lst (acc ++ [y]))) else Nx H3) := by
  have e : (S l).cps.size = l.length := by simp
  have w : Walk (Its (S l)) l.length (fun _ => True) (fun i H v H' => H' = H ∧ ∃ c, (S l).cps[i]? = some c ∧ v = .str ⟨#[c]⟩) := by
    rw [← e]
    exact walk_str
  exact lc_itT w (fun i H x H' hi y => ⟨y.1, by
    obtain ⟨c, hc, rfl⟩ := y.2
    have e2 : l[i]? = some c := by simpa using hc
    rw [List.getD_eq_getElem?_getD, e2]
    rfl⟩) (fun _ _ => trivial) T hD hz hd
end
/-! ### what a list that changes leaves -/
section
variable {K : PySem.W.Frag} {H H' H2 : Hp} {a : Addr} {xs : List V}
theorem sameT_refl (H : Hp) : SameT H H := fun _ _ h _ => h
theorem sameT_trans (a : SameT H H') (b : SameT H' H2) : SameT H H2 := fun c o h n => b c o (a c o h n) n
theorem seqT_T (e : SameT H H') (h : SqT K H a xs) : SqT K H' a xs := by
  rcases h with (h | ⟨o, h⟩) | h
  · exact .inl (.inl (e _ _ h trivial))
  · exact .inl (.inr ⟨o, e _ _ h trivial⟩)
  · exact .inr h
theorem sameT_new {p : Addr} {o : HO} (e : SameT H H') (h : H p = none) : SameT H (upd H' p o) := fun b u q n => by
  rw [upd_ne (ne_of_none q h)]
  exact e b u q n
/-- Same, but for the lists at some addresses -/
theorem sameT_upd {p : Addr} {xs ys : List V} (h : H p = some (.lst xs)) : SameT H (upd H p (.lst ys)) := sameT_lst h
end
/-! ### values -/
open MT (Tv)
mutual
def TvAt (K : PySem.W.Frag) (H : Hp) : V → Tv → Prop
  | y, .non => y = .non
  | y, .int n => y = .int n
  | y, .str s => y = .str (S s)
  | y, .tup vs => ∃ a ys, y = .ref a ∧ SqT K H a ys ∧ TvAts K H ys vs
def TvAts (K : PySem.W.Frag) (H : Hp) : List V → List Tv → Prop
  | [], [] => True
  | y :: ys, v :: vs => TvAt K H y v ∧ TvAts K H ys vs
  | _, _ => False
end
mutual
theorem TvAt.step {K : PySem.W.Frag} {H H' : Hp} (e : SameT H H') : ∀ (v : Tv) (y : V), TvAt K H y v → TvAt K H' y v
  | .non, _, h => by simp only [TvAt] at h ⊢; exact h
  | .int _, _, h => by simp only [TvAt] at h ⊢; exact h
  | .str _, _, h => by simp only [TvAt] at h ⊢; exact h
  | .tup vs, _, h => by
    simp only [TvAt] at h ⊢
    obtain ⟨a, ys, h1, h2, h3⟩ := h
    exact ⟨a, ys, h1, seqT_T e h2, TvAts.step e vs ys h3⟩
theorem TvAts.step {K : PySem.W.Frag} {H H' : Hp} (e : SameT H H') : ∀ (vs : List Tv) (ys : List V), TvAts K H ys vs → TvAts K H' ys vs
  | [], [], _ => by simp only [TvAts]
  | v :: vs, y :: ys, h => by
    simp only [TvAts] at h ⊢
    exact ⟨TvAt.step e v y h.1, TvAts.step e vs ys h.2⟩
  | [], _ :: _, h => by simp only [TvAts] at h
  | _ :: _, [], h => by simp only [TvAts] at h
end
section
variable {K : PySem.W.Frag} {H H' : Hp}
theorem TvAts.pr : ∀ {ys : List V} {vs : List Tv}, TvAts K H ys vs ↔ Paired (TvAt K H) ys vs
  | [], [] => by simp only [TvAts]; exact ⟨fun _ => .nil, fun _ => trivial⟩
  | y :: ys, v :: vs => by
    simp only [TvAts]
    rw [TvAts.pr (ys := ys)]
    exact ⟨fun h => .cons h.1 h.2, fun h => by cases h with | cons a b => exact ⟨a, b⟩⟩
  | [], _ :: _ => by simp only [TvAts]; exact ⟨fun h => h.elim, fun h => nomatch h⟩
  | _ :: _, [] => by simp only [TvAts]; exact ⟨fun h => h.elim, fun h => nomatch h⟩
theorem tvAt_non {y : V} : TvAt K H y .non ↔ y = .non := by simp only [TvAt]
theorem tvAt_int {y : V} {n : Int} : TvAt K H y (.int n) ↔ y = .int n := by simp only [TvAt]
theorem tvAt_str {y : V} {s : List Nat} : TvAt K H y (.str s) ↔ y = .str (S s) := by simp only [TvAt]
theorem tvAt_tup {y : V} {vs : List Tv} : TvAt K H y (.tup vs) ↔ ∃ a ys, y = .ref a ∧ SqT K H a ys ∧ Paired (TvAt K H) ys vs := by simp only [TvAt, TvAts.pr]
theorem prT {ys : List V} {vs : List Tv} (e : SameT H H') (h : Paired (TvAt K H) ys vs) : Paired (TvAt K H') ys vs := TvAts.pr.mp (TvAts.step e vs ys (TvAts.pr.mpr h))
theorem prT_rev {α β : Type} {F : α → β → Prop} : ∀ {ys : List α} {vs : List β}, Paired F ys vs → Paired F ys.reverse vs.reverse
  | _, _, .nil => .nil
  | _, _, .cons r t => by
    rw [List.reverse_cons, List.reverse_cons]
    exact paired_append (prT_rev t) (.cons r .nil)
theorem pr_snoc {α β : Type} {F : α → β → Prop} {ys : List α} {vs : List β} {v : β} (h : Paired F ys (vs ++ [v])) : ∃ zs z, ys = zs ++ [z] ∧ Paired F zs vs ∧ F z v := by
  have q := prT_rev h
  rw [List.reverse_append] at q
  cases hr : ys.reverse with
  | nil => rw [hr] at q; cases q
  | cons z r =>
    rw [hr] at q
    cases q with
    | cons a b =>
      refine ⟨r.reverse, z, ?_, ?_, a⟩
      · have := congrArg List.reverse hr
        rw [List.reverse_reverse, List.reverse_cons] at this
        exact this
      · have q2 : Paired F r vs.reverse := b
        have q3 := prT_rev q2
        rw [List.reverse_reverse] at q3
        exact q3
end
end L2.KK
/-! one sign, so many times; a slice between two places -/
namespace L2.KK
open PySem PySem.Spec PyProof.Rows C8 SX
theorem rep_sign (c : Nat) : ∀ (n : Nat) (a : Array Nat), ((List.replicate n (#[c] : Array Nat)).foldl (· ++ ·) a).toList = a.toList ++ List.replicate n c
  | 0, a => by
    rw [List.replicate_zero, List.foldl_nil, List.replicate_zero, List.append_nil]
  | n + 1, a => by
    rw [List.replicate_succ, List.foldl_cons, rep_sign c n, Array.toList_append, List.append_assoc, List.replicate_succ]
    rfl
theorem op_mulS {X : Cx} : OpR X (binaryOp .Mult) (fun x y H Q => ∃ (c n : Nat), x = .str (S [c]) ∧ y = .int (n : Int) ∧ 2 ≤ n ∧ n ≤ 1000000 ∧ Q (.str (S (List.replicate n c))) H) := by
  intro pins s σ H x y v u Q I rx ry ⟨c, n, e1, e2, h1, h2, q⟩
  subst e1 e2
  obtain ⟨t, rfl⟩ := rx
  obtain ⟨t2, rfl⟩ := ry
  have l1 : (S [c]).length = 1 := rfl
  refine PySem.P.mul_str (by rw [decide_eq_false (by omega), decide_eq_false (by omega)]; rfl) (fun _ _ => ?_) (fun _ _ => ?_) ?_
  · rw [l1]
    have : (1 : Int) ≤ (2 ^ 63 - 1) / (n : Int) := Int.le_ediv_of_mul_le (by omega) (by omega)
    omega
  · rw [l1, Int.toNat_natCast, Nat.one_mul]
    unfold Builtin.Str.tooLong
    rw [sizeLine_eq]
    exact decide_eq_false (by omega)
  · rw [if_neg (by omega : ¬ (n : Int) < 1), l1]
    have e : ((n : Int) == 1 || 1 == 0) = false := by
      rw [Bool.or_eq_false_iff]
      exact ⟨beq_eq_false_iff_ne.mpr (by omega), rfl⟩
    rw [e, if_neg Bool.false_ne_true, Int.toNat_natCast]
    have e2 : (⟨(List.replicate n (S [c]).cps).foldl (· ++ ·) #[]⟩ : Str) = S (List.replicate n c) := by
      apply TL.ext_tl
      show ((List.replicate n (#[c] : Array Nat)).foldl (· ++ ·) #[]).toList = _
      rw [rep_sign]
      rfl
    rw [e2]
    refine ⟨?_, .str (S (List.replicate n c)), H, I.tok _, ⟨_, rfl⟩, q⟩
    rw [S_len, List.length_replicate, sizeLine_eq]
    omega
theorem slice_two {a : List Nat} {i j : Nat} (h : i ≤ j) (h2 : j ≤ a.length) : Txt.slice (S a) (some (i : Int)) (some (j : Int)) = S ((a.drop i).take (j - i)) := by
  have e := StrLaws.sliceText_plain (x := S a) (i := (i : Int)) (j := (j : Int)) ⟨by omega, by omega, by show (j : Int) ≤ (a.length : Int); omega⟩
  have e2 : cutS (S a) (some (i : Int)) (some (j : Int)) = Txt.slice (S a) (some (i : Int)) (some (j : Int)) := cutS_slice _ _ _
  rw [← e2, ← sliceText_cut, e]
  rw [Int.toNat_natCast, show ((j : Int) - (i : Int)).toNat = j - i by omega]
end L2.KK
/-! plain: prices, rows, chosen numbers -/
namespace MK
def lowO : Option Nat → Option Nat → Option Nat
  | none, b => b
  | some x, none => some x
  | some x, some y => some (if x ≤ y then x else y)
def lowL (ps : List (Option Nat)) : Option Nat := ps.foldl lowO none
def hiO : Option Nat → Option Nat → Option Nat
  | b, none => b
  | none, some x => some x
  | some y, some x => if x > y then some x else some y
def hiL (ps : List (Option Nat)) : Option Nat := ps.foldl hiO none
def lowStep : Option Nat → Option Nat → Option Nat
  | b, none => b
  | none, some x => some x
  | some y, some x => if x < y then some x else some y
def lowS (ps : List (Option Nat)) : Option Nat := ps.foldl lowStep none
theorem fold_some {f : Option Nat → Option Nat → Option Nat} (h1 : ∀ x b, (f (some x) b).isSome = true) (h2 : ∀ a y, (f a (some y)).isSome = true) : ∀ (ps : List (Option Nat)) (a : Option Nat), (a.isSome = true ∨ ∃ p ∈ ps, p.isSome = true) → (ps.foldl f a).isSome = true
  | [], a, h => by
    rcases h with h | ⟨p, hp, _⟩
    · exact h
    · cases hp
  | p :: ps, a, h => by
    rw [List.foldl_cons]
    refine fold_some h1 h2 ps _ ?_
    rcases h with h | ⟨q, hq, h⟩
    · obtain ⟨x, rfl⟩ := Option.isSome_iff_exists.mp h
      exact .inl (h1 x p)
    · rcases List.mem_cons.mp hq with z | z
      · obtain ⟨y, rfl⟩ := Option.isSome_iff_exists.mp h
        rw [← z]
        exact .inl (h2 a y)
      · exact .inr ⟨q, z, h⟩
theorem lowL_some {ps : List (Option Nat)} (h : ∃ p ∈ ps, p.isSome = true) : (lowL ps).isSome = true :=
  fold_some (fun x b => by cases b <;> rfl) (fun a y => by cases a <;> rfl) ps none (.inr h)
theorem hiL_some {ps : List (Option Nat)} (h : ∃ p ∈ ps, p.isSome = true) : (hiL ps).isSome = true :=
  fold_some (fun x b => by
    cases b with
    | none => rfl
    | some y => show (if y > x then some y else some x).isSome = true; split <;> rfl) (fun a y => by
    cases a with
    | none => rfl
    | some x => show (if y > x then some y else some x).isSome = true; split <;> rfl) ps none (.inr h)
theorem fold_none : ∀ (ps : List (Option Nat)), (∀ p ∈ ps, p = none) → ps.foldl lowStep none = none
  | [], _ => rfl
  | p :: ps, h => by
    rw [List.foldl_cons, h p List.mem_cons_self]
    exact fold_none ps fun q hq => h q (List.mem_cons_of_mem _ hq)
theorem lowS_some {ps : List (Option Nat)} : (lowS ps).isSome = true ↔ ∃ p ∈ ps, p.isSome = true := by
  constructor
  · intro h
    refine Classical.byContradiction fun n => ?_
    have : lowS ps = none := fold_none ps fun p hp => by
      cases p with
      | none => rfl
      | some x => exact absurd ⟨_, hp, rfl⟩ n
    rw [this] at h
    cases h
  · exact fun h => fold_some (fun x b => by
      cases b with
      | none => rfl
      | some y => show (if y < x then some y else some x).isSome = true; split <;> rfl) (fun a y => by
      cases a with
      | none => rfl
      | some x => show (if y < x then some y else some x).isSome = true; split <;> rfl) ps none (.inr h)
theorem hi_le {B : Nat} : ∀ (ps : List (Option Nat)) (a : Option Nat), (∀ m, a = some m → m ≤ B) → (∀ p ∈ ps, ∀ m, p = some m → m ≤ B) → ∀ m, ps.foldl hiO a = some m → m ≤ B
  | [], a, ha, _, m, h => ha m h
  | p :: ps, a, ha, hp, m, h => by
    rw [List.foldl_cons] at h
    refine hi_le ps _ (fun k hk => ?_) (fun q hq => hp q (List.mem_cons_of_mem _ hq)) m h
    have h1 := hp p List.mem_cons_self
    cases p with
    | none =>
      cases a with
      | none => exact ha k hk
      | some y => exact ha k hk
    | some x =>
      cases a with
      | none => exact h1 k hk
      | some y =>
        have e : hiO (some y) (some x) = if x > y then some x else some y := rfl
        rw [e] at hk
        by_cases hxy : x > y
        · rw [if_pos hxy] at hk
          exact h1 k hk
        · rw [if_neg hxy] at hk
          exact ha k hk
theorem hiL_le {B : Nat} {ps : List (Option Nat)} (h : ∀ p ∈ ps, ∀ m, p = some m → m ≤ B) : ∀ m, hiL ps = some m → m ≤ B := hi_le ps none (fun _ h => nomatch h) h
/-- the bits of n, the first place the greatest one -/
def rowL (n k : Nat) : List Nat := (List.range k).map fun j => n >>> (k - 1 - j) &&& 1
theorem rowL_len (n k : Nat) : (rowL n k).length = k := by unfold rowL; rw [List.length_map, List.length_range]
def chosen (picks fill : List Nat) : Nat := picks.foldl (fun r x => r * 2 + fill.getD x 0) 0
def first1 (acc : List Nat) (x : Nat) : List Nat := if x ∈ acc then acc else acc ++ [x]
def firstsL (ns : List Nat) : List Nat := ns.foldl first1 []
end MK
/-! a ledger's states, plainly: what a deed makes of one -/
namespace L2.KK
open PySem
structure Ui where
  at_ : Int
  names : List Int
  times : Int
structure Bk where
  tbs : List (Nat × List (Option Nat))
  many : Nat
  rows : List (Nat × Ui)
  ahead : Nat
def useB (tbs : List (Nat × List (Option Nat))) (many : Nat) (u : Ui) : Bool :=
  decide (0 ≤ u.at_ ∧ u.at_ ≤ (tbs.length : Int) - 1) && (decide (1 ≤ u.times ∧ u.times ≤ 10 ^ 40) && (decide ((u.names.length : Int) = ((tbs.getD u.at_.toNat (0, [])).1 : Int)) && u.names.all fun n => decide (0 ≤ n ∧ n ≤ (many : Int) - 1)))
def toldB (t : Nat × List (Option Nat)) : Bool := decide (t.1 ≠ 0) && ((MK.lowL t.2).isSome && (MK.hiL t.2).all fun h => decide (h ≤ 1000))
inductive Gd
  | bad (w : Str)
  | name
  | add (u : Ui)
  | drop (n : Int)
  | times (n t : Int)
  | table (i : Int) (t : Nat × List (Option Nat))
def numsB (b : Bk) : List Int := b.rows.map fun r => (r.1 : Int)
def setT (t : Int) (u : Ui) : Ui := { u with times := t }
def doneG (b : Bk) : Gd → Except Str Bk
  | .bad w => .error w
  | .name => if b.many = 400 then .error "name" else .ok { b with many := b.many + 1 }
  | .add u => if useB b.tbs b.many u = true ∧ b.rows.length ≠ 200 then .ok { b with rows := b.rows ++ [(b.ahead, u)], ahead := b.ahead + 1 } else .error "add"
  | .drop n => if n ∈ numsB b then .ok { b with rows := b.rows.filter fun r => !decide ((r.1 : Int) = n) } else .error "drop"
  | .times n t => if n ∈ numsB b ∧ 1 ≤ t ∧ t ≤ 10 ^ 6 then .ok { b with rows := b.rows.map fun r => if (r.1 : Int) = n then (r.1, setT t r.2) else r } else .error "times"
  | .table i t => if (0 ≤ i ∧ i ≤ (b.tbs.length : Int) - 1) ∧ toldB t = true ∧ t.1 = (b.tbs.getD i.toNat (0, [])).1 then .ok { b with tbs := b.tbs.set i.toNat t } else .error "table"
theorem done_name (b : Bk) : doneG b .name = if b.many = 400 then .error "name" else .ok { b with many := b.many + 1 } := rfl
theorem done_add (b : Bk) (u : Ui) : doneG b (.add u) = if useB b.tbs b.many u = true ∧ b.rows.length ≠ 200 then .ok { b with rows := b.rows ++ [(b.ahead, u)], ahead := b.ahead + 1 } else .error "add" := rfl
theorem done_drop (b : Bk) (n : Int) : doneG b (.drop n) = if n ∈ numsB b then .ok { b with rows := b.rows.filter fun r => !decide ((r.1 : Int) = n) } else .error "drop" := rfl
theorem done_times (b : Bk) (n t : Int) : doneG b (.times n t) = if n ∈ numsB b ∧ 1 ≤ t ∧ t ≤ 10 ^ 6 then .ok { b with rows := b.rows.map fun r => if (r.1 : Int) = n then (r.1, setT t r.2) else r } else .error "times" := rfl
theorem done_table (b : Bk) (i : Int) (t : Nat × List (Option Nat)) : doneG b (.table i t) = if (0 ≤ i ∧ i ≤ (b.tbs.length : Int) - 1) ∧ toldB t = true ∧ t.1 = (b.tbs.getD i.toNat (0, [])).1 then .ok { b with tbs := b.tbs.set i.toNat t } else .error "table" := rfl
/-- a table that a lot takes -/
def TbG (t : Nat × List (Option Nat)) : Prop := 1 ≤ t.1 ∧ t.1 ≤ 4 ∧ t.2.length = 2 ^ t.1 ∧ (∃ p ∈ t.2, p.isSome = true) ∧ ∀ p ∈ t.2, ∀ m, p = some m → m ≤ 1000
structure BkOk (b : Bk) : Prop where
  tb : ∀ t ∈ b.tbs, TbG t
  t1 : 1 ≤ b.tbs.length
  t16 : b.tbs.length ≤ 16
  many : b.many ≤ 400
  len : b.rows.length ≤ 200
  use : ∀ r ∈ b.rows, useB b.tbs b.many r.2 = true
  lt : ∀ r ∈ b.rows, r.1 < b.ahead
  nd : (b.rows.map (·.1)).Nodup
/-- a deed's table is well made -/
def GdOk : Gd → Prop
  | .table _ t => t.1 ≤ 4 ∧ t.2.length = 2 ^ t.1
  | _ => True
theorem hi_fold_ge : ∀ (ps : List (Option Nat)) (a : Option Nat) (h : Nat), ps.foldl MK.hiO a = some h → (∀ m, a = some m → m ≤ h) ∧ ∀ p ∈ ps, ∀ m, p = some m → m ≤ h
  | [], a, h, e => ⟨fun m hm => by
      rw [List.foldl_nil] at e
      rw [e] at hm
      cases hm
      exact Nat.le_refl _, fun p hp => (nomatch hp)⟩
  | p :: ps, a, h, e => by
    rw [List.foldl_cons] at e
    obtain ⟨h1, h2⟩ := hi_fold_ge ps _ h e
    have hx : ∀ m, MK.hiO a p = some m → m ≤ h := h1
    have up : (∀ m, a = some m → m ≤ h) ∧ ∀ m, p = some m → m ≤ h := by
      cases a with
      | none => cases p with
        | none => exact ⟨fun _ z => (nomatch z), fun _ z => (nomatch z)⟩
        | some y => exact ⟨fun _ z => (nomatch z), fun m z => hx m (by rw [← z]; rfl)⟩
      | some x => cases p with
        | none => exact ⟨fun m z => hx m (by rw [← z]; rfl), fun _ z => (nomatch z)⟩
        | some y =>
          have e2 : MK.hiO (some x) (some y) = if y > x then some y else some x := rfl
          by_cases g : y > x
          · rw [if_pos g] at e2
            have := hx y e2
            exact ⟨fun m z => by cases z; omega, fun m z => by cases z; omega⟩
          · rw [if_neg g] at e2
            have := hx x e2
            exact ⟨fun m z => by cases z; omega, fun m z => by cases z; omega⟩
    refine ⟨up.1, fun q hq => ?_⟩
    rcases List.mem_cons.mp hq with z | z
    · rw [z]; exact up.2
    · exact h2 q z
theorem hiL_ge {ps : List (Option Nat)} {h : Nat} (e : MK.hiL ps = some h) : ∀ p ∈ ps, ∀ m, p = some m → m ≤ h := (hi_fold_ge ps none h e).2
theorem low_all_none : ∀ (ps : List (Option Nat)), (∀ p ∈ ps, p = none) → ps.foldl MK.lowO none = none
  | [], _ => rfl
  | p :: ps, h => by
    rw [List.foldl_cons, h p List.mem_cons_self]
    exact low_all_none ps fun q hq => h q (List.mem_cons_of_mem _ hq)
theorem lowL_some_iff {ps : List (Option Nat)} : (MK.lowL ps).isSome = true ↔ ∃ p ∈ ps, p.isSome = true := by
  refine ⟨fun h => ?_, MK.lowL_some⟩
  apply Classical.byContradiction
  intro n
  have : MK.lowL ps = none := low_all_none ps fun p hp => by
    cases p with
    | none => rfl
    | some x => exact absurd ⟨_, hp, rfl⟩ n
  rw [this] at h
  cases h
theorem told_ok {t : Nat × List (Option Nat)} (h : toldB t = true) (h4 : t.1 ≤ 4) (hl : t.2.length = 2 ^ t.1) : TbG t := by
  unfold toldB at h
  obtain ⟨h1, h⟩ := Bool.and_eq_true_iff.mp h
  obtain ⟨h2, h3⟩ := Bool.and_eq_true_iff.mp h
  have n0 := of_decide_eq_true h1
  have ex := lowL_some_iff.mp h2
  obtain ⟨m, hm⟩ := Option.isSome_iff_exists.mp (MK.hiL_some ex)
  rw [hm] at h3
  have h3' : m ≤ 1000 := of_decide_eq_true (show decide (m ≤ 1000) = true from h3)
  exact ⟨by omega, h4, hl, ex, fun p hp x hx => Nat.le_trans (hiL_ge hm p hp x hx) h3'⟩
theorem ok_told {t : Nat × List (Option Nat)} (h : TbG t) : toldB t = true := by
  obtain ⟨h1, _, _, ex, le⟩ := h
  obtain ⟨m, hm⟩ := Option.isSome_iff_exists.mp (MK.hiL_some ex)
  have := MK.hiL_le le m hm
  unfold toldB
  rw [MK.lowL_some ex, hm, decide_eq_true (by omega : t.1 ≠ 0)]
  show decide (m ≤ 1000) = true
  exact decide_eq_true this
theorem useB_many {tbs : List (Nat × List (Option Nat))} {m m' : Nat} {u : Ui} (h : useB tbs m u = true) (hm : m ≤ m') : useB tbs m' u = true := by
  unfold useB at h ⊢
  obtain ⟨h1, h⟩ := Bool.and_eq_true_iff.mp h
  obtain ⟨h2, h⟩ := Bool.and_eq_true_iff.mp h
  obtain ⟨h3, h4⟩ := Bool.and_eq_true_iff.mp h
  rw [h1, h2, h3]
  show (u.names.all _) = true
  rw [List.all_eq_true] at h4 ⊢
  intro n hn
  have := of_decide_eq_true (h4 n hn)
  exact decide_eq_true (by omega)
theorem useB_set {tbs : List (Nat × List (Option Nat))} {m i : Nat} {u : Ui} {t : Nat × List (Option Nat)} (h : useB tbs m u = true) (ht : t.1 = (tbs.getD i (0, [])).1) : useB (tbs.set i t) m u = true := by
  unfold useB at h ⊢
  rw [List.length_set]
  have e : ((tbs.set i t).getD u.at_.toNat (0, [])).1 = (tbs.getD u.at_.toNat (0, [])).1 := by
    rw [List.getD_eq_getElem?_getD, List.getElem?_set]
    by_cases hi : i = u.at_.toNat
    · rw [if_pos hi]
      by_cases hl : i < tbs.length
      · rw [if_pos hl, ← hi]
        exact ht
      · rw [if_neg hl, ← hi, List.getD_eq_getElem?_getD, List.getElem?_eq_none (by omega)]
    · rw [if_neg hi, List.getD_eq_getElem?_getD]
  rw [e]
  exact h
theorem useB_times {tbs : List (Nat × List (Option Nat))} {m : Nat} {u : Ui} {t : Int} (h : useB tbs m u = true) (h1 : 1 ≤ t) (h2 : t ≤ 10 ^ 40) : useB tbs m (setT t u) = true := by
  unfold useB at h ⊢
  obtain ⟨a, h⟩ := Bool.and_eq_true_iff.mp h
  obtain ⟨_, h⟩ := Bool.and_eq_true_iff.mp h
  show (decide (0 ≤ u.at_ ∧ u.at_ ≤ (tbs.length : Int) - 1) && (decide (1 ≤ t ∧ t ≤ 10 ^ 40) && _)) = true
  rw [a, decide_eq_true ⟨h1, h2⟩]
  exact h
theorem done_ok {b b' : Bk} {g : Gd} (o : BkOk b) (go : GdOk g) (h : doneG b g = .ok b') : BkOk b' := by
  cases g with
  | bad w => cases h
  | name =>
    rw [done_name] at h
    by_cases c : b.many = 400
    · rw [if_pos c] at h; cases h
    · rw [if_neg c] at h
      cases h
      have := o.many
      exact ⟨o.tb, o.t1, o.t16, by show b.many + 1 ≤ 400; omega, o.len, fun r hr => useB_many (o.use r hr) (Nat.le_succ _), o.lt, o.nd⟩
  | add u =>
    rw [done_add] at h
    by_cases c : useB b.tbs b.many u = true ∧ b.rows.length ≠ 200
    · rw [if_pos c] at h
      cases h
      have := o.len
      refine ⟨o.tb, o.t1, o.t16, o.many, ?_, fun r hr => ?_, fun r hr => ?_, ?_⟩
      · show (b.rows ++ [(b.ahead, u)]).length ≤ 200
        rw [List.length_append]
        show b.rows.length + 1 ≤ 200
        omega
      · rcases List.mem_append.mp hr with z | z
        · exact o.use r z
        · rw [List.mem_singleton.mp z]; exact c.1
      · rcases List.mem_append.mp hr with z | z
        · exact Nat.lt_succ_of_lt (o.lt r z)
        · rw [List.mem_singleton.mp z]; exact Nat.lt_succ_self _
      · show ((b.rows ++ [(b.ahead, u)]).map (·.1)).Nodup
        rw [List.map_append, List.nodup_append]
        refine ⟨o.nd, List.nodup_cons.mpr ⟨List.not_mem_nil, List.nodup_nil⟩, fun x hx y hy => ?_⟩
        obtain ⟨r, hr, rfl⟩ := List.mem_map.mp hx
        have e : y = b.ahead := List.mem_singleton.mp hy
        have := o.lt r hr
        omega
    · rw [if_neg c] at h; cases h
  | drop n =>
    rw [done_drop] at h
    by_cases c : n ∈ numsB b
    · rw [if_pos c] at h
      cases h
      refine ⟨o.tb, o.t1, o.t16, o.many, Nat.le_trans (List.length_filter_le _ _) o.len, fun r hr => o.use r (List.mem_filter.mp hr).1, fun r hr => o.lt r (List.mem_filter.mp hr).1, ?_⟩
      exact o.nd.sublist (List.filter_sublist.map _)
    · rw [if_neg c] at h; cases h
  | times n t =>
    rw [done_times] at h
    by_cases c : n ∈ numsB b ∧ 1 ≤ t ∧ t ≤ 10 ^ 6
    · rw [if_pos c] at h
      cases h
      refine ⟨o.tb, o.t1, o.t16, o.many, by show (b.rows.map _).length ≤ 200; rw [List.length_map]; exact o.len, fun r hr => ?_, fun r hr => ?_, ?_⟩
      · obtain ⟨q, hq, rfl⟩ := List.mem_map.mp hr
        split
        · exact useB_times (o.use q hq) c.2.1 (Int.le_trans c.2.2 (by decide))
        · exact o.use q hq
      · obtain ⟨q, hq, rfl⟩ := List.mem_map.mp hr
        have := o.lt q hq
        split <;> exact this
      · show ((b.rows.map fun r => if (r.1 : Int) = n then (r.1, setT t r.2) else r).map (·.1)).Nodup
        rw [List.map_map]
        have e : ((fun r : Nat × Ui => r.1) ∘ fun r => if (r.1 : Int) = n then (r.1, setT t r.2) else r) = fun r => r.1 := by
          funext r
          show (if (r.1 : Int) = n then (r.1, setT t r.2) else r).1 = r.1
          split <;> rfl
        rw [e]
        exact o.nd
    · rw [if_neg c] at h; cases h
  | table i t =>
    rw [done_table] at h
    by_cases c : (0 ≤ i ∧ i ≤ (b.tbs.length : Int) - 1) ∧ toldB t = true ∧ t.1 = (b.tbs.getD i.toNat (0, [])).1
    · rw [if_pos c] at h
      cases h
      refine ⟨fun q hq => ?_, by show 1 ≤ (b.tbs.set _ _).length; rw [List.length_set]; exact o.t1, by show (b.tbs.set _ _).length ≤ 16; rw [List.length_set]; exact o.t16, o.many, o.len, fun r hr => useB_set (o.use r hr) c.2.2, o.lt, o.nd⟩
      rcases List.mem_or_eq_of_mem_set hq with z | z
      · exact o.tb q z
      · rw [z]; exact told_ok c.2.1 go.1 go.2
    · rw [if_neg c] at h; cases h
/-! the law's way of doing the same -/
theorem idx_mem {xs : List (Nat × Ui)} {n : Int} (h : n ∈ xs.map fun r => (r.1 : Int)) : ∃ i, i < xs.length ∧ (∃ r, xs[i]? = some r ∧ (r.1 : Int) = n) ∧ ∀ j, j < i → ∀ r, xs[j]? = some r → (r.1 : Int) ≠ n := by
  induction xs with
  | nil => cases h
  | cons x xs ih =>
    by_cases e : (x.1 : Int) = n
    · exact ⟨0, Nat.zero_lt_succ _, ⟨x, rfl, e⟩, fun j hj => absurd hj (Nat.not_lt_zero j)⟩
    · rw [List.map_cons] at h
      rcases List.mem_cons.mp h with z | z
      · exact absurd z.symm e
      · obtain ⟨i, hi, ⟨r, hr, er⟩, hb⟩ := ih z
        refine ⟨i + 1, Nat.succ_lt_succ hi, ⟨r, hr, er⟩, fun j hj q hq => ?_⟩
        cases j with
        | zero => cases hq; exact e
        | succ j => exact hb j (Nat.lt_of_succ_lt_succ hj) q hq
theorem filter_at {n : Int} : ∀ {xs : List (Nat × Ui)} {i : Nat} {r : Nat × Ui}, (xs.map (·.1)).Nodup → xs[i]? = some r → (r.1 : Int) = n → (xs.filter fun q => !decide ((q.1 : Int) = n)) = xs.take i ++ xs.drop (i + 1)
  | [], i, r, _, h, _ => by cases i <;> cases h
  | x :: xs, i, r, nd, h, e => by
    rw [List.map_cons, List.nodup_cons] at nd
    cases i with
    | zero =>
      cases h
      rw [List.filter_cons_of_neg (by rw [decide_eq_true e]; exact Bool.false_ne_true), List.take_zero, List.nil_append]
      show _ = xs
      rw [List.filter_eq_self]
      intro q hq
      have : ¬ (q.1 : Int) = n := fun z => nd.1 (List.mem_map.mpr ⟨q, hq, by have := z.trans e.symm; omega⟩)
      rw [decide_eq_false this]
      rfl
    | succ i =>
      have hx : ¬ (x.1 : Int) = n := fun z => nd.1 (List.mem_map.mpr ⟨r, List.mem_of_getElem? (by simpa using h), by have := e.trans z.symm; omega⟩)
      rw [List.filter_cons_of_pos (by rw [decide_eq_false hx]; rfl), filter_at nd.2 (by simpa using h) e]
      rfl
theorem map_at {n t : Int} : ∀ {xs : List (Nat × Ui)} {i : Nat} {r : Nat × Ui}, (xs.map (·.1)).Nodup → xs[i]? = some r → (r.1 : Int) = n → (xs.map fun q => if (q.1 : Int) = n then (q.1, setT t q.2) else q) = xs.set i (r.1, setT t r.2)
  | [], i, r, _, h, _ => by cases i <;> cases h
  | x :: xs, i, r, nd, h, e => by
    rw [List.map_cons, List.nodup_cons] at nd
    cases i with
    | zero =>
      cases h
      rw [List.map_cons, if_pos e, List.set_cons_zero]
      congr 1
      have : xs.map (fun q => if (q.1 : Int) = n then (q.1, setT t q.2) else q) = xs.map id := List.map_congr_left fun q hq => by
        have : ¬ (q.1 : Int) = n := fun z => nd.1 (List.mem_map.mpr ⟨q, hq, by have := z.trans e.symm; omega⟩)
        rw [if_neg this]
        rfl
      rw [this, List.map_id]
    | succ i =>
      have hx : ¬ (x.1 : Int) = n := fun z => nd.1 (List.mem_map.mpr ⟨r, List.mem_of_getElem? (by simpa using h), by have := e.trans z.symm; omega⟩)
      rw [List.map_cons, if_neg hx, map_at nd.2 (by simpa using h) e, List.set_cons_succ]
end L2.KK
/-! texts of puzzles, plainly: cut at a sign, numbers, tables, uses, the whole text -/
namespace L2.KK
open PySem PySem.Spec PyProof.Rows SX
abbrev Tx := List Nat
def spC (c : Nat) (l : Tx) : List Tx := TL.spl [c] 0 [] l
section
variable {c : Nat} (hc : c < 256)
include hc
theorem split_C (l : Tx) : Txt.split (S l) (S [c]) = (spC c l).map S := split_S (by simp) (by simp [hc])
theorem spC_tl (l : Tx) : (Txt.split (S l) (S [c])).map TL.tl = spC c l := by
  rw [split_C hc, List.map_map]
  exact List.map_id _
theorem spC_join (l : Tx) : TL.joinL [c] (spC c l) = l := by
  have f := StrLaws.join_split (S l) ⟨#[c]⟩
  have q := congrArg TL.tl f
  rw [TL.tl_join] at q
  have e : (Txt.split (S l) ⟨#[c]⟩).map TL.tl = spC c l := spC_tl hc l
  rw [e] at q
  exact q
theorem spC_free (l : Tx) : ∀ p ∈ spC c l, c ∉ p := fun p hp => by
  rw [← spC_tl hc l] at hp
  obtain ⟨z, hz, rfl⟩ := List.mem_map.mp hp
  exact StrLaws.split_free (S l) c z hz
theorem spC_ne (l : Tx) : spC c l ≠ [] := fun e => by
  have q := spC_join hc l
  rw [e] at q
  have : l = [] := q.symm
  rw [this] at e
  have f := TL.spl_join (s := c) (S := []) (parts := [[]]) (by simp) (fun p hp => by rw [List.mem_singleton.mp hp]; exact List.not_mem_nil)
  have g : spC c [] = [[]] := f
  rw [g] at e
  cases e
end
theorem join_spC {c : Nat} {ps : List Tx} (ne : ps ≠ []) (h : ∀ p ∈ ps, c ∉ p) : spC c (TL.joinL [c] ps) = ps := TL.spl_join ne h
theorem joinL_cons {c : Nat} {p q : Tx} {r : List Tx} : TL.joinL [c] (p :: q :: r) = p ++ ([c] ++ TL.joinL [c] (q :: r)) := rfl
theorem joinL_snoc {c : Nat} : ∀ {ps : List Tx} {q : Tx}, ps ≠ [] → TL.joinL [c] (ps ++ [q]) = TL.joinL [c] ps ++ [c] ++ q
  | [], _, h => absurd rfl h
  | [p], q, _ => by
    show p ++ ([c] ++ q) = p ++ [c] ++ q
    rw [List.append_assoc]
  | p :: p2 :: r, q, _ => by
    show p ++ ([c] ++ TL.joinL [c] ((p2 :: r) ++ [q])) = p ++ ([c] ++ TL.joinL [c] (p2 :: r)) ++ [c] ++ q
    rw [joinL_snoc (List.cons_ne_nil _ _)]
    simp only [List.append_assoc]
theorem joinL_len (c : Nat) : ∀ (ps : List Tx), (TL.joinL [c] ps).length + 1 = (ps.map fun p => p.length + 1).sum + if ps = [] then 1 else 0
  | [] => rfl
  | [p] => by
    show p.length + 1 = (p.length + 1 + 0) + if [p] = [] then 1 else 0
    rw [if_neg (List.cons_ne_nil _ _)]
  | p :: q :: r => by
    have ih := joinL_len c (q :: r)
    rw [if_neg (List.cons_ne_nil _ _)] at ih ⊢
    rw [joinL_cons, List.length_append, List.length_append, List.map_cons, List.sum_cons]
    show p.length + (1 + (TL.joinL [c] (q :: r)).length) + 1 = _
    omega
/-- as many cuts as signs -/
theorem spC_count {c : Nat} (hc : c < 256) (l : Tx) : (spC c l).length = l.count c + 1 := by
  have key : ∀ (ps : List Tx), ps ≠ [] → (∀ p ∈ ps, c ∉ p) → (TL.joinL [c] ps).count c + 1 = ps.length := by
    intro ps
    induction ps with
    | nil => intro h; exact absurd rfl h
    | cons p r ih =>
      intro _ hf
      cases r with
      | nil =>
        show p.count c + 1 = 1
        rw [List.count_eq_zero_of_not_mem (hf p List.mem_cons_self)]
      | cons q r =>
        rw [joinL_cons, List.count_append, List.count_append, List.count_eq_zero_of_not_mem (hf p List.mem_cons_self)]
        have := ih (List.cons_ne_nil _ _) fun z hz => hf z (List.mem_cons_of_mem _ hz)
        have e : ([c] : Tx).count c = 1 := List.count_singleton_self
        rw [e, List.length_cons]
        omega
  have := key (spC c l) (spC_ne hc l) (spC_free hc l)
  rw [spC_join hc] at this
  exact this.symm
/-! numbers -/
abbrev dv (w : Tx) : Nat := NumText.digitsVal w
def posB (w : Tx) : Prop := w ≠ [] ∧ (∀ c ∈ w, 48 ≤ c ∧ c ≤ 57) ∧ w.length ≤ 100 ∧ (w.head? ≠ some 48 ∨ w = [48])
instance (w : Tx) : Decidable (posB w) := by unfold posB; infer_instance
def numIn (w : Tx) (lo hi : Int) : Option Nat := if posB w ∧ lo ≤ (dv w : Int) ∧ (dv w : Int) ≤ hi then some (dv w) else none
theorem numIn_some {w : Tx} {lo hi : Int} {n : Nat} (h : numIn w lo hi = some n) : TL.numL n = w ∧ lo ≤ (n : Int) ∧ (n : Int) ≤ hi ∧ posB w := by
  unfold numIn at h
  by_cases c : posB w ∧ lo ≤ (dv w : Int) ∧ (dv w : Int) ≤ hi
  · rw [if_pos c] at h
    cases h
    exact ⟨MT.numL_back c.1.1 c.1.2.1 (c.1.2.2.2.imp id fun e => by rw [e]; rfl), c.2.1, c.2.2, c.1⟩
  · rw [if_neg c] at h
    cases h
def seqO {α : Type} : List (Option α) → Option (List α)
  | [] => some []
  | none :: _ => none
  | some a :: r => (seqO r).map (a :: ·)
theorem seqO_some {α : Type} : ∀ {l : List (Option α)} {r : List α}, seqO l = some r ↔ l = r.map some
  | [], r => by
    cases r with
    | nil => exact ⟨fun _ => rfl, fun _ => rfl⟩
    | cons a r => exact ⟨fun h => (nomatch h), fun h => (nomatch h)⟩
  | none :: l, r => by
    refine ⟨fun h => (nomatch h), fun h => ?_⟩
    cases r <;> cases h
  | some a :: l, r => by
    show (seqO l).map (a :: ·) = some r ↔ _
    rw [Option.map_eq_some_iff]
    constructor
    · rintro ⟨r', h, rfl⟩
      rw [seqO_some.mp h]
      rfl
    · intro h
      cases r with
      | nil => cases h
      | cons b r =>
        rw [List.map_cons] at h
        injection h with h1 h2
        cases h1
        exact ⟨r, seqO_some.mpr h2, rfl⟩
theorem seqO_none {α : Type} {l : List (Option α)} (h : none ∈ l) : seqO l = none := by
  cases e : seqO l with
  | none => rfl
  | some r =>
    rw [seqO_some.mp e] at h
    obtain ⟨a, _, q⟩ := List.mem_map.mp h
    cases q
theorem seqO_ok {α : Type} {l : List (Option α)} (h : none ∉ l) : ∃ r, seqO l = some r := by
  induction l with
  | nil => exact ⟨[], rfl⟩
  | cons x l ih =>
    cases x with
    | none => exact absurd List.mem_cons_self h
    | some a =>
      obtain ⟨r, hr⟩ := ih fun z => h (List.mem_cons_of_mem _ z)
      exact ⟨a :: r, by show (seqO l).map _ = _; rw [hr]; rfl⟩
/-! the words that are told -/
def xW : Tx := [120]
def tableW : Tx := [116, 97, 98, 108, 101]
def namesW : Tx := [110, 97, 109, 101, 115]
def useW : Tx := [117, 115, 101]
def onW : Tx := [111, 110]
def timesW : Tx := [116, 105, 109, 101, 115]
def prR (w : Tx) : Option (Option Nat) := if w = xW then some none else (numIn w 0 1000).map some
def pTx : Option Nat → Tx
  | none => xW
  | some n => TL.numL n
theorem prR_some {w : Tx} {p : Option Nat} (h : prR w = some p) : pTx p = w ∧ ∀ m, p = some m → m ≤ 1000 := by
  unfold prR at h
  by_cases c : w = xW
  · rw [if_pos c] at h
    cases h
    exact ⟨c.symm, fun m e => (nomatch e)⟩
  · rw [if_neg c] at h
    obtain ⟨n, h1, rfl⟩ := Option.map_eq_some_iff.mp h
    obtain ⟨h2, _, h3, _⟩ := numIn_some h1
    exact ⟨h2, fun m e => by cases e; omega⟩
/-- the words of a table's line -/
def tabR (ws : List Tx) : Option (Nat × List (Option Nat)) :=
  if 2 ≤ ws.length ∧ (ws.getD 1 []).getLast? = some 58 then
    match numIn (ws.getD 1 []).dropLast 1 4 with
    | none => none
    | some k => match seqO ((ws.drop 2).map prR) with
      | none => none
      | some ps => if ps.length = 2 ^ k ∧ ps.any Option.isSome = true then some (k, ps) else none
  else none
def useR (ws : List Tx) (tbs : List (Nat × List (Option Nat))) (many : Nat) : Option Ui :=
  if 3 ≤ ws.length ∧ ws.getD 2 [] = onW then
    match numIn (ws.getD 1 []) 0 ((tbs.length : Int) - 1) with
    | none => none
    | some a =>
      if ws.length = 3 + (tbs.getD a (0, [])).1 ∨ ws.length = 5 + (tbs.getD a (0, [])).1 ∧ ws.getD (3 + (tbs.getD a (0, [])).1) [] = timesW then
        match seqO (((ws.drop 3).take (tbs.getD a (0, [])).1).map fun w => numIn w 0 ((many : Int) - 1)) with
        | none => none
        | some ns => if ws.length = 3 + (tbs.getD a (0, [])).1 then some ⟨(a : Int), ns.map (fun n : Nat => (n : Int)), 1⟩ else (numIn (ws.getD (4 + (tbs.getD a (0, [])).1) []) 2 (10 ^ 40)).map fun t : Nat => (⟨(a : Int), ns.map (fun n : Nat => (n : Int)), (t : Int)⟩ : Ui)
      else none
  else none
/-! the texts -/
def tabT (t : Nat × List (Option Nat)) : Tx := tableW ++ [32] ++ TL.numL t.1 ++ [58, 32] ++ TL.joinL [32] (t.2.map pTx)
def useWs (u : Ui) : List Tx := [useW, MT.numT u.at_, onW] ++ u.names.map MT.numT ++ if u.times = 1 then [] else [timesW, MT.numT u.times]
def useT (u : Ui) : Tx := TL.joinL [32] (useWs u)
def nl (l : Tx) : Tx := l ++ [10]
def lotT (tbs : List (Nat × List (Option Nat))) : Tx := (tbs.map fun t => nl (tabT t)).flatten
def puzT (tbs : List (Nat × List (Option Nat))) (many : Nat) (us : List Ui) : Tx := lotT tbs ++ (((namesW ++ [32] ++ TL.numL many) :: us.map useT).map nl).flatten
theorem last_snoc {α : Type} {l : List α} {x : α} (h : l.getLast? = some x) : l = l.dropLast ++ [x] := by
  obtain ⟨y, e⟩ := List.getLast?_eq_some_iff.mp h
  rw [e, List.dropLast_concat]
theorem tabR_some {ws : List Tx} {t : Nat × List (Option Nat)} (h : tabR ws = some t) : ∃ w0 ps, ws = w0 :: (TL.numL t.1 ++ [58]) :: ps ∧ ps = t.2.map pTx ∧ TbG t := by
  unfold tabR at h
  by_cases c : 2 ≤ ws.length ∧ (ws.getD 1 []).getLast? = some 58
  · rw [if_pos c] at h
    obtain ⟨c1, c2⟩ := c
    cases ws with
    | nil => exact absurd c1 (by show ¬ 2 ≤ 0; decide)
    | cons w0 r =>
      cases r with
      | nil => exact absurd c1 (by show ¬ 2 ≤ 1; decide)
      | cons w1 ps =>
        have e1 : ((w0 :: w1 :: ps).getD 1 []) = w1 := rfl
        have e2 : (w0 :: w1 :: ps).drop 2 = ps := rfl
        rw [e1] at h c2
        rw [e2] at h
        cases hk : numIn w1.dropLast 1 4 with
        | none => rw [hk] at h; cases h
        | some k =>
          rw [hk] at h
          cases hp : seqO (ps.map prR) with
          | none => rw [hp] at h; cases h
          | some qs =>
            rw [hp] at h
            by_cases c3 : qs.length = 2 ^ k ∧ qs.any Option.isSome = true
            · have h' : (if qs.length = 2 ^ k ∧ qs.any Option.isSome = true then some (k, qs) else none) = some t := h
              rw [if_pos c3] at h'
              cases h'
              obtain ⟨n1, n2, n3, _⟩ := numIn_some hk
              have hq := seqO_some.mp hp
              have back : ∀ (ps : List Tx) (qs : List (Option Nat)), ps.map prR = qs.map some → ps = qs.map pTx ∧ ∀ p ∈ qs, ∀ m, p = some m → m ≤ 1000 := by
                intro ps
                induction ps with
                | nil =>
                  intro qs e
                  cases qs with
                  | nil => exact ⟨rfl, fun p hp => (nomatch hp)⟩
                  | cons q qs => cases e
                | cons w ps ih =>
                  intro qs e
                  cases qs with
                  | nil => cases e
                  | cons q qs =>
                    rw [List.map_cons, List.map_cons] at e
                    injection e with a1 a2
                    obtain ⟨b1, b2⟩ := prR_some a1
                    obtain ⟨i1, i2⟩ := ih qs a2
                    refine ⟨by rw [List.map_cons, b1, ← i1], fun p hp => ?_⟩
                    rcases List.mem_cons.mp hp with z | z
                    · rw [z]; exact b2
                    · exact i2 p z
              obtain ⟨b1, b2⟩ := back ps qs hq
              obtain ⟨p, hp1, hp2⟩ := List.any_eq_true.mp c3.2
              refine ⟨w0, ps, ?_, b1, ⟨by show 1 ≤ k; omega, by show k ≤ 4; omega, c3.1, ⟨p, hp1, hp2⟩, b2⟩⟩
              show w0 :: w1 :: ps = w0 :: (TL.numL k ++ [58]) :: ps
              rw [n1, ← last_snoc c2]
            · have h' : (if qs.length = 2 ^ k ∧ qs.any Option.isSome = true then some (k, qs) else none) = some t := h
              rw [if_neg c3] at h'
              cases h'
  · rw [if_neg c] at h
    cases h
theorem tab_back {ws : List Tx} {t : Nat × List (Option Nat)} (h : tabR ws = some t) (h0 : ws.getD 0 [] = tableW) : tabT t = TL.joinL [32] ws := by
  obtain ⟨w0, ps, e, e2, ok⟩ := tabR_some h
  rw [e] at h0 ⊢
  have e0 : w0 = tableW := h0
  subst e0
  cases ps with
  | nil =>
    have z := congrArg List.length e2
    rw [List.length_map, ok.2.2.1] at z
    have := Nat.two_pow_pos t.1
    have z0 : ([] : List Tx).length = 0 := rfl
    omega
  | cons p ps =>
    rw [joinL_cons, joinL_cons, e2]
    unfold tabT
    simp only [List.append_assoc]
    rfl
theorem numT_of {n : Nat} : MT.numT (n : Int) = TL.numL n := MT.numT_nat n
theorem useR_some {ws : List Tx} {tbs : List (Nat × List (Option Nat))} {many : Nat} {u : Ui} (h : useR ws tbs many = some u) (h0 : ws.getD 0 [] = useW) : useWs u = ws ∧ useB tbs many u = true := by
  unfold useR at h
  by_cases c : 3 ≤ ws.length ∧ ws.getD 2 [] = onW
  · rw [if_pos c] at h
    obtain ⟨c1, c2⟩ := c
    obtain ⟨w0, w1, w2, r, rfl⟩ : ∃ w0 w1 w2 r, ws = w0 :: w1 :: w2 :: r := by
      cases ws with
      | nil => exact absurd c1 (by show ¬ 3 ≤ 0; decide)
      | cons w0 r => cases r with
        | nil => exact absurd c1 (by show ¬ 3 ≤ 1; decide)
        | cons w1 r => cases r with
          | nil => exact absurd c1 (by show ¬ 3 ≤ 2; decide)
          | cons w2 r => exact ⟨w0, w1, w2, r, rfl⟩
    have e0 : w0 = useW := h0
    have e2 : w2 = onW := c2
    have e1 : ((w0 :: w1 :: w2 :: r).getD 1 []) = w1 := rfl
    have e3 : (w0 :: w1 :: w2 :: r).drop 3 = r := rfl
    have el : (w0 :: w1 :: w2 :: r).length = r.length + 3 := rfl
    rw [e1, e3, el] at h
    cases ha : numIn w1 0 ((tbs.length : Int) - 1) with
    | none => rw [ha] at h; cases h
    | some a =>
      rw [ha] at h
      obtain ⟨a1, a2, a3, _⟩ := numIn_some ha
      dsimp only at h
      generalize hs : (tbs.getD a (0, [])).1 = size at h
      by_cases cl : r.length + 3 = 3 + size ∨ r.length + 3 = 5 + size ∧ (w0 :: w1 :: w2 :: r).getD (3 + size) [] = timesW
      · rw [if_pos cl] at h
        cases hn : seqO ((r.take size).map fun w => numIn w 0 ((many : Int) - 1)) with
        | none => rw [hn] at h; cases h
        | some ns =>
          rw [hn] at h
          have hq := seqO_some.mp hn
          have back : ∀ (ps : List Tx) (ns : List Nat), (ps.map fun w => numIn w 0 ((many : Int) - 1)) = ns.map some → ps = ns.map TL.numL ∧ ∀ n ∈ ns, (n : Int) ≤ (many : Int) - 1 := by
            intro ps
            induction ps with
            | nil =>
              intro ns e
              cases ns with
              | nil => exact ⟨rfl, fun p hp => (nomatch hp)⟩
              | cons q qs => cases e
            | cons w ps ih =>
              intro ns e
              cases ns with
              | nil => cases e
              | cons q qs =>
                rw [List.map_cons, List.map_cons] at e
                injection e with b1 b2
                obtain ⟨d1, _, d3, _⟩ := numIn_some b1
                obtain ⟨i1, i2⟩ := ih qs b2
                refine ⟨by rw [List.map_cons, d1, ← i1], fun p hp => ?_⟩
                rcases List.mem_cons.mp hp with z | z
                · rw [z]; exact d3
                · exact i2 p z
          obtain ⟨bn, bb⟩ := back _ _ hq
          have hl : size ≤ r.length := by omega
          have nl : ns.length = size := by
            have z := congrArg List.length hq
            rw [List.length_map, List.length_map, List.length_take] at z
            omega
          have en : (ns.map fun n : Nat => (n : Int)).map MT.numT = r.take size := by
            rw [bn, List.map_map]
            exact List.map_congr_left fun n _ => numT_of
          have alln : ((ns.map fun n : Nat => (n : Int)).all fun n => decide (0 ≤ n ∧ n ≤ (many : Int) - 1)) = true := List.all_eq_true.mpr fun x hx => by
            obtain ⟨n, hn2, rfl⟩ := List.mem_map.mp hx
            exact decide_eq_true ⟨by omega, bb n hn2⟩
          have ub : ∀ t : Int, 1 ≤ t → t ≤ 10 ^ 40 → useB tbs many ⟨(a : Int), ns.map (fun n : Nat => (n : Int)), t⟩ = true := fun t t1 t2 => by
            unfold useB
            show (decide (0 ≤ (a : Int) ∧ (a : Int) ≤ (tbs.length : Int) - 1) && (decide (1 ≤ t ∧ t ≤ 10 ^ 40) && (decide (((ns.map fun n : Nat => (n : Int)).length : Int) = ((tbs.getD (a : Int).toNat (0, [])).1 : Int)) && _))) = true
            rw [decide_eq_true ⟨a2, a3⟩, decide_eq_true ⟨t1, t2⟩, Int.toNat_natCast, hs, List.length_map, nl, decide_eq_true rfl]
            exact alln
          have h' : (if r.length + 3 = 3 + size then some (⟨(a : Int), ns.map (fun n : Nat => (n : Int)), 1⟩ : Ui) else (numIn ((w0 :: w1 :: w2 :: r).getD (4 + size) []) 2 (10 ^ 40)).map fun t : Nat => (⟨(a : Int), ns.map (fun n : Nat => (n : Int)), (t : Int)⟩ : Ui)) = some u := h
          by_cases cz : r.length + 3 = 3 + size
          · rw [if_pos cz] at h'
            cases h'
            refine ⟨?_, ub 1 (by decide) (by decide)⟩
            unfold useWs
            show [useW, MT.numT (a : Int), onW] ++ (ns.map fun n : Nat => (n : Int)).map MT.numT ++ (if (1 : Int) = 1 then [] else _) = _
            rw [if_pos rfl, List.append_nil, en, numT_of, a1, List.take_of_length_le (by omega), e0, e2]
            rfl
          · rw [if_neg cz] at h'
            obtain ⟨t, ht, rfl⟩ := Option.map_eq_some_iff.mp h'
            obtain ⟨t1, t2, t3, _⟩ := numIn_some ht
            have cl2 := cl.resolve_left cz
            refine ⟨?_, ub t (by omega) t3⟩
            unfold useWs
            show [useW, MT.numT (a : Int), onW] ++ (ns.map fun n : Nat => (n : Int)).map MT.numT ++ (if (t : Int) = 1 then [] else [timesW, MT.numT (t : Int)]) = _
            rw [if_neg (by omega), en, numT_of, a1, e0, e2, numT_of, t1]
            have f1 : (w0 :: w1 :: w2 :: r).getD (3 + size) [] = r.getD size [] := by
              rw [show 3 + size = size + 3 by omega]
              rfl
            have f2 : (w0 :: w1 :: w2 :: r).getD (4 + size) [] = r.getD (size + 1) [] := by
              rw [show 4 + size = (size + 1) + 3 by omega]
              rfl
            rw [f2]
            have f3 : r.getD size [] = timesW := by rw [← f1]; exact cl2.2
            have f4 : r.drop size = [timesW, r.getD (size + 1) []] := by
              have l2 : r.length = size + 2 := by omega
              rw [List.drop_eq_getElem_cons (by omega), List.drop_eq_getElem_cons (by omega), List.drop_eq_nil_of_le (by omega)]
              rw [List.getD_eq_getElem?_getD, List.getElem?_eq_getElem (by omega)] at f3
              rw [List.getD_eq_getElem?_getD, List.getElem?_eq_getElem (show size + 1 < r.length by omega)]
              have f5 : r[size] = timesW := f3
              rw [f5]
              rfl
            have f6 : r.take size ++ [timesW, r.getD (size + 1) []] = r := by rw [← f4, List.take_append_drop]
            show useW :: w1 :: onW :: (r.take size ++ [timesW, r.getD (size + 1) []]) = _
            rw [f6]
      · rw [if_neg cl] at h
        cases h
  · rw [if_neg c] at h
    cases h
/-! the readers -/
def tabsR : List Tx → Nat → Except Nat (List (Nat × List (Option Nat)))
  | [], _ => .ok []
  | l :: r, i => if (spC 32 l).getD 0 [] = tableW then match tabR (spC 32 l) with
    | none => .error (i + 1)
    | some t => (tabsR r (i + 1)).map (t :: ·) else .ok []
def usesR (tbs : List (Nat × List (Option Nat))) (many : Nat) : List Tx → Nat → Except Nat (List Ui)
  | [], _ => .ok []
  | l :: r, i => if (spC 32 l).getD 0 [] = useW then match useR (spC 32 l) tbs many with
    | none => .error (i + 1)
    | some u => (usesR tbs many r (i + 1)).map (u :: ·) else .error (i + 1)
def linesR (t : Tx) : Except Nat (List Tx) := if 100000 < t.length then .error 0 else if (spC 10 t).getLast? = some [] then .ok (spC 10 t).dropLast else .error (spC 10 t).length
def lotR (t : Tx) : Except Nat (List (Nat × List (Option Nat))) := match linesR t with
  | .error e => .error e
  | .ok ls => match tabsR ls 0 with
    | .error e => .error e
    | .ok tbs => if tbs = [] then .error 1 else if ls.length = tbs.length then .ok tbs else .error (tbs.length + 1)
def headW (ls : List Tx) (n : Nat) : List Tx := match ls[n]? with
  | none => []
  | some l => spC 32 l
def puzR (t : Tx) : Except Nat (List (Nat × List (Option Nat)) × Nat × List Ui) := match linesR t with
  | .error e => .error e
  | .ok ls => match tabsR ls 0 with
    | .error e => .error e
    | .ok tbs => if tbs = [] then .error 1 else if (headW ls tbs.length).length = 2 ∧ (headW ls tbs.length).getD 0 [] = namesW then match numIn ((headW ls tbs.length).getD 1 []) 0 400 with
        | none => .error (tbs.length + 1)
        | some m => match usesR tbs m (ls.drop (tbs.length + 1)) (tbs.length + 1) with
          | .error e => .error e
          | .ok us => .ok (tbs, m, us)
      else .error (tbs.length + 1)
theorem linesR_ok {t : Tx} {ls : List Tx} (h : linesR t = .ok ls) : t = (ls.map nl).flatten := by
  unfold linesR at h
  by_cases c1 : 100000 < t.length
  · rw [if_pos c1] at h; cases h
  rw [if_neg c1] at h
  by_cases c2 : (spC 10 t).getLast? = some []
  · rw [if_pos c2] at h
    cases h
    have e := last_snoc c2
    have j := spC_join (c := 10) (by decide) t
    rw [e] at j
    have gen : ∀ ls : List Tx, TL.joinL [10] (ls ++ [[]]) = (ls.map nl).flatten := by
      intro ls
      induction ls with
      | nil => rfl
      | cons l r ih =>
        cases r with
        | nil =>
          show l ++ ([10] ++ []) = (l ++ [10]) ++ []
          rw [List.append_nil, List.append_nil]
        | cons q r =>
          show l ++ ([10] ++ TL.joinL [10] ((q :: r) ++ [[]])) = (l ++ [10]) ++ ((q :: r).map nl).flatten
          rw [ih, List.append_assoc]
    rw [gen] at j
    exact j.symm
  · rw [if_neg c2] at h; cases h
theorem tabsR_ok : ∀ {ls : List Tx} {i : Nat} {tbs : List (Nat × List (Option Nat))}, tabsR ls i = .ok tbs → tbs.map tabT = ls.take tbs.length ∧ ∀ t ∈ tbs, TbG t
  | [], i, tbs, h => by cases h; exact ⟨rfl, fun t ht => (nomatch ht)⟩
  | l :: r, i, tbs, h => by
    unfold tabsR at h
    by_cases c : (spC 32 l).getD 0 [] = tableW
    · rw [if_pos c] at h
      cases ht : tabR (spC 32 l) with
      | none => rw [ht] at h; cases h
      | some t =>
        rw [ht] at h
        cases hr : tabsR r (i + 1) with
        | error e => rw [hr] at h; cases h
        | ok ts =>
          rw [hr] at h
          cases h
          obtain ⟨i1, i2⟩ := tabsR_ok hr
          refine ⟨?_, fun q hq => ?_⟩
          · rw [List.map_cons, List.length_cons, List.take_succ_cons, i1, tab_back ht c, spC_join (by decide)]
          · rcases List.mem_cons.mp hq with z | z
            · rw [z]
              obtain ⟨_, _, _, _, g⟩ := tabR_some ht
              exact g
            · exact i2 q z
    · rw [if_neg c] at h
      cases h
      exact ⟨rfl, fun t ht => (nomatch ht)⟩
theorem usesR_ok {tbs : List (Nat × List (Option Nat))} {many : Nat} : ∀ {ls : List Tx} {i : Nat} {us : List Ui}, usesR tbs many ls i = .ok us → us.map useT = ls ∧ ∀ u ∈ us, useB tbs many u = true
  | [], i, us, h => by cases h; exact ⟨rfl, fun t ht => (nomatch ht)⟩
  | l :: r, i, us, h => by
    unfold usesR at h
    by_cases c : (spC 32 l).getD 0 [] = useW
    · rw [if_pos c] at h
      cases ht : useR (spC 32 l) tbs many with
      | none => rw [ht] at h; cases h
      | some u =>
        rw [ht] at h
        cases hr : usesR tbs many r (i + 1) with
        | error e => rw [hr] at h; cases h
        | ok us' =>
          rw [hr] at h
          cases h
          obtain ⟨i1, i2⟩ := usesR_ok hr
          obtain ⟨g1, g2⟩ := useR_some ht c
          refine ⟨?_, fun q hq => ?_⟩
          · rw [List.map_cons, i1]
            unfold useT
            rw [g1, spC_join (by decide)]
          · rcases List.mem_cons.mp hq with z | z
            · rw [z]; exact g2
            · exact i2 q z
    · rw [if_neg c] at h
      cases h
theorem lotR_ok {t : Tx} {tbs : List (Nat × List (Option Nat))} (h : lotR t = .ok tbs) : lotT tbs = t ∧ (∀ q ∈ tbs, TbG q) ∧ tbs ≠ [] := by
  unfold lotR at h
  cases hl : linesR t with
  | error e => rw [hl] at h; cases h
  | ok ls =>
    rw [hl] at h
    dsimp only at h
    cases ht : tabsR ls 0 with
    | error e => rw [ht] at h; cases h
    | ok ts =>
      rw [ht] at h
      have h' : (if ts = [] then .error 1 else if ls.length = ts.length then .ok ts else .error (ts.length + 1) : Except Nat _) = .ok tbs := h
      by_cases c1 : ts = []
      · rw [if_pos c1] at h'; cases h'
      rw [if_neg c1] at h'
      by_cases c2 : ls.length = ts.length
      · rw [if_pos c2] at h'
        cases h'
        obtain ⟨i1, i2⟩ := tabsR_ok ht
        refine ⟨?_, i2, c1⟩
        rw [← c2, List.take_length] at i1
        have e : (tbs.map fun t => nl (tabT t)) = ls.map nl := by
          rw [← i1, List.map_map]
          rfl
        show (tbs.map fun t => nl (tabT t)).flatten = t
        rw [e, ← linesR_ok hl]
      · rw [if_neg c2] at h'; cases h'
theorem puzR_ok {t : Tx} {tbs : List (Nat × List (Option Nat))} {m : Nat} {us : List Ui} (h : puzR t = .ok (tbs, m, us)) : puzT tbs m us = t ∧ (∀ q ∈ tbs, TbG q) ∧ tbs ≠ [] ∧ m ≤ 400 ∧ ∀ u ∈ us, useB tbs m u = true := by
  unfold puzR at h
  cases hl : linesR t with
  | error e => rw [hl] at h; cases h
  | ok ls =>
    rw [hl] at h
    dsimp only at h
    cases ht : tabsR ls 0 with
    | error e => rw [ht] at h; cases h
    | ok ts =>
      rw [ht] at h
      dsimp only at h
      by_cases c1 : ts = []
      · rw [if_pos c1] at h; cases h
      rw [if_neg c1] at h
      by_cases c2 : (headW ls ts.length).length = 2 ∧ (headW ls ts.length).getD 0 [] = namesW
      · rw [if_pos c2] at h
        cases hm : numIn ((headW ls ts.length).getD 1 []) 0 400 with
        | none => rw [hm] at h; cases h
        | some m' =>
          rw [hm] at h
          dsimp only at h
          cases hu : usesR ts m' (ls.drop (ts.length + 1)) (ts.length + 1) with
          | error e => rw [hu] at h; cases h
          | ok us' =>
            rw [hu] at h
            cases h
            obtain ⟨i1, i2⟩ := tabsR_ok ht
            obtain ⟨j1, j2⟩ := usesR_ok hu
            obtain ⟨n1, _, n3, _⟩ := numIn_some hm
            refine ⟨?_, i2, c1, by omega, j2⟩
            cases hx : ls[tbs.length]? with
            | none =>
              have e : headW ls tbs.length = [] := by unfold headW; rw [hx]
              rw [e] at c2
              cases c2.1
            | some l =>
              have e : headW ls tbs.length = spC 32 l := by unfold headW; rw [hx]
              rw [e] at c2 n1
              have el : l = namesW ++ [32] ++ TL.numL m := by
                obtain ⟨w0, w1, ew⟩ : ∃ w0 w1, spC 32 l = [w0, w1] := by
                  cases hq : spC 32 l with
                  | nil => rw [hq] at c2; cases c2.1
                  | cons a r => cases r with
                    | nil => rw [hq] at c2; cases c2.1
                    | cons b r => cases r with
                      | nil => exact ⟨a, b, rfl⟩
                      | cons c r =>
                        rw [hq] at c2
                        have := c2.1
                        rw [List.length_cons, List.length_cons, List.length_cons] at this
                        omega
                have j := spC_join (c := 32) (by decide) l
                rw [ew] at j c2 n1
                have a0 : w0 = namesW := c2.2
                have a1 : TL.numL m = w1 := n1
                rw [← j, a0, a1]
                show namesW ++ ([32] ++ w1) = namesW ++ [32] ++ w1
                rw [List.append_assoc]
              obtain ⟨hlt, eg⟩ := List.getElem?_eq_some_iff.mp hx
              have el2 : ls = tbs.map tabT ++ (namesW ++ [32] ++ TL.numL m) :: us.map useT := by
                rw [i1, j1, ← el, ← eg, ← List.drop_eq_getElem_cons hlt, List.take_append_drop]
              rw [linesR_ok hl, el2, List.map_append, List.flatten_append, List.map_map]
              rfl
      · rw [if_neg c2] at h; cases h
end L2.KK
namespace L2.KK
open PySem PySem.Spec PyProof.Rows C8
def top (i : Nat) : Stmt := PySem.Challenge.pw_pricedrules_k82_text_refused_lines.main.body.getD i (.Pass ⟨0, 0, 0, 0⟩)
abbrev s_wall : Stmt := top 0
abbrev s_BadTable_init : Stmt := inClass (top 3) 0
abbrev s_BadRow_init : Stmt := inClass (top 4) 0
abbrev s_BadLot_init : Stmt := inClass (top 5) 0
abbrev s_BadPuzzle_init : Stmt := inClass (top 6) 0
abbrev s_BadFilling_init : Stmt := inClass (top 7) 0
abbrev s_BadText_init : Stmt := inClass (top 8) 0
abbrev s_is_whole : Stmt := top 10
abbrev s_is_bits : Stmt := top 11
abbrev s_added : Stmt := top 12
abbrev s_times_price : Stmt := top 13
abbrev s_summed : Stmt := top 14
abbrev s_lower : Stmt := top 15
abbrev s_lowest : Stmt := top 16
abbrev s_highest : Stmt := top 17
abbrev s_row_number : Stmt := top 19
abbrev s_chosen_number : Stmt := top 20
abbrev s_Table_init : Stmt := inClass (top 24) 0
abbrev s_Table_span : Stmt := inClass (top 24) 1
abbrev s_Table_crisp : Stmt := inClass (top 24) 2
abbrev s_Table_price : Stmt := inClass (top 24) 3
abbrev s_Table_open_numbers : Stmt := inClass (top 24) 4
abbrev s_Table_open_rows : Stmt := inClass (top 24) 5
abbrev s_Table_contains : Stmt := inClass (top 24) 6
abbrev s_Table_eq : Stmt := inClass (top 24) 7
abbrev s_Table_add : Stmt := inClass (top 24) 8
abbrev s_Table_mul : Stmt := inClass (top 24) 9
abbrev s_swapped : Stmt := top 25
abbrev s_is_told : Stmt := top 29
abbrev s_Lot_init : Stmt := inClass (top 30) 0
abbrev s_Lot_eq : Stmt := inClass (top 30) 1
abbrev s_Lot_wider : Stmt := inClass (top 30) 2
abbrev s_is_use : Stmt := top 35
abbrev s_Puzzle_init : Stmt := inClass (top 36) 0
abbrev s_Puzzle_eq : Stmt := inClass (top 36) 1
abbrev s_Puzzle_add : Stmt := inClass (top 36) 2
abbrev s_Puzzle_use_price : Stmt := inClass (top 36) 3
abbrev s_Puzzle_price : Stmt := inClass (top 36) 4
abbrev s_is_number : Stmt := top 40
abbrev s_price_text : Stmt := top 43
abbrev s_table_line : Stmt := top 44
abbrev s_use_line : Stmt := top 45
abbrev s_lot_text : Stmt := top 46
abbrev s_puzzle_text : Stmt := top 47
abbrev s_lines_of : Stmt := top 48
abbrev s_number_in : Stmt := top 49
abbrev s_read_price : Stmt := top 50
abbrev s_read_table : Stmt := top 51
abbrev s_read_use : Stmt := top 52
abbrev s_read_tables : Stmt := top 53
abbrev s_read_lot : Stmt := top 54
abbrev s_read_puzzle : Stmt := top 55
abbrev s_law_begin : Stmt := top 57
abbrev s_law_draw : Stmt := top 58
abbrev s_law_pick : Stmt := top 59
abbrev s_law_rare : Stmt := top 60
abbrev s_law_low : Stmt := top 61
abbrev s_law_cost : Stmt := top 62
abbrev s_law_opened : Stmt := top 63
abbrev s_law_loose : Stmt := top 64
abbrev s_law_uses : Stmt := top 65
abbrev s_law_lines : Stmt := top 66
abbrev s_law_number_in : Stmt := top 67
abbrev s_law_table_of : Stmt := top 68
abbrev s_law_use_of : Stmt := top 69
abbrev s_law_tables_of : Stmt := top 70
abbrev s_law_reading : Stmt := top 71
abbrev s_law_changed : Stmt := top 72
abbrev s_law_told : Stmt := top 73
abbrev s_law_right : Stmt := top 74
abbrev s_law : Stmt := top 75
theorem sc_law_begin : FnScope ["script", "cell"] ["script"] (defScope s_law_begin) := ⟨rfl, rfl, rfl, by decide +kernel, rfl, by decide +kernel, by decide +kernel⟩
theorem sc_law_draw : FnScope ["d", "many", "found", "size", "cell"] ["d", "many"] (defScope s_law_draw) := ⟨rfl, rfl, rfl, by decide +kernel, rfl, by decide +kernel, by decide +kernel⟩
structure Bl (mg : Str → Option Value) : Prop where
  b_NotImplemented : mg "NotImplemented" = none
  b_ValueError : mg "ValueError" = none
  b_abs : mg "abs" = none
  b_all : mg "all" = none
  b_bool : mg "bool" = none
  b_int : mg "int" = none
  b_isinstance : mg "isinstance" = none
  b_len : mg "len" = none
  b_list : mg "list" = none
  b_property : mg "property" = none
  b_range : mg "range" = none
  b_reversed : mg "reversed" = none
  b_str : mg "str" = none
  b_tuple : mg "tuple" = none
  b_zip : mg "zip" = none
  g_PLACES : ∃ u, mg "PLACES" = some u ∧ RelV (.int 4) u
  g_GREATEST : ∃ u, mg "GREATEST" = some u ∧ RelV (.int 100000000000000000000000000000000000000000000000000) u
  g_TABLES : ∃ u, mg "TABLES" = some u ∧ RelV (.int 16) u
  g_DEAREST : ∃ u, mg "DEAREST" = some u ∧ RelV (.int 1000) u
  g_NAMES : ∃ u, mg "NAMES" = some u ∧ RelV (.int 400) u
  g_USES : ∃ u, mg "USES" = some u ∧ RelV (.int 20000) u
  g_TIMES : ∃ u, mg "TIMES" = some u ∧ RelV (.int 10000000000000000000000000000000000000000) u
  g_DIGITS : ∃ u, mg "DIGITS" = some u ∧ RelV (.str "0123456789") u
  g_FIGURES : ∃ u, mg "FIGURES" = some u ∧ RelV (.int 100) u
  g_LENGTH : ∃ u, mg "LENGTH" = some u ∧ RelV (.int 100000) u
section
variable {P : Program} {w : World} {K : PySem.W.Frag} {mg : Str → Option Value} {base : Heap}
/-! ### the law's draws -/
def spBegin (K : PySem.W.Frag) : Sp := fun vs H Q _ => ∃ (a : Addr) (ns : List Int), vs = [.ref a] ∧ SqL K H a (ns.map V.int) ∧ ns.length ≤ 63 ∧ ∀ d c H', Same H H' → H d = none → H c = none → Dr H' d c → Q (.ref d) H'
def spDraw : Sp := fun vs H Q _ => ∃ (d c : Addr) (m : Int), vs = [.ref d, .int m] ∧ Dr H d c ∧ 1 ≤ m ∧ m < 1073741824 ∧ ∀ (n : Nat) H', (n : Int) < m → Dr H' d c → Kp d H H' → Q (nV n) H'
theorem c_begin (D : FnAt K mg "_law_begin" s_law_begin) (T : Bl mg) : Cal P w K mg base 1 "_law_begin" (spBegin K) [] := by
  refine calOf D sc_law_begin (fun _ _ _ _ _ _ us hl => match us, hl with | [_], _ => rfl) (fun vs H Q E h => ?_) (fun f cdv A outer s H vs Q E hr h => ?_)
  · obtain ⟨a, ns, rfl, _⟩ := h
    rfl
  · obtain ⟨a, ns, rfl, hS, hl, k⟩ := h
    have nd := sc_law_begin.nd
    refine ⟨_, (pss_one (ps_ret (pe_lst (pa_cons (pe_lc (own := [("cell", 1)]) (g := gName 1) (tt := tYes) rfl nd (piList K (pv 0)) (blkOk_by (N := ["script", "cell"]) (sc := defScope s_law_begin) (own := [("cell", 1)]) (by decide +kernel)) (fun _ _ _ _ _ => (pg_name (i := 1) nd rfl (by first | exact Or.inl rfl | exact Or.inr rfl))) (fun _ _ _ _ _ => pts_nil) (fun _ _ _ _ _ => (pe_callTy call_int1 (by rfl) T.b_int (by decide +kernel) (pa_cons (pv 1) pa_nil)))) (pa_cons pe_int (pa_cons pe_int (pa_cons pe_int pa_nil))))))), ?_⟩
    have hz : (ns.map V.int).length ≤ sizeLine := Nat.le_of_lt (small1000 (by rw [List.length_map]; omega))
    refine ⟨.ref a, rfl, a, rfl, ⟨_, hS⟩, fun D hD => lc_listT hS (sel := fun _ => true) (P := fun i y _ => y = .int (ns.getD i 0)) ⟨fun _ _ _ _ _ h => h, fun i H' _ _ R r => r H' (Same.refl H'), fun i H' hi _ _ R r => ?_⟩ hD hz (fun H1 ys sm hd _ pr => ?_)⟩
    · have e : (ns.map V.int).getD i .non = .int (ns.getD i 0) := by
        rw [List.length_map] at hi
        rw [List.getD_eq_getElem?_getD, List.getD_eq_getElem?_getD, List.getElem?_map, List.getElem?_eq_getElem hi]
        rfl
      exact ⟨_, rfl, .inl ⟨ns.getD i 0, by rw [e], r _ H' (Same.refl H') rfl⟩⟩
    · rw [filter_yes] at pr
      have ey : ys = ns.map V.int := by
        rw [paired_map_eq pr, List.length_map]
        have q := congrArg (List.map V.int) (map_range_get ns 0)
        rw [List.map_map] at q
        exact q
      refine ⟨by show 4 ≤ sizeLine; decide, fun d hd0 => ?_⟩
      have nD : D ≠ d := ne_of_none hd hd0
      refine k d D _ (same_fresh sm (sm.free hd0)) (sm.free hd0) hD ⟨ns, 0, 0, 7, upd_same, ?_, Int.le_refl 0, by omega⟩
      rw [upd_ne nD, hd, ey]
theorem mod_pos {a m : Int} (h : 1 ≤ m) : ∃ n : Nat, a.fmod m = (n : Int) ∧ (n : Int) < m := by
  have h1 := Int.fmod_nonneg_of_pos a (show 0 < m by omega)
  have h2 := Int.fmod_lt_of_pos a (show 0 < m by omega)
  exact ⟨(a.fmod m).toNat, by omega, by omega⟩
theorem c_draw (D : FnAt K mg "_law_draw" s_law_draw) (T : Bl mg) : Cal P w K mg base 1 "_law_draw" spDraw [] := by
  refine calOf D sc_law_draw (fun _ _ _ _ _ _ us hl => match us, hl with | [_, _], _ => rfl) (fun vs H Q E h => ?_) (fun f cdv A outer s H vs Q E hr h => ?_)
  · obtain ⟨d, c, m, rfl, _⟩ := h
    rfl
  · obtain ⟨d, c, m, rfl, D, h1, h2, k⟩ := h
    obtain ⟨ns, i, r, z, hd, hc, hi, hn⟩ := D.ex
    have nd := sc_law_draw.nd
    have ncd : c ≠ d := D.cd
    -- d as it is changed: the items at 1, 2, 3
    have fin : ∀ (a : Int) (i r z : Int) (H' : Hp), 0 ≤ i → H' d = some (.lst [.ref c, .int i, .int r, .int z]) → Kp d H H' → Q (.int (a.fmod m)) H' := fun a i r z H' hi' e kp => by
      obtain ⟨n, en, ln⟩ := mod_pos (a := a) h1
      rw [en]
      exact k n H' ln ⟨ns, i, r, z, e, kp c _ hc ncd, hi', hn⟩ kp
    have kpd : ∀ o, Kp d H (upd H d o) := fun o b u e n => by rw [upd_ne n]; exact e
    refine ⟨_, (pss_cons (ps_if (pt_cmpR op_gt (pe_ix (ixL K) (pv 0) pe_int (fun _ _ => rfl)) pe_int (nomark _))
        (pss_cons (ps_set (i := 2) nd rfl (by first | exact Or.inl rfl | exact Or.inr rfl) (pe_ix (ixL K) (pv 0) pe_int (fun _ _ => rfl)))
        (pss_cons (ps_asg (pe_op op_fdivN (pv 2) (pv 1)) (pg_sub (pv 0) pe_int set_list))
        (pss_one (ps_ret (pe_op op_modN (pe_callTy call_int1 (by rfl) T.b_int (by decide +kernel) (pa_cons (pv 2) pa_nil)) (pv 1))))))
        pss_nil)
      (pss_cons (ps_set (i := 3) nd rfl (by first | exact Or.inl rfl | exact Or.inr rfl) pe_int)
      (pss_cut (ps_if (pt_cmpR op_lt (pe_ix (ixL K) (pv 0) pe_int (fun _ _ => rfl)) (pe_callB (crLen K) (by rfl) T.b_len (by decide +kernel) (pa_cons (pe_ix (ixL K) (pv 0) pe_int (fun _ _ => rfl)) pa_nil)) (nomark _))
        (pss_cons (ps_set (i := 4) nd rfl (by first | exact Or.inl rfl | exact Or.inr rfl) (pe_ix (ixL K) (pe_ix (ixL K) (pv 0) pe_int (fun _ _ => rfl)) (pe_ix (ixL K) (pv 0) pe_int (fun _ _ => rfl)) (fun _ _ => rfl)))
        (pss_one (ps_set (i := 3) nd rfl (by first | exact Or.inl rfl | exact Or.inr rfl) (pe_op op_add (pe_op op_mul pe_int (pe_callB call_abs (by rfl) T.b_abs (by decide +kernel) (pa_cons (pv 4) pa_nil))) (pe_callTy call_int1 (by rfl) T.b_int (by decide +kernel) (pa_cons (pe_cmpR op_lt (pv 4) pe_int (nomark _)) pa_nil))))))
        pss_nil)
      (pss_cons (ps_augS (pv 0) pe_int (getL K) pe_int ip_add set_list)
      (pss_cons (ps_if (pt_cmpR op_ge (pv 3) (pe_op op_mul pe_int (pe_op op_pow pe_int pe_int)) (nomark _))
        (pss_cons (ps_set (i := 2) nd rfl (by first | exact Or.inl rfl | exact Or.inr rfl) (pe_op op_modN (pe_callTy call_int1 (by rfl) T.b_int (by decide +kernel) (pa_cons (pe_op op_fdivN (pv 3) pe_int) pa_nil)) (pe_op op_shl pe_int pe_int)))
        (pss_cons (ps_asg (pe_op op_fdivN (pv 2) (pv 1)) (pg_sub (pv 0) pe_int set_list))
        (pss_one (ps_ret (pe_op op_modN (pe_callTy call_int1 (by rfl) T.b_int (by decide +kernel) (pa_cons (pv 2) pa_nil)) (pv 1))))))
        pss_nil)
      (pss_cons (ps_asg (pe_op op_modN (pe_callTy call_int1 (by rfl) T.b_int (by decide +kernel) (pa_cons (pe_op op_add (pe_op op_add (pe_op op_add (pe_op op_mul (pe_ix (ixL K) (pv 0) pe_int (fun _ _ => rfl)) pe_int) (pe_op op_mul (pe_op op_modN (pe_callTy call_int1 (by rfl) T.b_int (by decide +kernel) (pa_cons (pv 3) pa_nil)) pe_int) pe_int)) (pe_op op_mul (pe_ix (ixL K) (pv 0) pe_int (fun _ _ => rfl)) pe_int)) pe_int) pa_nil)) pe_int) (pg_sub (pv 0) pe_int set_list))
      (pss_one (ps_ret (pe_op op_modN (pe_callTy call_int1 (by rfl) T.b_int (by decide +kernel) (pa_cons (pe_op op_fdivN (pe_ix (ixL K) (pv 0) pe_int (fun _ _ => rfl)) pe_int) pa_nil)) (pv 1)))))))))), ?_⟩
    have m0 : m ≠ 0 ∧ m.natAbs < 1073741824 := ⟨by omega, by omega⟩
    -- if d[2] > 0
    refine ⟨_, rfl, d, _, 2, .int r, rfl, rfl, SqL.of hd, rfl, r, 0, rfl, rfl, _, rfl, ite2 (fun _ => ?_) (fun _ => ?_)⟩
    · refine ⟨_, rfl, d, _, 2, .int r, rfl, rfl, SqL.of hd, rfl, ?_⟩
      refine ⟨_, rfl, _, rfl, r, m, rfl, rfl, m0, _, rfl, d, _, 2, 2, rfl, rfl, hd, rfl, ?_⟩
      refine ⟨_, rfl, .inl ⟨r, rfl, _, rfl, r, m, rfl, rfl, m0.1, ?_⟩⟩
      exact fin r i (r.fdiv m) z _ hi upd_same (kpd _)
    · -- size = 0; if d[1] < len(d[0])
      refine ⟨fun σ' H' => H' = H ∧ ∃ (size : Int) (c4 : Option V), σ' = [some (.ref d), some (.int m), none, some (.int size), c4], ?_, ?_⟩
      · refine ⟨_, rfl, d, _, 1, .int i, rfl, rfl, SqL.of hd, rfl, _, rfl, d, _, 0, .ref c, rfl, rfl, SqL.of hd, rfl, c, _, rfl, .inl (SqL.of hc), i, _, rfl, rfl, _, rfl, ite2 (fun hlt => ?_) (fun _ => ⟨rfl, 0, none, rfl⟩)⟩
        have hlt' := of_decide_eq_true hlt
        rw [List.length_map] at hlt'
        have hix : (ns.map V.int)[i.toNat]? = some (.int (ns.getD i.toNat 0)) := by
          rw [List.getElem?_map, List.getD_eq_getElem?_getD, List.getElem?_eq_getElem (show i.toNat < ns.length by omega)]
          rfl
        have ei : (i.toNat : Int) = i := by omega
        have hat : atI (ns.map V.int) i = some (.int (ns.getD i.toNat 0)) := by
          have q := atI_nat hix
          rw [ei] at q
          exact q
        refine ⟨_, rfl, d, _, 0, .ref c, rfl, rfl, SqL.of hd, rfl, _, rfl, d, _, 1, .int i, rfl, rfl, SqL.of hd, rfl, c, _, i, _, rfl, rfl, SqL.of hc, hat, ?_⟩
        generalize ns.getD i.toNat 0 = cell
        refine ⟨_, rfl, cell, rfl, 2, _, rfl, rfl, .inl ⟨by decide, by decide⟩, _, rfl, cell, 0, rfl, rfl, .inr ⟨_, rfl, _, _, rfl, rfl, rfl, _, _, rfl⟩⟩
      · rintro σ' H' ⟨rfl, size, c4, rfl⟩
        -- d[1] += 1
        refine ⟨_, rfl, d, _, 1, .int i, rfl, rfl, SqL.of hd, rfl, by decide, i, 1, rfl, rfl, d, _, 1, 1, rfl, rfl, hd, rfl, ?_⟩
        have hd1 : upd H' d (.lst [.ref c, .int (i + 1), .int r, .int z]) d = some (.lst [.ref c, .int (i + 1), .int r, .int z]) := upd_same
        -- if size >= 2 * 10 ** 18
        refine ⟨_, rfl, 10, 18, rfl, rfl, ⟨by decide, by decide, by decide⟩, 2, _, rfl, rfl, .inl ⟨by decide, by decide⟩, size, _, rfl, rfl, _, rfl, ite2 (fun _ => ?_) (fun _ => ?_)⟩
        · refine ⟨_, rfl, size, 2, rfl, rfl, ⟨by decide, by decide⟩, .inl ⟨_, rfl, 1, 6000, rfl, rfl, ⟨by decide, by decide, by decide⟩, _, _, rfl, rfl, ?_, ?_⟩⟩
          · exact Int.ne_of_gt (by rw [Int.one_mul]; exact Int.pow_pos (by decide))
          · refine ⟨_, rfl, _, rfl, _, m, rfl, rfl, m0, _, rfl, d, _, 2, 2, rfl, rfl, hd1, rfl, ?_⟩
            refine ⟨_, rfl, .inl ⟨_, rfl, _, rfl, _, m, rfl, rfl, m0.1, ?_⟩⟩
            exact fin _ (i + 1) _ z _ (by omega) upd_same fun b u e n => by rw [upd_ne n, upd_ne n]; exact e
        · refine ⟨_, rfl, d, _, 3, .int z, rfl, rfl, SqL.of hd1, rfl, z, 48271, rfl, rfl, .inr ⟨by decide, by decide⟩, ?_⟩
          refine ⟨_, rfl, .inl ⟨size, rfl, size, 2147483629, rfl, rfl, (show (2147483629 : Int) ≠ 0 by decide), _, 16807, rfl, rfl, .inr ⟨by decide, by decide⟩, _, _, rfl, rfl, ?_⟩⟩
          refine ⟨_, rfl, d, _, 1, .int (i + 1), rfl, rfl, SqL.of hd1, rfl, _, 69621, rfl, rfl, .inr ⟨by decide, by decide⟩, _, _, rfl, rfl, _, 11, rfl, rfl, .inl ⟨_, rfl, _, 2147483647, rfl, rfl, (show (2147483647 : Int) ≠ 0 by decide), ?_⟩⟩
          refine ⟨_, rfl, d, _, 3, 3, rfl, rfl, hd1, rfl, ?_⟩
          refine ⟨_, rfl, d, _, 3, _, rfl, rfl, SqL.of upd_same, rfl, _, 16, rfl, rfl, ⟨by decide, by decide⟩, .inl ⟨_, rfl, _, rfl, _, m, rfl, rfl, m0.1, ?_⟩⟩
          exact fin _ (i + 1) r _ _ (by omega) upd_same fun b u e n => by rw [upd_ne n, upd_ne n]; exact e

end
end L2.KK
namespace L2.KK
open PySem PySem.Spec PyProof.Rows C8
def dd_BadText_init : He.DefD := ⟨("BadText", some "__init__"), "__init__", "BadText.__init__", defArgs s_BadText_init, defBody s_BadText_init, defScope s_BadText_init, [], []⟩
def dd_is_whole : He.DefD := ⟨("is_whole", none), "is_whole", "is_whole", defArgs s_is_whole, defBody s_is_whole, defScope s_is_whole, [], []⟩
def dd_times_price : He.DefD := ⟨("times_price", none), "times_price", "times_price", defArgs s_times_price, defBody s_times_price, defScope s_times_price, [], []⟩
def dd_lower : He.DefD := ⟨("lower", none), "lower", "lower", defArgs s_lower, defBody s_lower, defScope s_lower, [], []⟩
def dd_lowest : He.DefD := ⟨("lowest", none), "lowest", "lowest", defArgs s_lowest, defBody s_lowest, defScope s_lowest, [], []⟩
def dd_highest : He.DefD := ⟨("highest", none), "highest", "highest", defArgs s_highest, defBody s_highest, defScope s_highest, [], []⟩
def dd_chosen_number : He.DefD := ⟨("chosen_number", none), "chosen_number", "chosen_number", defArgs s_chosen_number, defBody s_chosen_number, defScope s_chosen_number, [], []⟩
def dd_Table_init : He.DefD := ⟨("Table", some "__init__"), "__init__", "Table.__init__", defArgs s_Table_init, defBody s_Table_init, defScope s_Table_init, [], []⟩
def dd_Table_eq : He.DefD := ⟨("Table", some "__eq__"), "__eq__", "Table.__eq__", defArgs s_Table_eq, defBody s_Table_eq, defScope s_Table_eq, [], []⟩
def dd_swapped : He.DefD := ⟨("swapped", none), "swapped", "swapped", defArgs s_swapped, defBody s_swapped, defScope s_swapped, [], []⟩
def dd_is_told : He.DefD := ⟨("is_told", none), "is_told", "is_told", defArgs s_is_told, defBody s_is_told, defScope s_is_told, [], []⟩
def dd_Lot_init : He.DefD := ⟨("Lot", some "__init__"), "__init__", "Lot.__init__", defArgs s_Lot_init, defBody s_Lot_init, defScope s_Lot_init, [], []⟩
def dd_Lot_eq : He.DefD := ⟨("Lot", some "__eq__"), "__eq__", "Lot.__eq__", defArgs s_Lot_eq, defBody s_Lot_eq, defScope s_Lot_eq, [], []⟩
def dd_is_use : He.DefD := ⟨("is_use", none), "is_use", "is_use", defArgs s_is_use, defBody s_is_use, defScope s_is_use, [], []⟩
def dd_Puzzle_init : He.DefD := ⟨("Puzzle", some "__init__"), "__init__", "Puzzle.__init__", defArgs s_Puzzle_init, defBody s_Puzzle_init, defScope s_Puzzle_init, [], []⟩
def dd_Puzzle_eq : He.DefD := ⟨("Puzzle", some "__eq__"), "__eq__", "Puzzle.__eq__", defArgs s_Puzzle_eq, defBody s_Puzzle_eq, defScope s_Puzzle_eq, [], []⟩
def dd_is_number : He.DefD := ⟨("is_number", none), "is_number", "is_number", defArgs s_is_number, defBody s_is_number, defScope s_is_number, [], []⟩
def dd_price_text : He.DefD := ⟨("price_text", none), "price_text", "price_text", defArgs s_price_text, defBody s_price_text, defScope s_price_text, [], []⟩
def dd_table_line : He.DefD := ⟨("table_line", none), "table_line", "table_line", defArgs s_table_line, defBody s_table_line, defScope s_table_line, [], []⟩
def dd_use_line : He.DefD := ⟨("use_line", none), "use_line", "use_line", defArgs s_use_line, defBody s_use_line, defScope s_use_line, [], []⟩
def dd_lot_text : He.DefD := ⟨("lot_text", none), "lot_text", "lot_text", defArgs s_lot_text, defBody s_lot_text, defScope s_lot_text, [], []⟩
def dd_puzzle_text : He.DefD := ⟨("puzzle_text", none), "puzzle_text", "puzzle_text", defArgs s_puzzle_text, defBody s_puzzle_text, defScope s_puzzle_text, [], []⟩
def dd_lines_of : He.DefD := ⟨("lines_of", none), "lines_of", "lines_of", defArgs s_lines_of, defBody s_lines_of, defScope s_lines_of, [], []⟩
def dd_number_in : He.DefD := ⟨("number_in", none), "number_in", "number_in", defArgs s_number_in, defBody s_number_in, defScope s_number_in, [], []⟩
def dd_read_price : He.DefD := ⟨("read_price", none), "read_price", "read_price", defArgs s_read_price, defBody s_read_price, defScope s_read_price, [], []⟩
def dd_read_table : He.DefD := ⟨("read_table", none), "read_table", "read_table", defArgs s_read_table, defBody s_read_table, defScope s_read_table, [], []⟩
def dd_read_use : He.DefD := ⟨("read_use", none), "read_use", "read_use", defArgs s_read_use, defBody s_read_use, defScope s_read_use, [], []⟩
def dd_read_tables : He.DefD := ⟨("read_tables", none), "read_tables", "read_tables", defArgs s_read_tables, defBody s_read_tables, defScope s_read_tables, [], []⟩
def dd_read_lot : He.DefD := ⟨("read_lot", none), "read_lot", "read_lot", defArgs s_read_lot, defBody s_read_lot, defScope s_read_lot, [], []⟩
def dd_read_puzzle : He.DefD := ⟨("read_puzzle", none), "read_puzzle", "read_puzzle", defArgs s_read_puzzle, defBody s_read_puzzle, defScope s_read_puzzle, [], []⟩
def dd_law_begin : He.DefD := ⟨("_law_begin", none), "_law_begin", "_law_begin", defArgs s_law_begin, defBody s_law_begin, defScope s_law_begin, [], []⟩
def dd_law_draw : He.DefD := ⟨("_law_draw", none), "_law_draw", "_law_draw", defArgs s_law_draw, defBody s_law_draw, defScope s_law_draw, [], []⟩
def dd_law_pick : He.DefD := ⟨("_law_pick", none), "_law_pick", "_law_pick", defArgs s_law_pick, defBody s_law_pick, defScope s_law_pick, [], []⟩
def dd_law_rare : He.DefD := ⟨("_law_rare", none), "_law_rare", "_law_rare", defArgs s_law_rare, defBody s_law_rare, defScope s_law_rare, [], []⟩
def dd_law_low : He.DefD := ⟨("_law_low", none), "_law_low", "_law_low", defArgs s_law_low, defBody s_law_low, defScope s_law_low, [], []⟩
def dd_law_cost : He.DefD := ⟨("_law_cost", none), "_law_cost", "_law_cost", defArgs s_law_cost, defBody s_law_cost, defScope s_law_cost, [], []⟩
def dd_law_opened : He.DefD := ⟨("_law_opened", none), "_law_opened", "_law_opened", defArgs s_law_opened, defBody s_law_opened, defScope s_law_opened, [], []⟩
def dd_law_loose : He.DefD := ⟨("_law_loose", none), "_law_loose", "_law_loose", defArgs s_law_loose, defBody s_law_loose, defScope s_law_loose, [], []⟩
def dd_law_uses : He.DefD := ⟨("_law_uses", none), "_law_uses", "_law_uses", defArgs s_law_uses, defBody s_law_uses, defScope s_law_uses, [], []⟩
def dd_law_lines : He.DefD := ⟨("_law_lines", none), "_law_lines", "_law_lines", defArgs s_law_lines, defBody s_law_lines, defScope s_law_lines, [], []⟩
def dd_law_number_in : He.DefD := ⟨("_law_number_in", none), "_law_number_in", "_law_number_in", defArgs s_law_number_in, defBody s_law_number_in, defScope s_law_number_in, [], []⟩
def dd_law_table_of : He.DefD := ⟨("_law_table_of", none), "_law_table_of", "_law_table_of", defArgs s_law_table_of, defBody s_law_table_of, defScope s_law_table_of, [], []⟩
def dd_law_use_of : He.DefD := ⟨("_law_use_of", none), "_law_use_of", "_law_use_of", defArgs s_law_use_of, defBody s_law_use_of, defScope s_law_use_of, [], []⟩
def dd_law_tables_of : He.DefD := ⟨("_law_tables_of", none), "_law_tables_of", "_law_tables_of", defArgs s_law_tables_of, defBody s_law_tables_of, defScope s_law_tables_of, [], []⟩
def dd_law_reading : He.DefD := ⟨("_law_reading", none), "_law_reading", "_law_reading", defArgs s_law_reading, defBody s_law_reading, defScope s_law_reading, [], []⟩
def dd_law_changed : He.DefD := ⟨("_law_changed", none), "_law_changed", "_law_changed", defArgs s_law_changed, defBody s_law_changed, defScope s_law_changed, [], []⟩
def dd_law_told : He.DefD := ⟨("_law_told", none), "_law_told", "_law_told", defArgs s_law_told, defBody s_law_told, defScope s_law_told, [], []⟩
def dd_law_right : He.DefD := ⟨("_law_right", none), "_law_right", "_law_right", defArgs s_law_right, defBody s_law_right, defScope s_law_right, [], []⟩
def dd_law : He.DefD := ⟨("law", none), "law", "law", defArgs s_law, defBody s_law, defScope s_law, [], []⟩
def fnL : List He.DefD := [dd_BadText_init, dd_is_whole, dd_times_price, dd_lower, dd_lowest, dd_highest, dd_chosen_number, dd_Table_init, dd_Table_eq, dd_swapped, dd_is_told, dd_Lot_init, dd_Lot_eq, dd_is_use, dd_Puzzle_init, dd_Puzzle_eq, dd_is_number, dd_price_text, dd_table_line, dd_use_line, dd_lot_text, dd_puzzle_text, dd_lines_of, dd_number_in, dd_read_price, dd_read_table, dd_read_use, dd_read_tables, dd_read_lot, dd_read_puzzle, dd_law_begin, dd_law_draw, dd_law_pick, dd_law_rare, dd_law_low, dd_law_cost, dd_law_opened, dd_law_loose, dd_law_uses, dd_law_lines] ++ [dd_law_number_in, dd_law_table_of, dd_law_use_of, dd_law_tables_of, dd_law_reading, dd_law_changed, dd_law_told, dd_law_right, dd_law]
def faL : List He.Fa := [.glo "is_whole", .glo "times_price", .glo "lower", .glo "lowest", .glo "highest", .glo "chosen_number", .glo "swapped", .glo "is_told", .glo "is_use", .glo "is_number", .glo "price_text", .glo "table_line", .glo "use_line", .glo "lot_text", .glo "puzzle_text", .glo "lines_of", .glo "number_in", .glo "read_price", .glo "read_table", .glo "read_use", .glo "read_tables", .glo "read_lot", .glo "read_puzzle", .glo "_law_begin", .glo "_law_draw", .glo "_law_pick", .glo "_law_rare", .glo "_law_low", .glo "_law_cost", .glo "_law_opened", .glo "_law_loose", .glo "_law_uses", .glo "_law_lines", .glo "_law_number_in", .glo "_law_table_of", .glo "_law_use_of", .glo "_law_tables_of", .glo "_law_reading", .glo "_law_changed", .glo "_law_told"] ++ [.glo "_law_right", .glo "law", .free "NotImplemented", .free "ValueError", .free "abs", .free "all", .free "bool", .free "int", .free "isinstance", .free "len", .free "list", .free "property", .free "range", .free "reversed", .free "str", .free "tuple", .free "zip", .int "PLACES" 4, .int "GREATEST" 100000000000000000000000000000000000000000000000000, .int "TABLES" 16, .int "DEAREST" 1000, .int "NAMES" 400, .int "USES" 20000, .int "TIMES" 10000000000000000000000000000000000000000, .str "DIGITS" "0123456789", .int "FIGURES" 100, .int "LENGTH" 100000, .glo "Table", .mkr "Table", .meth "Table" "__eq__", .noat "Table" "places", .noat "Table" "prices", .noat "Table" "least", .noat "Table" "most", .glo "Lot", .mkr "Lot", .meth "Lot" "__eq__", .noat "Lot" "tables", .noat "Lot" "swaps", .glo "Puzzle"] ++ [.mkr "Puzzle", .meth "Puzzle" "__eq__", .noat "Puzzle" "lot", .noat "Puzzle" "many", .noat "Puzzle" "uses", .glo "BadText", .noat "BadText" "line", .glo "PricedError", .exm "BadText" "BadText" true]
def myL : List (PySem.W.Frag → Bool) := [insB "Table", insB "Lot", insB "Puzzle", isiB "Table" "Table" true, isiB "Lot" "Lot" true, isiB "Puzzle" "Puzzle" true, ownB "BadText", excB "BadText", basB "PricedError"]
abbrev RR : PySem.W.OpenRow := PySem.W.OpenLaw.row PySem.Challenge.rw_pricedrules_k82_text_refused_lines
abbrev hkD : PySem.W.Hook := hookF 4 faL fnL myL
def obD (s : PySem.W.SharedT) : AlK := obsF 4 faL fnL myL (HandSHeadRun.getT s)
theorem obD_eq (s : PySem.W.SharedT) : obD s = hkD.obs s.abs := obsF_eq (HandSHeadRun.getT_eq s)
def looseL : List Str := ((["_wall", "PricedError", "BadTable", "BadRow", "BadLot", "BadPuzzle", "BadFilling", "BadText", "is_whole", "is_bits", "added", "times_price", "summed", "lower", "lowest", "highest", "row_number", "chosen_number", "PLACES", "GREATEST"] : List Str) ++ (["Table", "swapped", "TABLES", "DEAREST", "is_told", "Lot", "NAMES", "USES", "TIMES", "is_use", "Puzzle", "DIGITS", "FIGURES", "is_number", "LENGTH", "price_text", "table_line", "use_line", "lot_text", "puzzle_text"] : List Str) ++ (["lines_of", "number_in", "read_price", "read_table", "read_use", "read_tables", "read_lot", "read_puzzle", "_law_begin", "_law_draw", "_law_pick", "_law_rare", "_law_low", "_law_cost", "_law_opened", "_law_loose", "_law_uses", "_law_lines", "_law_number_in", "_law_table_of"] : List Str) ++ (["_law_use_of", "_law_tables_of", "_law_reading", "_law_changed", "_law_told", "_law_right"] : List Str))
theorem runD (w : World) : HandSHeadRun.RunEq RR (PySem.W.view RR.prog [75]) hkD obD 12000 looseL w := by
  intro os
  kernel_rfl
end L2.KK
namespace L2.KK
open PySem PySem.Spec PyProof.Rows C8
theorem sc_law_rare : FnScope ["d", "many"] ["d", "many"] (defScope s_law_rare) := ⟨rfl, rfl, rfl, by decide +kernel, rfl, by decide +kernel, by decide +kernel⟩
theorem sc_law_pick : FnScope ["d", "row"] ["d", "row"] (defScope s_law_pick) := ⟨rfl, rfl, rfl, by decide +kernel, rfl, by decide +kernel, by decide +kernel⟩
section
variable {P : Program} {w : World} {K : PySem.W.Frag} {mg : Str → Option Value} {base : Heap}
abbrev nL (xs : List Nat) : List V := xs.map nV
theorem nL_get {xs : List Nat} {i : Nat} (h : i < xs.length) : (nL xs)[i]? = some (nV xs[i]) := by
  rw [List.getElem?_map, List.getElem?_eq_getElem h]
  rfl
/-! ### drawn things -/
def spRare : Sp := fun vs H Q _ => ∃ (d c : Addr) (m : Int), vs = [.ref d, .int m] ∧ Dr H d c ∧ 1 ≤ m ∧ m < 1073741824 ∧ ∀ (b : Bool) H', Dr H' d c → Kp d H H' → Q (.bl b) H'
def spPick : Sp := fun vs H Q _ => ∃ (d c a : Addr) (xs : List V), vs = [.ref d, .ref a] ∧ Dr H d c ∧ H a = some (.lst xs) ∧ a ≠ d ∧ a ≠ c ∧ 0 < xs.length ∧ xs.length ≤ 100000 ∧
  ∀ (i : Nat) (v : V) H', xs[i]? = some v → Dr H' d c → Kp d H H' → Q v H'
def spPop : Sp := fun vs H Q _ => ∃ (d c a : Addr) (xs : List V), vs = [.ref d, .ref a] ∧ Dr H d c ∧ H a = some (.lst xs) ∧ a ≠ d ∧ a ≠ c ∧ 0 < xs.length ∧ xs.length ≤ 100000 ∧
  ∀ (i : Nat) (v : V) H', xs[i]? = some v → Dr H' d c → H' a = some (.lst (xs.eraseIdx i)) → (∀ b o, H b = some o → b ≠ d → b ≠ a → H' b = some o) → Q v H'
def spShuf (K : PySem.W.Frag) : Sp := fun vs H Q _ => ∃ (d c a : Addr) (xs : List V), vs = [.ref d, .ref a] ∧ Dr H d c ∧ SqL K H a xs ∧ xs.length ≤ 100000 ∧
  ∀ (p : Addr) (ys : List V) H', ys.Perm xs → H p = none → H' p = some (.lst ys) → Dr H' d c → Kp d H H' → Q (.ref p) H'
theorem c_rare (D : FnAt K mg "_law_rare" s_law_rare) (T : Bl mg) (c_law_draw : Cal P w K mg base 1 "_law_draw" spDraw []) : Cal P w K mg base 2 "_law_rare" spRare [] := by
  refine calOf D sc_law_rare (fun _ _ _ _ _ _ us hl => match us, hl with | [_, _], _ => rfl) (fun vs H Q E h => ?_) (fun f cdv A outer s H vs Q E hr h => ?_)
  · obtain ⟨d, c, m, rfl, _⟩ := h
    rfl
  · obtain ⟨d, c, m, rfl, D, h1, h2, k⟩ := h
    refine ⟨_, (pss_one (ps_ret (pe_cmpR op_eq (pe_c c_law_draw hr (by decide) (by rfl) (pa_cons (pv 0) (pa_cons (pv 1) pa_nil))) (pe_op op_fdivN (pv 1) pe_int) (nomark _)))), ?_⟩
    refine ⟨_, rfl, _, rfl, d, c, m, rfl, D, h1, h2, fun n H' _ D' kp => ?_⟩
    exact ⟨_, rfl, m, 2, rfl, rfl, ⟨by decide, by decide⟩, rfl, k _ H' D' kp⟩
theorem c_pick (D : FnAt K mg "_law_pick" s_law_pick) (T : Bl mg) (c_law_draw : Cal P w K mg base 1 "_law_draw" spDraw []) : Cal P w K mg base 2 "_law_pick" spPick [] := by
  refine calOf D sc_law_pick (fun _ _ _ _ _ _ us hl => match us, hl with | [_, _], _ => rfl) (fun vs H Q E h => ?_) (fun f cdv A outer s H vs Q E hr h => ?_)
  · obtain ⟨d, c, a, xs, rfl, _⟩ := h
    rfl
  · obtain ⟨d, c, a, xs, rfl, D, ha, ne, nc, h0, hz, k⟩ := h
    refine ⟨_, (pss_one (ps_ret (pe_ix (ixL K) (pv 1) (pe_c c_law_draw hr (by decide) (by rfl) (pa_cons (pv 0) (pa_cons (pe_callB (crLen K) (by rfl) T.b_len (by decide +kernel) (pa_cons (pv 1) pa_nil)) pa_nil))) (fun _ _ => rfl)))), ?_⟩
    refine ⟨_, rfl, _, rfl, _, rfl, a, xs, rfl, .inl (SqL.of ha), d, c, _, rfl, D, by omega, by omega, fun n H' hn D' kp => ?_⟩
    have hn' : n < xs.length := by omega
    exact ⟨a, xs, _, xs[n], rfl, rfl, SqL.of (kp _ _ ha ne), atI_nat (List.getElem?_eq_getElem hn'), k n _ H' (List.getElem?_eq_getElem hn') D' kp⟩
theorem erase_perm {α : Type} : ∀ (l : List α) (i : Nat) (h : i < l.length), (l[i] :: l.eraseIdx i).Perm l
  | [], _, h => absurd h (Nat.not_lt_zero _)
  | _ :: _, 0, _ => List.Perm.refl _
  | a :: l, i + 1, h => by
    show (l[i]'(Nat.lt_of_succ_lt_succ h) :: a :: l.eraseIdx i).Perm (a :: l)
    exact (List.Perm.swap a _ _).trans ((erase_perm l i (Nat.lt_of_succ_lt_succ h)).cons a)
theorem seqIx {n k : Nat} (h : k < n) : seqIndex? (k : Int) n = some k := by
  unfold seqIndex?
  have h0 : ¬ (k : Int) < 0 := by omega
  simp [h0]
  omega
end
end L2.KK
namespace L2.KK
open PySem PySem.Spec PyProof.Rows C8

section
variable {P : Program} {w : World} {K : PySem.W.Frag} {mg : Str → Option Value} {base : Heap}
/-! ### bits -/
def spOnes : Sp := fun vs H Q _ => ∃ m : Nat, vs = [nV m] ∧ Q (nV (MK.pc m)) H
theorem clear_step {k c n : Nat} (h : MK.pc k + c = n) (h0 : 0 < k) : MK.pc (k &&& (k - 1)) + (c + 1) = n ∧ k &&& (k - 1) < k := by
  obtain ⟨a, b⟩ := MK.clear_low k k (Nat.le_refl _) h0
  exact ⟨by omega, b⟩
/-- a new list comes back, all that stood stands -/
def NewL (H : Hp) (Q : VK) (xs : List V) : Prop := ∀ p H', Same H H' → H p = none → H' p = some (.lst xs) → Q (.ref p) H'
def spBits : Sp := fun vs H Q _ => ∃ m n : Nat, vs = [nV m, nV n] ∧ n ≤ 100000 ∧ NewL H Q (nL (MK.bitsOf m n))
theorem shr_bit (m i : Nat) : (((m >>> i &&& 1 : Nat) : Int) != 0) = m.testBit i := by
  rw [Nat.testBit_eq_decide_div_mod_eq, Nat.and_one_is_mod, Nat.shiftRight_eq_div_pow]
  have : m / 2 ^ i % 2 = 0 ∨ m / 2 ^ i % 2 = 1 := by omega
  rcases this with e | e <;> rw [e] <;> rfl
theorem lt_line {n : Nat} (h : n ≤ 16777216) : n ≤ sizeLine := by rw [sizeLine_eq]; exact h
end
end L2.KK
namespace L2.KK
open PySem PySem.Spec PyProof.Rows C8

section
variable {P : Program} {w : World} {K : PySem.W.Frag} {mg : Str → Option Value} {base : Heap}
theorem nL_getD {ms : List Nat} {i : Nat} (h : i < (nL ms).length) : (nL ms).getD i .non = nV (ms.getD i 0) := by
  rw [List.length_map] at h
  rw [List.getD_eq_getElem?_getD, List.getD_eq_getElem?_getD, nL_get h, List.getElem?_eq_getElem h]
  rfl
theorem paired_map_of {α β γ : Type} {F : α → β → Prop} {f : α → γ} {g : β → γ} : ∀ {a : List α} {b : List β}, Paired F a b → (∀ x y, F x y → f x = g y) → a.map f = b.map g
  | _, _, .nil, _ => rfl
  | _, _, .cons r t, h => by rw [List.map_cons, List.map_cons, h _ _ r, paired_map_of t h]
theorem nL_snoc (g : List Nat) (m : Nat) : nL (g ++ [m]) = nL g ++ [nV m] := by
  show (g ++ [m]).map nV = _
  rw [List.map_append]
  rfl
/-! ### least masks -/
def pairOf (H : Hp) (x : V) : Int × Int := match x with
  | .ref t => (match H t with
    | some (.tup [.int a, .int b]) => (a, b)
    | _ => (0, 0))
  | _ => (0, 0)
theorem pairOf_eq {H : Hp} {t : Addr} {a b : Int} (h : H t = some (.tup [.int a, .int b])) : pairOf H (.ref t) = (a, b) := by
  show (match H t with
    | some (.tup [.int a, .int b]) => (a, b)
    | _ => (0, 0)) = (a, b)
  rw [h]
def spMin (K : PySem.W.Frag) : Sp := fun vs H Q _ => ∃ (a : Addr) (ms : List Nat), vs = [.ref a] ∧ SqL K H a (nL ms) ∧ ms.length ≤ 10000000 ∧ ∀ G, MK.Least G (· ∈ ms) → NewL H Q (nL G)
/-- is one of the kept ones within m? -/
theorem any_list {g : List Nat} {m : Nat} {bs : List V} (h : bs = (List.range g.length).map fun j => V.bl (decide (((g.getD j 0 &&& m : Nat) : Int) = ((g.getD j 0 : Nat) : Int)))) :
    ∃ cs : List Bool, bs = cs.map V.bl ∧ cs.any id = g.any (fun k => k &&& m == k) := by
  refine ⟨g.map fun k => k &&& m == k, ?_, by rw [List.any_map]; rfl⟩
  rw [h, List.map_map]
  have e : (List.range g.length).map (fun j => g.getD j 0) = g := map_range_get g 0
  have q := congrArg (List.map fun k : Nat => V.bl (k &&& m == k)) e
  rw [List.map_map] at q
  rw [show (V.bl ∘ fun k : Nat => k &&& m == k) = fun k : Nat => V.bl (k &&& m == k) from rfl, ← q]
  refine List.map_congr_left fun j _ => ?_
  show V.bl _ = V.bl _
  congr 1
  rw [Bool.eq_iff_iff, decide_eq_true_iff, beq_iff_eq]
  exact Int.ofNat_inj
end
end L2.KK
namespace L2.KK
open PySem PySem.Spec PyProof.Rows C8

/-! ### lists of whole numbers as data -/
theorem dpAll_ints {K : PySem.W.Frag} {H : Hp} : ∀ ns : List Int, DpAll K H (ns.map V.int) (ns.map PyData.int)
  | [] => .nil
  | n :: ns => .cons (.int n) (dpAll_ints ns)
theorem shaped_intsL (ns : List Int) : SeqAt.shaped (.list (ns.map PyData.int)) = true := by
  have h := shaped_ints ns
  unfold SeqAt.shaped at h ⊢
  exact h
theorem eqd_ints {K : PySem.W.Frag} {H : Hp} {a b : Addr} {xs ys : List Int} {Q : VK} (ha : SqL K H a (xs.map V.int)) (hb : SqL K H b (ys.map V.int)) (q : Q (.bl (decide (xs = ys))) H) : rEqD K (.ref a) (.ref b) H Q := by
  refine ⟨_, _, .lst ha (dpAll_ints xs), .lst hb (dpAll_ints ys), shaped_intsL xs, shaped_intsL ys, ?_⟩
  have e : PyData.eqv (.list (xs.map PyData.int)) (.list (ys.map PyData.int)) = decide (xs = ys) := by
    show PyData.eqvAll _ _ = _
    exact PySem.W.ked_eqvAll xs ys
  rw [e]
  exact q
theorem ned_ints {K : PySem.W.Frag} {H : Hp} {a b : Addr} {xs ys : List Int} {Q : VK} (ha : SqL K H a (xs.map V.int)) (hb : SqL K H b (ys.map V.int)) (q : Q (.bl (!decide (xs = ys))) H) : rNeD K (.ref a) (.ref b) H Q := by
  refine ⟨_, _, .lst ha (dpAll_ints xs), .lst hb (dpAll_ints ys), shaped_intsL xs, shaped_intsL ys, ?_⟩
  have e : PyData.eqv (.list (xs.map PyData.int)) (.list (ys.map PyData.int)) = decide (xs = ys) := by
    show PyData.eqvAll _ _ = _
    exact PySem.W.ked_eqvAll xs ys
  rw [e]
  exact q
abbrev iL (xs : List Nat) : List Int := xs.map fun n : Nat => (n : Int)
theorem nL_eq (xs : List Nat) : nL xs = (iL xs).map V.int := by
  show xs.map nV = (xs.map fun n : Nat => (n : Int)).map V.int
  rw [List.map_map]
  rfl
theorem iL_inj {xs ys : List Nat} (h : iL xs = iL ys) : xs = ys := by
  have : (iL xs).map Int.toNat = (iL ys).map Int.toNat := by rw [h]
  rw [List.map_map, List.map_map, show (Int.toNat ∘ fun n : Nat => (n : Int)) = id from funext fun n => Int.toNat_natCast n, List.map_id, List.map_id] at this
  exact this
/-- two orders of the same numbers, both rising, are one -/
theorem rising_one : ∀ {xs ys : List Int}, xs.Perm ys → xs.Pairwise (· ≤ ·) → ys.Pairwise (· ≤ ·) → xs = ys
  | [], ys, p, _, _ => (List.Perm.eq_nil p.symm).symm
  | x :: xs, [], p, _, _ => by have := p.length_eq; simp at this
  | x :: xs, y :: ys, p, h1, h2 => by
    obtain ⟨a1, a2⟩ := List.pairwise_cons.mp h1
    obtain ⟨b1, b2⟩ := List.pairwise_cons.mp h2
    have e : x = y := by
      have m1 : x ∈ y :: ys := p.mem_iff.mp List.mem_cons_self
      have m2 : y ∈ x :: xs := p.mem_iff.mpr List.mem_cons_self
      have l1 : y ≤ x := by
        rcases List.mem_cons.mp m1 with z | z
        · omega
        · exact b1 x z
      have l2 : x ≤ y := by
        rcases List.mem_cons.mp m2 with z | z
        · omega
        · exact a1 y z
      omega
    subst e
    rw [rising_one (List.Perm.cons_inv p) a2 b2]
def unV : V → Nat
  | .int n => n.toNat
  | _ => 0
theorem unV_nV (n : Nat) : unV (nV n) = n := Int.toNat_natCast n
theorem nats_perm {ys : List V} {ms : List Nat} (h : ys.Perm (nL ms)) : ∃ L : List Nat, ys = nL L ∧ L.Perm ms := by
  have e : (nL ms).map unV = ms := by
    show (ms.map nV).map unV = ms
    rw [List.map_map, show (unV ∘ nV) = id from funext unV_nV, List.map_id]
  refine ⟨ys.map unV, ?_, ?_⟩
  · show ys = (ys.map unV).map nV
    rw [List.map_map]
    refine (List.map_id ys).symm.trans (List.map_congr_left fun y hy => ?_)
    obtain ⟨m, _, rfl⟩ := List.mem_map.mp (h.mem_iff.mp hy)
    show nV m = nV (unV (nV m))
    rw [unV_nV]
  · have q := h.map unV
    rw [e] at q
    exact q
section
variable {P : Program} {w : World} {K : PySem.W.Frag} {mg : Str → Option Value} {base : Heap}
def onesOf (v : V) : Int := (MK.pc (unV v) : Int)
def spMeets (K : PySem.W.Frag) : Sp := fun vs H Q _ => ∃ (a : Addr) (m : Nat) (ms : List Nat), vs = [nV m, .ref a] ∧ SqL K H a (nL ms) ∧ ms.length ≤ 10000000 ∧ ∀ H', Same H H' → Q (.bl (ms.all fun o => decide (m &&& o ≠ 0))) H'
def spDue (K : PySem.W.Frag) : Sp := fun vs H Q _ => ∃ (a : Addr) (n : Nat) (ms : List Nat), vs = [.ref a, nV n] ∧ SqL K H a (nL ms) ∧ ms.length ≤ 10000000 ∧ n ≤ 10 ∧ ∀ G, MK.Least G (MK.Tr ms n) → NewL H Q (nL G)
end
end L2.KK
namespace L2.KK
open PySem PySem.Spec PyProof.Rows C8

theorem paired_mapR {α β γ : Type} {F : α → γ → Prop} (g : β → γ) : ∀ {a : List α} {b : List β}, Paired (fun x y => F x (g y)) a b → Paired F a (b.map g)
  | _, _, .nil => .nil
  | _, _, .cons r t => .cons r (paired_mapR g t)
/-! ### lots: tuples of whole numbers -/
theorem bitsOf_len (m n : Nat) : (MK.bitsOf m n).length ≤ n := by
  unfold MK.bitsOf
  have := List.length_filter_le (fun i => m.testBit i) (List.range n)
  rw [List.length_range] at this
  exact this
/-- rs are tuples that hold the lots Ls -/
def LotAt (K : PySem.W.Frag) (H : Hp) (y : V) (l : List Nat) : Prop := ∃ r, y = .ref r ∧ SqT K H r (nL l)
theorem LotAt.grow {K : PySem.W.Frag} {H H' : Hp} {y : V} {l : List Nat} (h : LotAt K H y l) (e : Same H H') : LotAt K H' y l := by
  obtain ⟨r, e1, e2⟩ := h
  exact ⟨r, e1, same_seqT e e2⟩
def LotsAt (K : PySem.W.Frag) (H : Hp) (p : Addr) (Ls : List (List Nat)) : Prop := ∃ ys, SqT K H p ys ∧ Paired (LotAt K H) ys Ls
theorem dp_lot {K : PySem.W.Frag} {H : Hp} {y : V} {l : List Nat} (h : LotAt K H y l) : Dp K H y (.tuple ((iL l).map PyData.int)) := by
  obtain ⟨r, rfl, e⟩ := h
  rw [nL_eq] at e
  exact .tup e (dpAll_ints _)
theorem dp_lots {K : PySem.W.Frag} {H : Hp} : ∀ {ys : List V} {Ls : List (List Nat)}, Paired (LotAt K H) ys Ls → DpAll K H ys (Ls.map fun l => PyData.tuple ((iL l).map PyData.int))
  | _, _, .nil => .nil
  | _, _, .cons r t => .cons (dp_lot r) (dp_lots t)
theorem eqv_lots : ∀ a b : List (List Nat), PyData.eqvAll (a.map fun l => PyData.tuple ((iL l).map PyData.int)) (b.map fun l => PyData.tuple ((iL l).map PyData.int)) = decide (a = b)
  | [], [] => by simp only [List.map_nil, PyData.eqvAll, decide_true]
  | [], _ :: _ => by simp [PyData.eqvAll]
  | _ :: _, [] => by simp [PyData.eqvAll]
  | x :: xs, y :: ys => by
    rw [List.map_cons, List.map_cons, PyData.eqvAll, eqv_lots xs ys]
    have e : PyData.eqv (.tuple ((iL x).map PyData.int)) (.tuple ((iL y).map PyData.int)) = decide (x = y) := by
      show PyData.eqvAll _ _ = _
      rw [PySem.W.ked_eqvAll]
      exact decide_eq_decide.mpr ⟨iL_inj, fun h => by rw [h]⟩
    rw [e, ← Bool.decide_and]
    exact decide_eq_decide.mpr (by rw [List.cons.injEq])
theorem depth_ints (ns : List Int) : (PyData.tuple (ns.map PyData.int)).depth ≤ 1 := by
  unfold PyData.depth
  have d : PyData.depthAll (ns.map PyData.int) ≤ 0 := PySem.W.depthAll_map (α := Int) ns
  omega
theorem shaped_lots (Ls : List (List Nat)) : SeqAt.shaped (.tuple (Ls.map fun l => PyData.tuple ((iL l).map PyData.int))) = true := by
  unfold SeqAt.shaped
  rw [Bool.and_eq_true]
  constructor
  · unfold PyData.canLay0
    induction Ls with
    | nil => rfl
    | cons l Ls ih =>
      rw [List.map_cons]
      unfold PyData.canLayAll0
      rw [ih]
      have h := SeqAt.canLay_of_shaped (shaped_ints (iL l))
      rw [h]
      rfl
  · refine decide_eq_true ?_
    unfold PyData.depth
    have : PyData.depthAll (Ls.map fun l => PyData.tuple ((iL l).map PyData.int)) ≤ 1 := by
      induction Ls with
      | nil =>
        show 0 ≤ 1
        decide
      | cons l Ls ih =>
        rw [List.map_cons]
        unfold PyData.depthAll
        have := depth_ints (iL l)
        omega
    omega
theorem ned_lots {K : PySem.W.Frag} {H : Hp} {a b : Addr} {As Bs : List (List Nat)} {Q : VK} (ha : LotsAt K H a As) (hb : LotsAt K H b Bs) (q : Q (.bl (!decide (As = Bs))) H) : rNeD K (.ref a) (.ref b) H Q := by
  obtain ⟨xs, a1, a2⟩ := ha
  obtain ⟨ys, b1, b2⟩ := hb
  refine ⟨_, _, .tup a1 (dp_lots a2), .tup b1 (dp_lots b2), shaped_lots As, shaped_lots Bs, ?_⟩
  have e : PyData.eqv (.tuple (As.map fun l => PyData.tuple ((iL l).map PyData.int))) (.tuple (Bs.map fun l => PyData.tuple ((iL l).map PyData.int))) = decide (As = Bs) := by
    show PyData.eqvAll _ _ = _
    exact eqv_lots As Bs
  rw [e]
  exact q
/-- the order of lots -/
def LotLe (a b : List Nat) : Prop := ltLot (iL b) (iL a) = false
theorem lots_one : ∀ {xs ys : List (List Nat)}, xs.Perm ys → xs.Pairwise LotLe → ys.Pairwise LotLe → xs = ys := fun {xs ys} p h1 h2 =>
  List.Perm.eq_of_pairwise (le := LotLe) (fun a b _ _ h k => iL_inj (ltLot_anti k h)) h1 h2 p
section
variable {P : Program} {w : World} {K : PySem.W.Frag} {mg : Str → Option Value} {base : Heap}
def spRank (K : PySem.W.Frag) : Sp := fun vs H Q _ => ∃ (t : Addr) (l : List Nat), vs = [.ref t] ∧ SqT K H t (nL l) ∧ ∀ p H', Same H H' → H p = none → H' p = some (.tup [nV l.length, .ref t]) → Q (.ref p) H'
def spLots (K : PySem.W.Frag) : Sp := fun vs H Q _ => ∃ (a : Addr) (n : Nat) (ms : List Nat), vs = [.ref a, nV n] ∧ SqL K H a (nL ms) ∧ ms.length ≤ 1000000 ∧ n ≤ 1000 ∧
  ∀ p H' Ls, Same H H' → H p = none → LotsAt K H' p Ls → Ls.Perm (ms.map fun m => MK.bitsOf m n) → Ls.Pairwise LotLe → Q (.ref p) H'
/-- what a lot at an address holds -/
def lotOf (H : Hp) (x : V) : List Nat := match x with
  | .ref t => (match H t with
    | some (.tup ys) => ys.map unV
    | _ => [])
  | _ => []
theorem lotOf_eq {H : Hp} {t : Addr} {l : List Nat} (h : H t = some (.tup (nL l))) : lotOf H (.ref t) = l := by
  show (match H t with
    | some (.tup ys) => ys.map unV
    | _ => []) = l
  rw [h]
  show (l.map nV).map unV = l
  rw [List.map_map, show (unV ∘ nV) = id from funext unV_nV, List.map_id]
/-- the end of both: lots stand in the list at D, they are sorted, a tuple is made of them -/
theorem lots_end {H H1 : Hp} {Q : VK} {D f : Addr} {ys : List V} {Ls : List (List Nat)} {n : Nat} {ms : List Nat} (sm : Same H H1) (hD : H D = none) (hd : H1 D = some (.lst ys)) (pr : Paired (fun y l => ∃ t, y = V.ref t ∧ H1 t = some (.tup (nL l))) ys Ls) (hL : Ls = ms.map fun m => MK.bitsOf m n) (hz : ms.length ≤ 1000000)
    (k : ∀ p H' Ls, Same H H' → H p = none → LotsAt K H' p Ls → Ls.Perm (ms.map fun m => MK.bitsOf m n) → Ls.Pairwise LotLe → Q (.ref p) H') :
    rSortedLot K f (spRank K) [.ref D] [.ref f] H1 fun v H2 => rTupQ K [v] H2 Q := by
  refine ⟨fun x => iL (lotOf H1 x), D, ys, rfl, rfl, SqL.of hd, fun x hx H2 sm2 R r => ?_, fun zs o H2 sm2 ho pm pw => ?_⟩
  · obtain ⟨l, t, rfl, ht⟩ := paired_left pr x hx
    refine ⟨t, l, rfl, SqT.of (sm2 _ _ ht), fun p H3 sm3 hp e => ?_⟩
    refine r _ H3 sm3 ⟨t, p, rfl, rfl, ?_, ?_⟩
    · show SqT K H3 t ((iL (lotOf H1 (.ref t))).map V.int)
      rw [lotOf_eq ht, ← nL_eq]
      exact SqT.of (sm3 _ _ (sm2 _ _ ht))
    · show H3 p = some (.tup [.int ((iL (lotOf H1 (.ref t))).length : Int), .ref t])
      rw [lotOf_eq ht, List.length_map]
      exact e
  · refine ⟨o, zs, rfl, .inl ⟨SqL.of upd_same, fun p hp => ?_⟩⟩
    have sm3 : Same H2 (upd H2 o (.lst zs)) := same_new ho
    have sm4 : Same H1 (upd (upd H2 o (.lst zs)) p (.tup zs)) := (sm2.trans sm3).trans (same_new hp)
    have lz : ∀ x ∈ zs, ∃ t l, x = V.ref t ∧ H1 t = some (.tup (nL l)) := fun x hx => by
      obtain ⟨l, t, e1, e2⟩ := paired_left pr x (pm.mem_iff.mp hx)
      exact ⟨t, l, e1, e2⟩
    refine k p _ (zs.map (lotOf H1)) (sm.trans sm4) (sm.free ((sm2.trans sm3).free hp)) ⟨zs, SqT.of upd_same, ?_⟩ ?_ ?_
    · have all : ∀ l : List V, (∀ x ∈ l, ∃ t l, x = V.ref t ∧ H1 t = some (.tup (nL l))) → Paired (LotAt K (upd (upd H2 o (.lst zs)) p (.tup zs))) l (l.map (lotOf H1)) := by
        intro l
        induction l with
        | nil => intro _; exact .nil
        | cons x l ih =>
          intro h
          rw [List.map_cons]
          refine .cons ?_ (ih fun y hy => h y (List.mem_cons_of_mem _ hy))
          obtain ⟨t, q, rfl, e⟩ := h x List.mem_cons_self
          rw [lotOf_eq e]
          exact ⟨t, rfl, SqT.of (sm4 _ _ e)⟩
      exact all zs lz
    · have q := pm.map (lotOf H1)
      rw [paired_map_of (g := id) pr (fun x y ⟨t, e1, e2⟩ => by rw [e1, lotOf_eq e2]; rfl), List.map_id, hL] at q
      exact q
    · rw [List.pairwise_map]
      exact pw
def spSorted (K : PySem.W.Frag) : Sp := fun vs H Q _ => ∃ (a : Addr) (ms : List Nat), vs = [.ref a] ∧ SqL K H a (nL ms) ∧ ms.Nodup ∧ ms.Pairwise (fun x y => MK.pc x ≤ MK.pc y) ∧ ms.length ≤ 4000 ∧ ∀ H', Same H H' → Q (.bl true) H'
def spIsInt : Sp := fun vs H Q _ => ∃ n : Int, vs = [.int n] ∧ Q (.bl true) H
end
end L2.KK
namespace L2.KK
open PySem PySem.Spec PyProof.Rows C8

section
variable {P : Program} {w : World} {K : PySem.W.Frag} {mg : Str → Option Value} {base : Heap}
def spBlk (K : PySem.W.Frag) : Sp := fun vs H Q _ => ∃ (a : Addr) (n U : Nat) (ms : List Nat), vs = [.ref a, nV n] ∧ SqL K H a (nL ms) ∧ n ≤ 40 ∧ (∀ m ∈ ms, MK.sub m U) ∧ U < 2 ^ n ∧ MK.pc U ≤ 15 ∧ ∀ G, MK.Least G (MK.Tr ms n) → NewL H Q (nL G)
theorem grow_take {m n : Nat} {g : List Nat} {j : Nat} (hj : j < g.length) : MK.grow m n (g.take (j + 1)) = MK.grow m n (g.take j) ++ MK.grow1 m n g[j] := by
  rw [List.take_add_one, List.getElem?_eq_getElem hj, MK.grow_append]
  show _ ++ (MK.grow1 m n g[j] ++ []) = _
  rw [List.append_nil]
theorem nL_append (a b : List Nat) : nL (a ++ b) = nL a ++ nL b := List.map_append
end
end L2.KK
namespace L2.KK
open PySem PySem.Spec PyProof.Rows C8
theorem sc_is_whole : FnScope ["value", "low", "high"] ["value", "low", "high"] (defScope s_is_whole) := ⟨rfl, rfl, rfl, by decide +kernel, rfl, by decide +kernel, by decide +kernel⟩
theorem sc_lower : FnScope ["first", "second"] ["first", "second"] (defScope s_lower) := ⟨rfl, rfl, rfl, by decide +kernel, rfl, by decide +kernel, by decide +kernel⟩
theorem sc_lowest : FnScope ["prices", "best", "price"] ["prices"] (defScope s_lowest) := ⟨rfl, rfl, rfl, by decide +kernel, rfl, by decide +kernel, by decide +kernel⟩
theorem sc_highest : FnScope ["prices", "best", "price"] ["prices"] (defScope s_highest) := ⟨rfl, rfl, rfl, by decide +kernel, rfl, by decide +kernel, by decide +kernel⟩
theorem sc_times_price : FnScope ["price", "times"] ["price", "times"] (defScope s_times_price) := ⟨rfl, rfl, rfl, by decide +kernel, rfl, by decide +kernel, by decide +kernel⟩
theorem sc_chosen_number : FnScope ["picks", "filling", "number", "pick"] ["picks", "filling"] (defScope s_chosen_number) := ⟨rfl, rfl, rfl, by decide +kernel, rfl, by decide +kernel, by decide +kernel⟩
theorem isn_none : decide (pV none = V.non) = true := decide_eq_true rfl
theorem isn_some {n : Nat} : ¬ decide (pV (some n) = V.non) = true := fun h => by cases of_decide_eq_true h
theorem notn_none : ¬ (!decide (pV none = V.non)) = true := fun h => by rw [isn_none] at h; cases h
theorem notn_some {n : Nat} : (!decide (pV (some n) = V.non)) = true := by
  cases h : decide (pV (some n) = V.non) with
  | true => exact absurd h isn_some
  | false => rfl
theorem units1 {a b : Nat} (h : a + 64 < b) : a + 1 < b := by omega
theorem units0 {a b : Nat} (h : a + 64 < b) : a < b := by omega
theorem take_snoc {α : Type} {l : List α} {i : Nat} {x : α} (h : l[i]? = some x) : l.take (i + 1) = l.take i ++ [x] := by
  rw [List.take_add_one, h]
  rfl
theorem map_get {α β : Type} {f : α → β} {l : List α} {i : Nat} {x : β} (h : (l.map f)[i]? = some x) : ∃ a, l[i]? = some a ∧ x = f a := by
  rw [List.getElem?_map] at h
  cases e : l[i]? with
  | none => rw [e] at h; cases h
  | some a => rw [e] at h; cases h; exact ⟨a, rfl, rfl⟩
theorem map_getD {α β : Type} {f : α → β} {l : List α} {i : Nat} {d : β} (e : α) (h : i < l.length) : (l.map f).getD i d = f (l.getD i e) := by
  rw [List.getD_eq_getElem?_getD, List.getD_eq_getElem?_getD, List.getElem?_map, List.getElem?_eq_getElem h]
  rfl
section
variable {P : Program} {w : World} {K : PySem.W.Frag} {mg : Str → Option Value} {base : Heap}
def spWhole : Sp := fun vs H Q _ => ∃ v lo hi : Int, vs = [.int v, .int lo, .int hi] ∧ Q (.bl (decide (lo ≤ v ∧ v ≤ hi))) H
theorem c_is_whole (D : FnAt K mg "is_whole" s_is_whole) (T : Bl mg) : Cal P w K mg base 1 "is_whole" spWhole [] := by
  refine calOf D sc_is_whole (fun _ _ _ _ _ _ us hl => match us, hl with | [_, _, _], _ => rfl) (fun vs H Q E h => ?_) (fun f cdv A outer s H vs Q E hr h => ?_)
  · obtain ⟨v, lo, hi, rfl, _⟩ := h
    rfl
  · obtain ⟨v, lo, hi, rfl, k⟩ := h
    refine ⟨_, (pss_one (ps_ret (pe_and (pe_callB (crIsi K) (by rfl) T.b_isinstance (by decide +kernel) (pa_cons (pv 0) (pa_cons (pe_bltn (v := .ty "int") (u := .type "int") (by rfl) T.b_int (by decide +kernel) (by rfl)) pa_nil))) (pe_and (pe_not (pe_callB (crIsi K) (by rfl) T.b_isinstance (by decide +kernel) (pa_cons (pv 0) (pa_cons (pe_bltn (v := .ty "bool") (u := .type "bool") (by rfl) T.b_bool (by decide +kernel) (by rfl)) pa_nil)))) (pe_one (pe_chain op_le op_le (pv 1) (pv 0) (pv 2))))))), ?_⟩
    refine ⟨_, rfl, _, _, .type "int", .type "int", true, rfl, .ty "int", .base (.int v), kit_ty (by decide +kernel), true, rfl, iteT ?_⟩
    refine ⟨_, rfl, _, _, .type "int", .type "bool", false, rfl, .ty "bool", .base (.int v), kit_ty (by decide +kernel), false, rfl, true, rfl, iteT ?_⟩
    refine ⟨_, rfl, _, rfl, lo, v, rfl, rfl, _, rfl, ite2 (fun h => ⟨_, rfl, v, hi, rfl, rfl, ?_⟩) (fun h => ?_)⟩
    · have e : decide (lo ≤ v ∧ v ≤ hi) = decide (v ≤ hi) := by
        have := of_decide_eq_true h
        simp [this]
      rw [e] at k
      exact k
    · have e : decide (lo ≤ v ∧ v ≤ hi) = false := decide_eq_false fun z => h (decide_eq_true z.1)
      rw [e] at k
      exact k
def spLower : Sp := fun vs H Q _ => ∃ a b : Option Nat, vs = [pV a, pV b] ∧ Q (pV (MK.lowO a b)) H
theorem c_lower (D : FnAt K mg "lower" s_lower) (T : Bl mg) : Cal P w K mg base 1 "lower" spLower [] := by
  refine calOf D sc_lower (fun _ _ _ _ _ _ us hl => match us, hl with | [_, _], _ => rfl) (fun vs H Q E h => ?_) (fun f cdv A outer s H vs Q E hr h => ?_)
  · obtain ⟨a, b, rfl, _⟩ := h
    rfl
  · obtain ⟨a, b, rfl, k⟩ := h
    refine ⟨_, (pss_cons (ps_if (pt_cmpR op_isN (pv 0) pe_non (nomark _))
        (pss_one (ps_ret (pv 1)))
        pss_nil)
      (pss_cons (ps_if (pt_cmpR op_isN (pv 1) pe_non (nomark _))
        (pss_one (ps_ret (pv 0)))
        pss_nil)
      (pss_one (ps_ret (pe_ifExp (pt_cmpR op_le (pv 0) (pv 1) (nomark _)) (pv 0) (pv 1)))))), ?_⟩
    refine ⟨_, rfl, rfl, _, rfl, ?_⟩
    cases a with
    | none => exact ite2 (fun _ => ⟨_, rfl, k⟩) (fun h => absurd isn_none h)
    | some x =>
      refine ite2 (fun h => absurd h isn_some) (fun _ => ⟨_, rfl, rfl, _, rfl, ?_⟩)
      cases b with
      | none => exact ite2 (fun _ => ⟨_, rfl, k⟩) (fun h => absurd isn_none h)
      | some y =>
        refine ite2 (fun h => absurd h isn_some) (fun _ => ⟨_, rfl, _, rfl, x, y, rfl, rfl, _, rfl, ?_⟩)
        have e : MK.lowO (some x) (some y) = some (if x ≤ y then x else y) := rfl
        rw [e] at k
        by_cases h : x ≤ y
        · rw [if_pos h] at k
          exact ite2 (fun _ => ⟨_, rfl, k⟩) (fun n => absurd (decide_eq_true (by omega)) n)
        · rw [if_neg h] at k
          exact ite2 (fun n => absurd (of_decide_eq_true n) (by omega)) (fun _ => ⟨_, rfl, k⟩)
def spFold (K : PySem.W.Frag) (f : List (Option Nat) → Option Nat) : Sp := fun vs H Q _ => ∃ (a : Addr) (ps : List (Option Nat)), vs = [.ref a] ∧ SqT K H a (ps.map pV) ∧ Q (pV (f ps)) H
theorem c_lowest (D : FnAt K mg "lowest" s_lowest) (T : Bl mg) (c_lower : Cal P w K mg base 1 "lower" spLower []) : Cal P w K mg base 2 "lowest" (spFold K MK.lowL) [] := by
  refine calOf D sc_lowest (fun _ _ _ _ _ _ us hl => match us, hl with | [_], _ => rfl) (fun vs H Q E h => ?_) (fun f cdv A outer s H vs Q E hr h => ?_)
  · obtain ⟨a, ps, rfl, _⟩ := h
    rfl
  · obtain ⟨a, ps, rfl, hS, k⟩ := h
    have nd := sc_lowest.nd
    refine ⟨_, (pss_cons (ps_set (i := 1) nd rfl (by first | exact Or.inl rfl | exact Or.inr rfl) pe_non)
      (pss_cons (ps_for PassesOwn.never rfl (piTup K (pv 0)) (pg_name (i := 2) nd rfl (by first | exact Or.inl rfl | exact Or.inr rfl))
        (pss_one (ps_set (i := 1) nd rfl (by first | exact Or.inl rfl | exact Or.inr rfl) (pe_c c_lower hr (by decide) (by rfl) (pa_cons (pv 1) (pa_cons (pv 2) pa_nil))))))
      (pss_one (ps_ret (pv 1))))), ?_⟩
    refine ⟨_, rfl, a, rfl, ⟨_, hS⟩, ?_⟩
    refine for_tup (xs := ps.map pV) (fun i σ' H' => ∃ c2 : Option V, σ' = [some (.ref a), some (pV (MK.lowL (ps.take i))), c2] ∧ H' = H) ⟨none, rfl, rfl⟩ (fun i σ' H' _ ⟨_, _, e⟩ => by rw [e]; exact hS) (fun i x σ' H' hx hp => ?_) (fun σ' H' hp => ?_)
    · obtain ⟨c2, rfl, rfl⟩ := hp
      obtain ⟨p, hp, rfl⟩ := map_get hx
      refine ⟨_, rfl, _, rfl, MK.lowL (ps.take i), p, rfl, ?_⟩
      refine ⟨some (pV p), ?_, rfl⟩
      rw [take_snoc hp]
      unfold MK.lowL
      rw [List.foldl_append]
      rfl
    · obtain ⟨c2, rfl, rfl⟩ := hp
      rw [List.length_map, List.take_length]
      exact ⟨_, rfl, k⟩
theorem c_highest (D : FnAt K mg "highest" s_highest) (T : Bl mg) : Cal P w K mg base 1 "highest" (spFold K MK.hiL) [] := by
  refine calOf D sc_highest (fun _ _ _ _ _ _ us hl => match us, hl with | [_], _ => rfl) (fun vs H Q E h => ?_) (fun f cdv A outer s H vs Q E hr h => ?_)
  · obtain ⟨a, ps, rfl, _⟩ := h
    rfl
  · obtain ⟨a, ps, rfl, hS, k⟩ := h
    have nd := sc_highest.nd
    refine ⟨_, (pss_cons (ps_set (i := 1) nd rfl (by first | exact Or.inl rfl | exact Or.inr rfl) pe_non)
      (pss_cons (ps_for PassesOwn.never rfl (piTup K (pv 0)) (pg_name (i := 2) nd rfl (by first | exact Or.inl rfl | exact Or.inr rfl))
        (pss_one (ps_if (PW.pt (pw_and (pt_cmpR op_notN (pv 2) pe_non (nomark _)) (pw_and1 (PW.pt (pw_or (pt_cmpR op_isN (pv 1) pe_non (nomark _)) (pw_or1 (pt_cmpR op_gt (pv 2) (pv 1) (nomark _))))))))
          (pss_one (ps_set (i := 1) nd rfl (by first | exact Or.inl rfl | exact Or.inr rfl) (pv 2)))
          pss_nil)))
      (pss_one (ps_ret (pv 1))))), ?_⟩
    refine ⟨_, rfl, a, rfl, ⟨_, hS⟩, ?_⟩
    refine for_tup (xs := ps.map pV) (fun i σ' H' => ∃ c2 : Option V, σ' = [some (.ref a), some (pV (MK.hiL (ps.take i))), c2] ∧ H' = H) ⟨none, rfl, rfl⟩ (fun i σ' H' _ ⟨_, _, e⟩ => by rw [e]; exact hS) (fun i x σ' H' hx hp => ?_) (fun σ' H' hp => ?_)
    · obtain ⟨c2, rfl, rfl⟩ := hp
      obtain ⟨p, hp, rfl⟩ := map_get hx
      have et : MK.hiL (ps.take (i + 1)) = MK.hiO (MK.hiL (ps.take i)) p := by
        rw [take_snoc hp]
        unfold MK.hiL
        rw [List.foldl_append]
        rfl
      rw [et]
      generalize MK.hiL (ps.take i) = b
      refine ⟨_, rfl, rfl, _, rfl, ?_⟩
      cases p with
      | none =>
        refine ite2 (fun h => absurd h notn_none) (fun _ => ?_)
        refine ⟨some (pV none), ?_, rfl⟩
        cases b <;> rfl
      | some x =>
        refine ite2 (fun _ => ⟨_, rfl, rfl, _, rfl, ?_⟩) (fun h => absurd notn_some h)
        cases b with
        | none => exact ite2 (fun _ => ⟨_, rfl, ⟨_, rfl, rfl⟩⟩) (fun h => absurd isn_none h)
        | some y =>
          refine ite2 (fun h => absurd h isn_some) (fun _ => ⟨_, rfl, _, rfl, x, y, rfl, rfl, _, rfl, ?_⟩)
          have e : MK.hiO (some y) (some x) = if x > y then some x else some y := rfl
          rw [e]
          by_cases h : x > y
          · rw [if_pos h]
            exact ite2 (fun _ => ⟨_, rfl, ⟨_, rfl, rfl⟩⟩) (fun n => absurd (decide_eq_true (by omega)) n)
          · rw [if_neg h]
            exact ite2 (fun n => absurd (of_decide_eq_true n) (by omega)) (fun _ => ⟨_, rfl, rfl⟩)
    · obtain ⟨c2, rfl, rfl⟩ := hp
      rw [List.length_map, List.take_length]
      exact ⟨_, rfl, k⟩
def spTimes : Sp := fun vs H Q _ => ∃ (a : Option Nat) (t : Nat), vs = [pV a, nV t] ∧ (∀ m, a = some m → m < 18446744073709551616) ∧ Q (pV (a.map (· * t))) H
theorem c_times_price (D : FnAt K mg "times_price" s_times_price) (T : Bl mg) : Cal P w K mg base 1 "times_price" spTimes [] := by
  refine calOf D sc_times_price (fun _ _ _ _ _ _ us hl => match us, hl with | [_, _], _ => rfl) (fun vs H Q E h => ?_) (fun f cdv A outer s H vs Q E hr h => ?_)
  · obtain ⟨a, t, rfl, _⟩ := h
    rfl
  · obtain ⟨a, t, rfl, hb, k⟩ := h
    refine ⟨_, (pss_cons (ps_if (pt_cmpR op_isN (pv 0) pe_non (nomark _))
        (pss_one (ps_ret pe_non))
        pss_nil)
      (pss_one (ps_ret (pe_op op_mulNN (pv 0) (pv 1))))), ?_⟩
    refine ⟨_, rfl, rfl, _, rfl, ?_⟩
    cases a with
    | none => exact ite2 (fun _ => k) (fun h => absurd isn_none h)
    | some x => exact ite2 (fun h => absurd h isn_some) (fun _ => ⟨_, rfl, _, rfl, x, t, rfl, rfl, .inl (hb x rfl), k⟩)
def spRow : Sp := fun vs H Q _ => ∃ n k : Nat, vs = [nV n, nV k] ∧ k ≤ 1000 ∧ NewT H Q (nL (MK.rowL n k))
def RowsAt (H : Hp) (k : Nat) (y : V) (n : Nat) : Prop := ∃ t, y = .ref t ∧ H t = some (.tup (nL (MK.rowL n k)))
def spRows : Sp := fun vs H Q _ => ∃ k : Nat, vs = [nV k] ∧ k ≤ 20 ∧ ∀ p H' ys, Same H H' → H p = none → H' p = some (.lst ys) → Paired (RowsAt H' k) ys (List.range (2 ^ k)) → Q (.ref p) H'
def spChosen (K : PySem.W.Frag) : Sp := fun vs H Q _ => ∃ (a b : Addr) (ps fs : List Nat), vs = [.ref a, .ref b] ∧ SqL K H a (nL ps) ∧ SqT K H b (nL fs) ∧ (∀ x ∈ ps, x < fs.length) ∧ Q (nV (MK.chosen ps fs)) H
theorem c_chosen_number (D : FnAt K mg "chosen_number" s_chosen_number) (T : Bl mg) : Cal P w K mg base 1 "chosen_number" (spChosen K) [] := by
  refine calOf D sc_chosen_number (fun _ _ _ _ _ _ us hl => match us, hl with | [_, _], _ => rfl) (fun vs H Q E h => ?_) (fun f cdv A outer s H vs Q E hr h => ?_)
  · obtain ⟨a, b, ps, fs, rfl, _⟩ := h
    rfl
  · obtain ⟨a, b, ps, fs, rfl, ha, hb, hl, k⟩ := h
    have nd := sc_chosen_number.nd
    refine ⟨_, (pss_cons (ps_set (i := 2) nd rfl (by first | exact Or.inl rfl | exact Or.inr rfl) pe_int)
      (pss_cons (ps_for PassesOwn.never rfl (piList K (pv 0)) (pg_name (i := 3) nd rfl (by first | exact Or.inl rfl | exact Or.inr rfl))
        (pss_one (ps_set (i := 2) nd rfl (by first | exact Or.inl rfl | exact Or.inr rfl) (pe_op op_addNN (pe_op op_mulNN (pv 2) pe_int) (pe_ix (ixT K) (pv 1) (pv 3) (fun _ _ => rfl))))))
      (pss_one (ps_ret (pv 2))))), ?_⟩
    refine ⟨_, rfl, a, rfl, ⟨_, ha⟩, ?_⟩
    refine for_list (xs := nL ps) (fun i σ' H' => ∃ c3 : Option V, σ' = [some (.ref a), some (.ref b), some (nV (MK.chosen (ps.take i) fs)), c3] ∧ H' = H) ⟨none, rfl, rfl⟩ (fun i σ' H' _ ⟨_, _, e⟩ => by rw [e]; exact ha) (fun i x σ' H' hx hp => ?_) (fun σ' H' hp => ?_)
    · obtain ⟨c3, rfl, rfl⟩ := hp
      obtain ⟨p, hp, rfl⟩ := map_get hx
      have hlt := hl p (List.mem_of_getElem? hp)
      have et : MK.chosen (ps.take (i + 1)) fs = MK.chosen (ps.take i) fs * 2 + fs.getD p 0 := by
        rw [take_snoc hp]
        unfold MK.chosen
        rw [List.foldl_append]
        rfl
      rw [et]
      generalize MK.chosen (ps.take i) fs = m
      refine ⟨_, rfl, m, 2, rfl, rfl, .inr (by decide), _, rfl, _, rfl, b, nL fs, p, nV (fs.getD p 0), rfl, rfl, hb, atI_nat ?_, _, _, rfl, rfl, ⟨_, rfl, rfl⟩⟩
      rw [List.getElem?_map, List.getD_eq_getElem?_getD, List.getElem?_eq_getElem hlt]
      rfl
    · obtain ⟨c3, rfl, rfl⟩ := hp
      rw [List.length_map, List.take_length]
      exact ⟨_, rfl, k⟩
/-! firsts: the keys of a dict -/
def seenK (acc : List Nat) : List (Key × V) := acc.map fun x : Nat => ((Sum.inl (x : Int) : Key), V.bl true)
theorem put_seen (acc : List Nat) (x : Nat) : putK (seenK acc) (Sum.inl (x : Int)) (V.bl true) = seenK (MK.first1 acc x) := by
  have any : ((seenK acc).any fun kv => decide (kv.1 = Sum.inl (x : Int))) = decide (x ∈ acc) := by
    rw [Bool.eq_iff_iff, List.any_eq_true, decide_eq_true_iff]
    constructor
    · rintro ⟨kv, hm, e⟩
      obtain ⟨y, hy, rfl⟩ := List.mem_map.mp hm
      have e2 : (Sum.inl (y : Int) : Key) = Sum.inl (x : Int) := of_decide_eq_true e
      have e3 : (y : Int) = (x : Int) := Sum.inl.inj e2
      have e4 : y = x := by omega
      exact e4 ▸ hy
    · exact fun h => ⟨_, List.mem_map.mpr ⟨x, h, rfl⟩, decide_eq_true rfl⟩
  unfold putK MK.first1
  rw [any]
  by_cases h : x ∈ acc
  · rw [if_pos (decide_eq_true h), if_pos h]
    unfold seenK
    rw [List.map_map]
    refine List.map_congr_left fun y _ => ?_
    show (if (Sum.inl (y : Int) : Key) = Sum.inl (x : Int) then ((Sum.inl (y : Int) : Key), V.bl true) else (Sum.inl (y : Int), V.bl true)) = _
    split <;> rfl
  · rw [if_neg (fun z => h (of_decide_eq_true z)), if_neg h]
    unfold seenK
    rw [List.map_append]
    rfl
theorem first1_len (acc : List Nat) (x : Nat) : (MK.first1 acc x).length ≤ acc.length + 1 := by
  unfold MK.first1
  split
  · omega
  · rw [List.length_append]
    exact Nat.le_refl _
def spFirsts (K : PySem.W.Frag) : Sp := fun vs H Q _ => ∃ (a : Addr) (ns : List Nat), vs = [.ref a] ∧ SqT K H a (nL ns) ∧ ns.length ≤ 1000 ∧ ∀ p H', Same H H' → H p = none → BareT H' p (nL (MK.firstsL ns)) → Q (.ref p) H'
end
end L2.KK
namespace L2.KK
open PySem PySem.Spec PyProof.Rows C8
structure Ev (K : PySem.W.Frag) (mg : Str → Option Value) where
  Table : Addr
  Lot : Addr
  Puzzle : Addr
  BadText : Addr
  f_BadText : Addr
  PricedError : Addr
  k_Table : mg "Table" = some (.ref Table)
  c_Table : InsX K Table
  i_Table : InAt K Table "Table.__init__" s_Table_init
  m_Table_eq : MtAt K Table "__eq__" "Table.__eq__" s_Table_eq
  n_Table_places : NoAttr K Table "places"
  n_Table_prices : NoAttr K Table "prices"
  n_Table_least : NoAttr K Table "least"
  n_Table_most : NoAttr K Table "most"
  k_Lot : mg "Lot" = some (.ref Lot)
  c_Lot : InsX K Lot
  i_Lot : InAt K Lot "Lot.__init__" s_Lot_init
  m_Lot_eq : MtAt K Lot "__eq__" "Lot.__eq__" s_Lot_eq
  n_Lot_tables : NoAttr K Lot "tables"
  n_Lot_swaps : NoAttr K Lot "swaps"
  k_Puzzle : mg "Puzzle" = some (.ref Puzzle)
  c_Puzzle : InsX K Puzzle
  i_Puzzle : InAt K Puzzle "Puzzle.__init__" s_Puzzle_init
  m_Puzzle_eq : MtAt K Puzzle "__eq__" "Puzzle.__eq__" s_Puzzle_eq
  n_Puzzle_lot : NoAttr K Puzzle "lot"
  n_Puzzle_many : NoAttr K Puzzle "many"
  n_Puzzle_uses : NoAttr K Puzzle "uses"
  s_Table_Table : PySem.W.kitOne K (.ref Table) (.ref Table) = some true
  s_Lot_Lot : PySem.W.kitOne K (.ref Lot) (.ref Lot) = some true
  s_Puzzle_Puzzle : PySem.W.kitOne K (.ref Puzzle) (.ref Puzzle) = some true
  x_BadText : ExcC K BadText
  k_BadText : mg "BadText" = some (.ref BadText)
  o_BadText : OwnX K BadText f_BadText
  d_BadText : ∃ fd, FnP K "__init__" "BadText.__init__" s_BadText_init f_BadText fd
  n_BadText_line : PySem.W.findIn K (.ref BadText) "line" = some none
  k_PricedError : mg "PricedError" = some (.ref PricedError)
  b_PricedError : BaseX K PricedError
  e_BadText_BadText : PySem.W.exmOne K (.ref BadText) (.ref BadText) = some true
theorem sc_Table_init : FnScope ["self", "places", "prices", "price"] ["self", "places", "prices"] (defScope s_Table_init) := ⟨rfl, rfl, rfl, by decide +kernel, rfl, by decide +kernel, by decide +kernel⟩
theorem sc_Table_eq : FnScope ["self", "other"] ["self", "other"] (defScope s_Table_eq) := ⟨rfl, rfl, rfl, by decide +kernel, rfl, by decide +kernel, by decide +kernel⟩
theorem sc_swapped : FnScope ["table", "price"] ["table"] (defScope s_swapped) := ⟨rfl, rfl, rfl, by decide +kernel, rfl, by decide +kernel, by decide +kernel⟩
theorem sc_is_told : FnScope ["table"] ["table"] (defScope s_is_told) := ⟨rfl, rfl, rfl, by decide +kernel, rfl, by decide +kernel, by decide +kernel⟩
theorem sc_Lot_init : FnScope ["self", "tables", "at", "table"] ["self", "tables"] (defScope s_Lot_init) := ⟨rfl, rfl, rfl, by decide +kernel, rfl, by decide +kernel, by decide +kernel⟩
theorem bl_t {p : Prop} [Decidable p] (h : p) : V.bl (decide p) = V.bl true := congrArg V.bl (decide_eq_true h)
theorem bl_f {p : Prop} [Decidable p] (h : ¬ p) : V.bl (decide p) = V.bl false := congrArg V.bl (decide_eq_false h)
theorem nbl_t {p : Prop} [Decidable p] (h : p) : V.bl (!decide p) = V.bl false := congrArg V.bl (by rw [decide_eq_true h]; rfl)
theorem nbl_f {p : Prop} [Decidable p] (h : ¬ p) : V.bl (!decide p) = V.bl true := congrArg V.bl (by rw [decide_eq_false h]; rfl)
/-! ### tables -/
def tabF (k : Nat) (tp : Addr) (ps : List (Option Nat)) : List (Str × V) := [("places", nV k), ("prices", .ref tp), ("least", pV (MK.lowL ps)), ("most", pV (MK.hiL ps))]
def TabAt (K : PySem.W.Frag) (C : Addr) (H : Hp) (a : Addr) (k : Nat) (ps : List (Option Nat)) : Prop := ∃ dx tp, H a = some (.ins C dx (tabF k tp ps)) ∧ SqT K H tp (ps.map pV)
theorem TabAt.grow {K : PySem.W.Frag} {C : Addr} {H H' : Hp} {a : Addr} {k : Nat} {ps : List (Option Nat)} (h : TabAt K C H a k ps) (e : Same H H') : TabAt K C H' a k ps := by
  obtain ⟨dx, tp, h1, h2⟩ := h
  exact ⟨dx, tp, e _ _ h1, same_seqT e h2⟩
section
variable {P : Program} {w : World} {K : PySem.W.Frag} {mg : Str → Option Value} {base : Heap}
def spTab (K : PySem.W.Frag) (C : Addr) : Sp := fun vs H Q _ => ∃ (x dx tp : Addr) (k : Nat) (ps : List (Option Nat)), vs = [.ref x, nV k, .ref tp] ∧ H x = some (.ins C dx []) ∧ SqT K H tp (ps.map pV) ∧ k ≤ 4 ∧ ps.length = 2 ^ k ∧
  (∀ p ∈ ps, ∀ m, p = some m → m ≤ 10 ^ 50) ∧ Q .non (upd H x (.ins C dx (tabF k tp ps)))
theorem c_Table (Z : Ev K mg) (T : Bl mg) (c_is_whole : Cal P w K mg base 1 "is_whole" spWhole []) (c_lowest : Cal P w K mg base 2 "lowest" (spFold K MK.lowL) []) (c_highest : Cal P w K mg base 1 "highest" (spFold K MK.hiL) []) : Mak P w K mg base 3 "Table" Z.Table (spTab K Z.Table) [] := by
  refine makOf Z.k_Table Z.i_Table sc_Table_init (fun _ _ _ _ _ _ us hl => match us, hl with | [_, _, _], _ => rfl) (fun vs H Q E h => ?_) (fun f cdv A outer s H vs Q E hr h => ?_)
  · obtain ⟨x, dx, tp, k, ps, rfl, _⟩ := h
    rfl
  · obtain ⟨x, dx, tp, k, ps, rfl, hx, hS, hk, hl, hm, q⟩ := h
    have nd := sc_Table_init.nd
    refine ⟨_, (pss_cons (ps_if (pt_not (pt_val (pe_c c_is_whole hr (by decide) (by rfl) (pa_cons (pv 1) (pa_cons pe_int (pa_cons (pe_gc (by rfl) T.g_PLACES) pa_nil))))))
        (pss_one ps_never)
        pss_nil)
      (pss_cons (ps_if (PW.pt (pw_or (pt_not (pt_val (pe_callB (crIsi K) (by rfl) T.b_isinstance (by decide +kernel) (pa_cons (pv 2) (pa_cons (pe_bltn (v := .ty "tuple") (u := .type "tuple") (by rfl) T.b_tuple (by decide +kernel) (by rfl)) pa_nil))))) (pw_or1 (pt_cmpR op_ne (pe_callB (crLen K) (by rfl) T.b_len (by decide +kernel) (pa_cons (pv 2) pa_nil)) (pe_op op_shlNN pe_int (pv 1)) (nomark _)))))
        (pss_one ps_never)
        pss_nil)
      (pss_cons (ps_for PassesOwn.never rfl (piTup K (pv 2)) (pg_name (i := 3) nd rfl (by first | exact Or.inl rfl | exact Or.inr rfl))
        (pss_one (ps_if (PW.pt (pw_and (pt_cmpR op_notN (pv 3) pe_non (nomark _)) (pw_and1 (pt_not (pt_val (pe_c c_is_whole hr (by decide) (by rfl) (pa_cons (pv 3) (pa_cons pe_int (pa_cons (pe_gc (by rfl) T.g_GREATEST) pa_nil)))))))))
          (pss_one ps_never)
          pss_nil)))
      (pss_cons (ps_fld (pv 0) (pv 1) (by rfl))
      (pss_cons (ps_fld (pv 0) (pv 2) (by rfl))
      (pss_cons (ps_fld (pv 0) (pe_c c_lowest hr (by decide) (by rfl) (pa_cons (pv 2) pa_nil)) (by rfl))
      (pss_one (ps_fld (pv 0) (pe_c c_highest hr (by decide) (by rfl) (pa_cons (pv 2) pa_nil)) (by rfl))))))))), ?_⟩
    refine ⟨_, rfl, (k : Int), 0, 4, rfl, true, bl_t ⟨by omega, by omega⟩, iteF ?_⟩
    refine ⟨_, rfl, _, _, .type "tuple", .type "tuple", true, rfl, .ty "tuple", tyx_seqT hS, kit_ty (by decide +kernel), true, rfl, iteF ?_⟩
    refine ⟨_, rfl, tp, _, rfl, .inr hS, _, rfl, 1, k, rfl, rfl, ⟨by omega, by decide⟩, rfl, false, nbl_t (by rw [List.length_map, hl]; show nV (2 ^ k) = nV (1 * 2 ^ k); rw [Nat.one_mul]), iteF ?_⟩
    refine ⟨_, rfl, tp, rfl, ⟨_, hS⟩, ?_⟩
    refine for_tup (xs := ps.map pV) (fun i σ' H' => ∃ c3 : Option V, σ' = [some (.ref x), some (nV k), some (.ref tp), c3] ∧ H' = H) ⟨none, rfl, rfl⟩ (fun i σ' H' _ ⟨_, _, e⟩ => by rw [e]; exact hS) (fun i y σ' H' hy hp => ?_) (fun σ' H' hp => ?_)
    · obtain ⟨c3, rfl, rfl⟩ := hp
      obtain ⟨p, hp, rfl⟩ := map_get hy
      have hb := hm p (List.mem_of_getElem? hp)
      refine ⟨_, rfl, rfl, _, rfl, ?_⟩
      cases p with
      | none => exact ite2 (fun h => absurd h notn_none) (fun _ => ⟨_, rfl, rfl⟩)
      | some m =>
        have := hb m rfl
        exact ite2 (fun _ => ⟨_, rfl, (m : Int), 0, 10 ^ 50, rfl, true, bl_t ⟨by omega, by omega⟩, iteF ⟨_, rfl, rfl⟩⟩) (fun h => absurd notn_some h)
    · obtain ⟨c3, rfl, rfl⟩ := hp
      refine ⟨_, rfl, _, rfl, x, Z.Table, dx, _, rfl, hx, Z.c_Table.c, Z.n_Table_places, by decide, ?_⟩
      refine ⟨_, rfl, _, rfl, x, Z.Table, dx, _, rfl, upd_same, Z.c_Table.c, Z.n_Table_prices, by show 1 < 1000; decide, ?_⟩
      rw [upd_upd]
      refine ⟨_, rfl, tp, ps, rfl, kp_seqT kp_upd hx hS, _, rfl, x, Z.Table, dx, _, rfl, upd_same, Z.c_Table.c, Z.n_Table_least, by show 2 < 1000; decide, ?_⟩
      rw [upd_upd]
      refine ⟨_, rfl, tp, ps, rfl, kp_seqT kp_upd hx hS, _, rfl, x, Z.Table, dx, _, rfl, upd_same, Z.c_Table.c, Z.n_Table_most, by show 3 < 1000; decide, ?_⟩
      rw [upd_upd]
      exact q
def spTabEq (K : PySem.W.Frag) (C : Addr) : Sp := fun vs H Q _ => ∃ (a b : Addr) (k k' : Nat) (ps ps' : List (Option Nat)), vs = [.ref a, .ref b] ∧ TabAt K C H a k ps ∧ TabAt K C H b k' ps' ∧ ∀ r : Bool, (r = true ↔ k = k' ∧ ps = ps') → Q (.bl r) H
theorem c_Table_eq (Z : Ev K mg) (T : Bl mg) : Met P w K mg base 1 Z.Table "__eq__" (spTabEq K Z.Table) [] := by
  refine metOf Z.c_Table.c Z.m_Table_eq sc_Table_eq (fun _ _ _ _ _ _ us hl => match us, hl with | [_, _], _ => rfl) (fun vs H Q E h => ?_) (fun f cdv A outer s H vs Q E hr h => ?_)
  · obtain ⟨a, b, k, k', ps, ps', rfl, _⟩ := h
    rfl
  · obtain ⟨a, b, k, k', ps, ps', rfl, ⟨dx, tp, ha, hS⟩, ⟨dx', tp', hb, hS'⟩, q⟩ := h
    have hu := hr.units
    refine ⟨_, (pss_one (ps_ret (pe_and (pe_callB (crIsi K) (by rfl) T.b_isinstance (by decide +kernel) (pa_cons (pv 1) (pa_cons (pe_glob (v := .ref Z.Table) (by rfl) Z.k_Table (by rfl)) pa_nil))) (pe_and (pe_cmpR op_eq (peFld K (pv 0)) (peFld K (pv 1)) (nomark _)) (pe_one (pe_cmpR (eqD K hu) (peFld K (pv 0)) (peFld K (pv 1)) (nomark _))))))), ?_⟩
    refine ⟨_, rfl, _, _, _, _, true, rfl, .own Z.Table, Z.c_Table.ty hb, Z.s_Table_Table, true, rfl, iteT ?_⟩
    refine ⟨_, rfl, a, Z.Table, dx, _, _, rfl, ha, Z.c_Table.c, Z.n_Table_places, rfl, _, rfl, b, Z.Table, dx', _, _, rfl, hb, Z.c_Table.c, Z.n_Table_places, rfl, rfl, _, rfl, ite2 (fun h => ?_) (fun h => ?_)⟩
    · have ek : k = k' := by
        have := of_decide_eq_true h
        injection this with e
        omega
      refine ⟨_, rfl, a, Z.Table, dx, _, _, rfl, ha, Z.c_Table.c, Z.n_Table_prices, rfl, _, rfl, b, Z.Table, dx', _, _, rfl, hb, Z.c_Table.c, Z.n_Table_prices, rfl, ?_⟩
      refine eqd_pln (.tup hS (dp_prices ps)) (.tup hS' (dp_prices ps')) (pln_tup fun y hy => ?_) (pln_tup fun y hy => ?_) (Nat.le_trans (depth_tup (n := 0) fun y hy => ?_) (by decide)) (Nat.le_trans (depth_tup (n := 0) fun y hy => ?_) (by decide)) fun r hr => ?_
      · obtain ⟨p, _, rfl⟩ := List.mem_map.mp hy; exact pD_pln p
      · obtain ⟨p, _, rfl⟩ := List.mem_map.mp hy; exact pD_pln p
      · obtain ⟨p, _, rfl⟩ := List.mem_map.mp hy; exact pD_depth p
      · obtain ⟨p, _, rfl⟩ := List.mem_map.mp hy; exact pD_depth p
      · exact q r ⟨fun h => ⟨ek, pDs_inj (PyData.tuple.inj (hr.mp h))⟩, fun h => hr.mpr (by rw [h.2])⟩
    · refine q false ⟨fun h => (by cases h), fun h2 => ?_⟩
      exact absurd (decide_eq_true (by rw [h2.1])) h
def spSwapped (K : PySem.W.Frag) (C : Addr) : Sp := fun vs H Q _ => ∃ (a : Addr) (k : Nat) (ps : List (Option Nat)), vs = [.ref a] ∧ TabAt K C H a k ps ∧ k ≤ 4 ∧ ps.length = 2 ^ k ∧ (∀ p ∈ ps, ∀ m, p = some m → m ≤ 10 ^ 50) ∧ ∀ p H', Same H H' → H p = none → TabAt K C H' p k ps.reverse → Q (.ref p) H'
theorem c_swapped (D : FnAt K mg "swapped" s_swapped) (Z : Ev K mg) (T : Bl mg) (c_Table : Mak P w K mg base 3 "Table" Z.Table (spTab K Z.Table) []) : Cal P w K mg base 5 "swapped" (spSwapped K Z.Table) [] := by
  refine calOf D sc_swapped (fun _ _ _ _ _ _ us hl => match us, hl with | [_], _ => rfl) (fun vs H Q E h => ?_) (fun f cdv A outer s H vs Q E hr h => ?_)
  · obtain ⟨a, k, ps, rfl, _⟩ := h
    rfl
  · obtain ⟨a, k, ps, rfl, ⟨dx, tp, ha, hS⟩, hk, hl, hm, q⟩ := h
    have nd := sc_swapped.nd
    refine ⟨_, (pss_one (ps_ret (pe_mk c_Table hr (by decide) (by rfl) (pa_cons (peFld K (pv 0)) (pa_cons (pe_callTy (crTup K) (by rfl) T.b_tuple (by decide +kernel) (pa_cons (pe_lc (own := [("price", 1)]) (g := gName 1) (tt := tYes) rfl nd (RT.pi_revA (by rfl) T.b_reversed (peFld K (pv 0))) (blkOk_by (N := ["table", "price"]) (sc := defScope s_swapped) (own := [("price", 1)]) (by decide +kernel)) (fun _ _ _ _ _ => (pg_name (i := 1) nd rfl (by first | exact Or.inl rfl | exact Or.inr rfl))) (fun _ _ _ _ _ => pts_nil) (fun _ _ _ _ _ => (pv 1))) pa_nil)) pa_nil))))), ?_⟩
    have h16 : 2 ^ k ≤ 2 ^ 4 := Nat.pow_le_pow_right (by decide) hk
    refine ⟨_, rfl, a, Z.Table, dx, _, _, rfl, ha, Z.c_Table.c, Z.n_Table_places, rfl, ?_⟩
    refine ⟨_, rfl, a, Z.Table, dx, _, _, rfl, ha, Z.c_Table.c, Z.n_Table_prices, rfl, tp, _, rfl, .inr ⟨hS, fun D hD => lc_revT hS (sel := fun _ => true) (P := fun i y _ => y = pV (ps.getD (ps.length - 1 - i) none)) ⟨fun _ _ _ _ _ h => h, fun i H' _ _ R r => r H' (Same.refl H'), fun i H' hi _ _ R r => ?_⟩ hD (lt_line (by rw [List.length_map]; omega)) (fun H1 ys sm hd _ pr => ?_)⟩⟩
    · rw [List.length_map] at hi
      refine ⟨_, rfl, r _ H' (Same.refl H') ?_⟩
      rw [List.length_map, map_getD none (by omega)]
    · rw [filter_yes, List.length_map] at pr
      have ey : ys = ps.reverse.map pV := by
        rw [paired_map_eq pr]
        apply List.ext_getElem
        · rw [List.length_map, List.length_range, List.length_map, List.length_reverse]
        · intro i h1 h2
          rw [List.getElem_map, List.getElem_range, List.getElem_map, List.getElem_reverse, List.getD_eq_getElem?_getD, List.getElem?_eq_getElem]
          rfl
      rw [ey] at hd
      refine ⟨D, _, rfl, .inl ⟨SqL.of hd, fun l hl2 => ?_⟩⟩
      have sm1 := sm.trans (same_new (o := .tup (ps.reverse.map pV)) hl2)
      intro x dx2 hx hdx ne
      have sm2 := sm1.trans (same_new (o := .own x) hdx)
      have hx2 : (upd (upd H1 l (.tup (ps.reverse.map pV))) dx2 (.own x)) x = none := by rw [upd_ne ne.symm]; exact hx
      have sT : SqT K (upd (upd H1 l (.tup (ps.reverse.map pV))) dx2 (.own x)) l (ps.reverse.map pV) := .inl (.inl (same_new hdx _ _ upd_same))
      refine ⟨x, dx2, l, k, ps.reverse, rfl, upd_same, same_seqT (same_new hx2) sT, hk, by rw [List.length_reverse, hl], fun p hp => hm p (List.mem_reverse.mp hp), rfl, ?_⟩
      rw [upd_upd]
      exact q x _ (sm2.trans (same_new hx2)) (sm2.free hx2) ⟨dx2, l, upd_same, same_seqT (same_new hx2) sT⟩
def spTold (K : PySem.W.Frag) (C : Addr) : Sp := fun vs H Q _ => ∃ (a : Addr) (k : Nat) (ps : List (Option Nat)), vs = [.ref a] ∧ TabAt K C H a k ps ∧ 1 ≤ k ∧ (∃ p ∈ ps, p.isSome = true) ∧ (∀ p ∈ ps, ∀ m, p = some m → m ≤ 1000) ∧ Q (.bl true) H
theorem c_is_told (D : FnAt K mg "is_told" s_is_told) (Z : Ev K mg) (T : Bl mg) : Cal P w K mg base 1 "is_told" (spTold K Z.Table) [] := by
  refine calOf D sc_is_told (fun _ _ _ _ _ _ us hl => match us, hl with | [_], _ => rfl) (fun vs H Q E h => ?_) (fun f cdv A outer s H vs Q E hr h => ?_)
  · obtain ⟨a, k, ps, rfl, _⟩ := h
    rfl
  · obtain ⟨a, k, ps, rfl, ⟨dx, tp, ha, hS⟩, hk, he, hm, q⟩ := h
    refine ⟨_, (pss_cons (ps_if (PW.pt (pw_or (pt_not (pt_val (pe_callB (crIsi K) (by rfl) T.b_isinstance (by decide +kernel) (pa_cons (pv 0) (pa_cons (pe_glob (v := .ref Z.Table) (by rfl) Z.k_Table (by rfl)) pa_nil))))) (pw_or (pt_cmpR op_eq (peFld K (pv 0)) pe_int (nomark _)) (pw_or1 (pt_cmpR op_isN (peFld K (pv 0)) pe_non (nomark _))))))
        (pss_one (ps_ret pe_bl))
        pss_nil)
      (pss_one (ps_ret (pe_cmpR op_le (peFld K (pv 0)) (pe_gc (by rfl) T.g_DEAREST) (nomark _))))), ?_⟩
    obtain ⟨lo, elo⟩ := Option.isSome_iff_exists.mp (MK.lowL_some he)
    obtain ⟨hi, ehi⟩ := Option.isSome_iff_exists.mp (MK.hiL_some he)
    have hle := MK.hiL_le hm hi ehi
    refine ⟨_, rfl, _, _, _, _, true, rfl, .own Z.Table, Z.c_Table.ty ha, Z.s_Table_Table, true, rfl, iteF ?_⟩
    refine ⟨_, rfl, a, Z.Table, dx, _, _, rfl, ha, Z.c_Table.c, Z.n_Table_places, rfl, rfl, false, bl_f (fun z => ?_), iteF ?_⟩
    · injection z with e
      omega
    refine ⟨_, rfl, a, Z.Table, dx, _, _, rfl, ha, Z.c_Table.c, Z.n_Table_least, rfl, rfl, _, rfl, ?_⟩
    rw [elo]
    refine ite2 (fun h => absurd h isn_some) (fun _ => ?_)
    refine ⟨_, rfl, a, Z.Table, dx, _, _, rfl, ha, Z.c_Table.c, Z.n_Table_most, rfl, ?_⟩
    rw [ehi]
    refine ⟨hi, 1000, rfl, rfl, ?_⟩
    have e : decide ((hi : Int) ≤ 1000) = true := decide_eq_true (by omega)
    show Q (.bl (decide ((hi : Int) ≤ 1000))) H
    rw [e]
    exact q
theorem met_parts {k : Nat} {C : Addr} {m : Str} {sp : Sp} (c : Met P w K mg base k C m sp []) : ∃ (f : Addr) (fd : FuncData) (ps : List Str), Meth K C m f ∧ FnOk P w K mg base CX0 k f fd ps sp ∧ Binds K fd ps [] := by
  obtain ⟨f, fd, ps, ds, _, me, F, b, d⟩ := c.ex
  cases d
  exact ⟨f, fd, ps, me, F, b⟩
end
/-! ### lots -/
abbrev Tb := Nat × List (Option Nat)
def TbOk (t : Tb) : Prop := 1 ≤ t.1 ∧ t.1 ≤ 4 ∧ t.2.length = 2 ^ t.1 ∧ (∃ p ∈ t.2, p.isSome = true) ∧ ∀ p ∈ t.2, ∀ m, p = some m → m ≤ 1000
def TabR (K : PySem.W.Frag) (C : Addr) (H : Hp) (y : V) (t : Tb) : Prop := ∃ a, y = .ref a ∧ TabAt K C H a t.1 t.2
theorem TabR.grow {K : PySem.W.Frag} {C : Addr} {H H' : Hp} {y : V} {t : Tb} (h : TabR K C H y t) (e : Same H H') : TabR K C H' y t := by
  obtain ⟨a, h1, h2⟩ := h
  exact ⟨a, h1, h2.grow e⟩
theorem paired_at {α β : Type} {F : α → β → Prop} : ∀ {xs : List α} {ys : List β}, Paired F xs ys → xs.length = ys.length ∧ ∀ (i : Nat) x, xs[i]? = some x → ∃ y, ys[i]? = some y ∧ F x y
  | _, _, .nil => ⟨rfl, fun i x h => by cases h⟩
  | _, _, .cons r t => by
    obtain ⟨l, g⟩ := paired_at t
    refine ⟨by rw [List.length_cons, List.length_cons, l], fun i x h => ?_⟩
    cases i with
    | zero => cases h; exact ⟨_, rfl, r⟩
    | succ i => exact g i x h
theorem paired_bl : ∀ {ys : List V} {l : List Nat}, Paired (fun y (_ : Nat) => ∃ b : Bool, y = .bl b) ys l → ∃ bs : List Bool, ys = bs.map V.bl
  | _, _, .nil => ⟨[], rfl⟩
  | _, _, .cons ⟨b, e⟩ t => by
    obtain ⟨bs, h⟩ := paired_bl t
    exact ⟨b :: bs, by rw [List.map_cons, e, h]⟩
def lotF (tt : Addr) (b : Bool) : List (Str × V) := [("tables", .ref tt), ("swaps", .bl b)]
def LtAt (K : PySem.W.Frag) (CT CL : Addr) (H : Hp) (a : Addr) (tbs : List Tb) : Prop := ∃ dx tt b ys, H a = some (.ins CL dx (lotF tt b)) ∧ SqT K H tt ys ∧ Paired (TabR K CT H) ys tbs
theorem LtAt.grow {K : PySem.W.Frag} {CT CL : Addr} {H H' : Hp} {a : Addr} {tbs : List Tb} (h : LtAt K CT CL H a tbs) (e : Same H H') : LtAt K CT CL H' a tbs := by
  obtain ⟨dx, tt, b, ys, h1, h2, h3⟩ := h
  exact ⟨dx, tt, b, ys, e _ _ h1, same_seqT e h2, Paired.mapP h3 fun _ _ q => q.grow e⟩
section
variable {P : Program} {w : World} {K : PySem.W.Frag} {mg : Str → Option Value} {base : Heap}
def spLot (K : PySem.W.Frag) (CT CL : Addr) : Sp := fun vs H Q _ => ∃ (x dx tt : Addr) (ys : List V) (tbs : List Tb), vs = [.ref x, .ref tt] ∧ H x = some (.ins CL dx []) ∧ SqT K H tt ys ∧ Paired (TabR K CT H) ys tbs ∧ 1 ≤ tbs.length ∧ tbs.length ≤ 16 ∧ (∀ t ∈ tbs, TbOk t) ∧
  ∀ (b : Bool) H', Kp x H H' → H' x = some (.ins CL dx (lotF tt b)) → Q .non H'
theorem kp_tab {CT CL x dx : Addr} {fs : List (Str × V)} {H H' : Hp} {a : Addr} {k : Nat} {ps : List (Option Nat)} (k0 : Kp x H H') (hx : H x = some (.ins CL dx fs)) (ne : a ≠ x) (h : TabAt K CT H a k ps) : TabAt K CT H' a k ps := by
  obtain ⟨d, tp, h1, h2⟩ := h
  exact ⟨d, tp, k0 _ _ h1 ne, kp_seqT k0 hx h2⟩
theorem c_Lot (Z : Ev K mg) (T : Bl mg) (c_is_told : Cal P w K mg base 1 "is_told" (spTold K Z.Table) []) (c_swapped : Cal P w K mg base 5 "swapped" (spSwapped K Z.Table) []) (c_Table_eq : Met P w K mg base 1 Z.Table "__eq__" (spTabEq K Z.Table) []) :
    Mak P w K mg base 6 "Lot" Z.Lot (spLot K Z.Table Z.Lot) [] := by
  obtain ⟨f_Table_eq, fd_eq, ps_eq, me_Table_eq, F_Table_eq, b_Table_eq⟩ := met_parts c_Table_eq
  refine makOf Z.k_Lot Z.i_Lot sc_Lot_init (fun _ _ _ _ _ _ us hl => match us, hl with | [_, _], _ => rfl) (fun vs H Q E h => ?_) (fun f cdv A outer s H vs Q E hr h => ?_)
  · obtain ⟨x, dx, tt, ys, tbs, rfl, _⟩ := h
    rfl
  · obtain ⟨x, dx, tt, ys, tbs, rfl, hx, hS, pr, h1, h16, ok, q⟩ := h
    have nd := sc_Lot_init.nd
    have hu := hr.units
    obtain ⟨yl, ya⟩ := paired_at pr
    refine ⟨_, (pss_cons (ps_if (PW.pt (pw_or (pt_not (pt_val (pe_callB (crIsi K) (by rfl) T.b_isinstance (by decide +kernel) (pa_cons (pv 1) (pa_cons (pe_bltn (v := .ty "tuple") (u := .type "tuple") (by rfl) T.b_tuple (by decide +kernel) (by rfl)) pa_nil))))) (pw_or1 (pt_not (pt_chain op_le op_le pe_int (pe_callB (crLen K) (by rfl) T.b_len (by decide +kernel) (pa_cons (pv 1) pa_nil)) (pe_gc (by rfl) T.g_TABLES))))))
        (pss_one ps_never)
        pss_nil)
      (pss_cons (ps_for PassesOwn.never rfl (pi_range1 (by rfl) T.b_range (pa_cons (pe_callB (crLen K) (by rfl) T.b_len (by decide +kernel) (pa_cons (pv 1) pa_nil)) pa_nil)) (pg_name (i := 2) nd rfl (by first | exact Or.inl rfl | exact Or.inr rfl))
        (pss_one (ps_if (pt_not (pt_val (pe_c c_is_told hr (by decide) (by rfl) (pa_cons (pe_ix (ixT K) (pv 1) (pv 2) (fun _ _ => rfl)) pa_nil))))
          (pss_one ps_never)
          pss_nil)))
      (pss_cons (ps_fld (pv 0) (pv 1) (by rfl))
      (pss_one (ps_fld (pv 0) (pe_callB (crAll K) (by rfl) T.b_all (by decide +kernel) (pa_cons (pe_lc (own := [("table", 3)]) (g := gName 3) (tt := tYes) rfl nd (piTup K (pv 1)) (blkOk_by (N := ["self", "tables", "at", "table"]) (sc := defScope s_Lot_init) (own := [("table", 3)]) (by decide +kernel)) (fun _ _ _ _ _ => (pg_name (i := 3) nd rfl (by first | exact Or.inl rfl | exact Or.inr rfl))) (fun _ _ _ _ _ => pts_nil) (fun _ _ _ _ _ => (pe_cmpR (op_eqOwn F_Table_eq me_Table_eq b_Table_eq (hr.mono (by decide)) (units0 hu)) (pe_c c_swapped hr (by decide) (by rfl) (pa_cons (pv 3) pa_nil)) (pv 3) (nomark _)))) pa_nil)) (by rfl)))))), ?_⟩
    refine ⟨_, rfl, _, _, .type "tuple", .type "tuple", true, rfl, .ty "tuple", tyx_seqT hS, kit_ty (by decide +kernel), true, rfl, iteF ?_⟩
    refine ⟨_, rfl, tt, _, rfl, .inr hS, 1, _, rfl, rfl, true, bl_t (by omega), iteT ⟨_, _, rfl, rfl, true, bl_t (by omega), iteF ?_⟩⟩
    refine ⟨_, rfl, tt, _, rfl, .inr hS, _, rfl, by omega, by omega, ?_⟩
    rw [Int.toNat_natCast]
    have tabne : ∀ {a : Addr} {k : Nat} {ps : List (Option Nat)}, TabAt K Z.Table H a k ps → a ≠ x := fun {a k ps} ⟨_, _, h, _⟩ z => by
      rw [z, hx] at h
      injection h with e
      injection e with _ _ e2
      cases e2
    refine for_range (lo := 0) (n := ys.length) (fun i σ' H' => ∃ c2 : Option V, σ' = [some (.ref x), some (.ref tt), c2, none] ∧ H' = H) ⟨none, rfl, rfl⟩ ?_ ?_
    · rintro i σ' H' hi ⟨c2, rfl, rfl⟩
      have hy : ys[i]? = some ys[i] := List.getElem?_eq_getElem hi
      obtain ⟨t, ht, a, ea, hT⟩ := ya i _ hy
      have o := ok t (List.mem_of_getElem? ht)
      refine ⟨_, rfl, _, rfl, tt, ys, (i : Int), ys[i], rfl, by rw [Int.zero_add], hS, atI_nat hy, a, t.1, t.2, by rw [ea]; rfl, hT, o.1, o.2.2.2.1, o.2.2.2.2, true, rfl, iteF ⟨_, rfl, rfl⟩⟩
    · rintro σ' H' ⟨c2, rfl, rfl⟩
      refine ⟨_, rfl, _, rfl, x, Z.Lot, dx, _, rfl, hx, Z.c_Lot.c, Z.n_Lot_tables, by decide, ?_⟩
      have kp1 : Kp x H' (upd H' x (.ins Z.Lot dx (putF "tables" (.ref tt) []))) := kp_upd
      have hS1 := kp_seqT kp1 hx hS
      refine ⟨_, rfl, tt, rfl, ⟨_, hS1⟩, fun D hD => lc_tupT hS1 (sel := fun _ => true) (P := fun i y _ => ∃ b : Bool, y = .bl b) ⟨fun _ _ _ _ _ h => h, fun i H2 _ _ R r => r H2 (Same.refl H2), fun i H2 hi _ sm R r => ?_⟩ hD (lt_line (by omega)) (fun H2 bs sm hd _ pb => ?_)⟩
      · have hy : ys[i]? = some ys[i] := List.getElem?_eq_getElem hi
        obtain ⟨t, ht, a, ea, hT⟩ := ya i _ hy
        have o := ok t (List.mem_of_getElem? ht)
        have eg : ys.getD i .non = .ref a := by rw [List.getD_eq_getElem?_getD, hy]; exact ea
        have hT2 := (kp_tab kp1 hx (tabne hT) hT).grow sm
        refine ⟨_, rfl, a, t.1, t.2, by rw [eg]; rfl, hT2, o.2.1, o.2.2.1, fun p hp m hm => Nat.le_trans (o.2.2.2.2 p hp m hm) (by decide), fun p H3 sm3 _ hT3 => ?_⟩
        have hT4 := hT2.grow sm3
        obtain ⟨d3, t3, e3, s3⟩ := id hT3
        obtain ⟨d4, t4, e4, s4⟩ := id hT4
        exact ⟨_, rfl, p, a, d3, d4, _, _, rfl, eg, e3, e4, p, a, _, _, _, _, rfl, hT3, hT4, fun b _ => ⟨b, rfl, r _ _ sm3 ⟨b, rfl⟩⟩⟩
      · rw [filter_yes] at pb
        obtain ⟨bl, rfl⟩ := paired_bl pb
        refine ⟨D, bl, rfl, SqL.of hd, _, rfl, x, Z.Lot, dx, _, rfl, sm _ _ upd_same, Z.c_Lot.c, Z.n_Lot_swaps, by show 1 < 1000; decide, ?_⟩
        exact q _ _ ((kp1.trans (Kp.of sm)).trans kp_upd) upd_same
end
end L2.KK
namespace L2.KK
open PySem PySem.Spec PyProof.Rows C8
theorem sc_Lot_eq : FnScope ["self", "other"] ["self", "other"] (defScope s_Lot_eq) := ⟨rfl, rfl, rfl, by decide +kernel, rfl, by decide +kernel, by decide +kernel⟩
theorem sc_is_use : FnScope ["lot", "many", "use", "at", "names", "times", "name"] ["lot", "many", "use"] (defScope s_is_use) := ⟨rfl, rfl, rfl, by decide +kernel, rfl, by decide +kernel, by decide +kernel⟩
theorem sc_Puzzle_init : FnScope ["self", "lot", "many", "uses", "spot"] ["self", "lot", "many", "uses"] (defScope s_Puzzle_init) := ⟨rfl, rfl, rfl, by decide +kernel, rfl, by decide +kernel, by decide +kernel⟩
/-! ### uses, puzzles, states -/
theorem TabAt.imm {K : PySem.W.Frag} {C : Addr} {H H' : Hp} {a : Addr} {k : Nat} {ps : List (Option Nat)} (h : TabAt K C H a k ps) (e : Imm H H') : TabAt K C H' a k ps := by
  obtain ⟨dx, tp, h1, h2⟩ := h
  exact ⟨dx, tp, e _ _ h1 (by show ¬ ("places" : Str) = "past"; decide), imm_seqT e h2⟩
theorem TabR.imm {K : PySem.W.Frag} {C : Addr} {H H' : Hp} {y : V} {t : Tb} (h : TabR K C H y t) (e : Imm H H') : TabR K C H' y t := by
  obtain ⟨a, h1, h2⟩ := h
  exact ⟨a, h1, h2.imm e⟩
theorem LtAt.imm {K : PySem.W.Frag} {CT CL : Addr} {H H' : Hp} {a : Addr} {tbs : List Tb} (h : LtAt K CT CL H a tbs) (e : Imm H H') : LtAt K CT CL H' a tbs := by
  obtain ⟨dx, tt, b, ys, h1, h2, h3⟩ := h
  exact ⟨dx, tt, b, ys, e _ _ h1 (by show ¬ ("tables" : Str) = "past"; decide), imm_seqT e h2, Paired.mapP h3 fun _ _ q => q.imm e⟩
/-- a use, its parts whole numbers -/
def UiR (K : PySem.W.Frag) (H : Hp) (y : V) (u : Ui) : Prop := ∃ r nr, y = .ref r ∧ SqT K H r [.int u.at_, .ref nr, .int u.times] ∧ SqT K H nr (u.names.map V.int)
theorem UiR.imm {K : PySem.W.Frag} {H H' : Hp} {y : V} {u : Ui} (h : UiR K H y u) (e : Imm H H') : UiR K H' y u := by
  obtain ⟨r, nr, h1, h2, h3⟩ := h
  exact ⟨r, nr, h1, imm_seqT e h2, imm_seqT e h3⟩
def pzF (l : Addr) (many : Nat) (tu : Addr) : List (Str × V) := [("lot", .ref l), ("many", nV many), ("uses", .ref tu)]
def PzAt (K : PySem.W.Frag) (CT CL CP : Addr) (H : Hp) (a : Addr) (tbs : List Tb) (many : Nat) (us : List Ui) : Prop := ∃ dx l tu ys, H a = some (.ins CP dx (pzF l many tu)) ∧ LtAt K CT CL H l tbs ∧ SqT K H tu ys ∧ Paired (UiR K H) ys us
theorem int_at {xs : List Int} {i : Nat} (h : i < xs.length) : (xs.map V.int)[i]? = some (.int (xs.getD i 0)) := by
  rw [List.getElem?_map, List.getD_eq_getElem?_getD, List.getElem?_eq_getElem h]
  rfl
theorem int_getD {xs : List Int} {i : Nat} (h : i < xs.length) : (xs.map V.int).getD i .non = .int (xs.getD i 0) := by
  rw [List.getD_eq_getElem?_getD, int_at h]
  rfl
section
variable {P : Program} {w : World} {K : PySem.W.Frag} {mg : Str → Option Value} {base : Heap}
def spToldB (K : PySem.W.Frag) (C : Addr) : Sp := fun vs H Q _ => ∃ (a : Addr) (t : Tb), vs = [.ref a] ∧ TabAt K C H a t.1 t.2 ∧ Q (.bl (toldB t)) H
theorem c_told_b (D : FnAt K mg "is_told" s_is_told) (Z : Ev K mg) (T : Bl mg) : Cal P w K mg base 1 "is_told" (spToldB K Z.Table) [] := by
  refine calOf D sc_is_told (fun _ _ _ _ _ _ us hl => match us, hl with | [_], _ => rfl) (fun vs H Q E h => ?_) (fun f cdv A outer s H vs Q E hr h => ?_)
  · obtain ⟨a, t, rfl, _⟩ := h
    rfl
  · obtain ⟨a, ⟨k, ps⟩, rfl, ⟨dx, tp, ha, hS⟩, q⟩ := h
    refine ⟨_, (pss_cons (ps_if (PW.pt (pw_or (pt_not (pt_val (pe_callB (crIsi K) (by rfl) T.b_isinstance (by decide +kernel) (pa_cons (pv 0) (pa_cons (pe_glob (v := .ref Z.Table) (by rfl) Z.k_Table (by rfl)) pa_nil))))) (pw_or (pt_cmpR op_eq (peFld K (pv 0)) pe_int (nomark _)) (pw_or1 (pt_cmpR op_isN (peFld K (pv 0)) pe_non (nomark _))))))
        (pss_one (ps_ret pe_bl))
        pss_nil)
      (pss_one (ps_ret (pe_cmpR op_le (peFld K (pv 0)) (pe_gc (by rfl) T.g_DEAREST) (nomark _))))), ?_⟩
    have e : toldB (k, ps) = (decide (k ≠ 0) && ((MK.lowL ps).isSome && (MK.hiL ps).all fun h => decide (h ≤ 1000))) := rfl
    rw [e] at q
    refine ⟨_, rfl, _, _, _, _, true, rfl, .own Z.Table, Z.c_Table.ty ha, Z.s_Table_Table, true, rfl, iteF ?_⟩
    refine ⟨_, rfl, a, Z.Table, dx, _, _, rfl, ha, Z.c_Table.c, Z.n_Table_places, rfl, rfl, _, rfl, ite2 (fun h => ?_) (fun h => ?_)⟩
    · have k0 : k = 0 := by
        have := of_decide_eq_true h
        injection this with e
        omega
      rw [decide_eq_false (fun z => z k0)] at q
      exact q
    · have k0 : k ≠ 0 := fun z => h (decide_eq_true (by rw [z]; rfl))
      rw [decide_eq_true k0] at q
      refine ⟨_, rfl, a, Z.Table, dx, _, _, rfl, ha, Z.c_Table.c, Z.n_Table_least, rfl, rfl, _, rfl, ?_⟩
      cases el : MK.lowL ps with
      | none =>
        rw [el] at q
        exact ite2 (fun _ => q) (fun h => absurd isn_none h)
      | some lo =>
        rw [el] at q
        refine ite2 (fun h => absurd h isn_some) (fun _ => ?_)
        obtain ⟨hi, ehi⟩ := Option.isSome_iff_exists.mp (MK.hiL_some (lowL_some_iff.mp (by rw [el]; rfl)))
        rw [ehi] at q
        refine ⟨_, rfl, a, Z.Table, dx, _, _, rfl, ha, Z.c_Table.c, Z.n_Table_most, rfl, ?_⟩
        rw [ehi]
        refine ⟨hi, 1000, rfl, rfl, ?_⟩
        have e2 : decide ((hi : Int) ≤ 1000) = decide (hi ≤ 1000) := by
          rw [Bool.eq_iff_iff, decide_eq_true_iff, decide_eq_true_iff]
          omega
        show Q (.bl (decide ((hi : Int) ≤ 1000))) H
        rw [e2]
        exact q
def spLotEq (K : PySem.W.Frag) (CT CL : Addr) : Sp := fun vs H Q _ => ∃ (a b : Addr) (tbs tbs' : List Tb), vs = [.ref a, .ref b] ∧ LtAt K CT CL H a tbs ∧ LtAt K CT CL H b tbs' ∧ tbs.length = tbs'.length ∧ ∀ r : Bool, (tbs = tbs' → r = true) → Q (.bl r) H
theorem c_Lot_eq (Z : Ev K mg) (T : Bl mg) (c_Table_eq : Met P w K mg base 1 Z.Table "__eq__" (spTabEq K Z.Table) []) : Met P w K mg base 3 Z.Lot "__eq__" (spLotEq K Z.Table Z.Lot) [] := by
  obtain ⟨f_Table_eq, fd_eq, ps_eq, me_Table_eq, F_Table_eq, b_Table_eq⟩ := met_parts c_Table_eq
  refine metOf Z.c_Lot.c Z.m_Lot_eq sc_Lot_eq (fun _ _ _ _ _ _ us hl => match us, hl with | [_, _], _ => rfl) (fun vs H Q E h => ?_) (fun f cdv A outer s H vs Q E hr h => ?_)
  · obtain ⟨a, b, tbs, tbs', rfl, _⟩ := h
    rfl
  · obtain ⟨a, b, tbs, tbs', rfl, ⟨dx, tt, sb, ys, ha, hS, pr⟩, ⟨dx', tt', sb', ys', hb, hS', pr'⟩, hl, q⟩ := h
    have hu := hr.units
    obtain ⟨yl, ya⟩ := paired_at pr
    obtain ⟨yl', ya'⟩ := paired_at pr'
    refine ⟨_, (pss_one (ps_ret (pe_and (pe_callB (crIsi K) (by rfl) T.b_isinstance (by decide +kernel) (pa_cons (pv 1) (pa_cons (pe_glob (v := .ref Z.Lot) (by rfl) Z.k_Lot (by rfl)) pa_nil))) (pe_one (pe_cmpR (op_eqTI F_Table_eq me_Table_eq b_Table_eq (hr.mono (by decide))) (peFld K (pv 0)) (peFld K (pv 1)) (nomark _)))))), ?_⟩
    refine ⟨_, rfl, _, _, _, _, true, rfl, .own Z.Lot, Z.c_Lot.ty hb, Z.s_Lot_Lot, true, rfl, iteT ?_⟩
    refine ⟨_, rfl, a, Z.Lot, dx, _, _, rfl, ha, Z.c_Lot.c, Z.n_Lot_tables, rfl, _, rfl, b, Z.Lot, dx', _, _, rfl, hb, Z.c_Lot.c, Z.n_Lot_tables, rfl, ?_⟩
    refine ⟨tt, tt', ys, ys', fun i => decide (ys[i]? = ys'[i]? ∨ tbs[i]? = tbs'[i]?), rfl, rfl, hS, hS', by omega, fun i hi => ?_, fun r hr => q r fun e => hr.mpr fun i _ => decide_eq_true (.inr (by rw [e]))⟩
    have hy : ys[i]? = some ys[i] := List.getElem?_eq_getElem hi
    have hy' : ys'[i]? = some (ys'[i]'(by omega)) := List.getElem?_eq_getElem (by omega)
    obtain ⟨t, ht, p, ep, hT⟩ := ya i _ hy
    obtain ⟨t', ht', p', ep', hT'⟩ := ya' i _ hy'
    obtain ⟨d3, t3, e3, s3⟩ := id hT
    obtain ⟨d4, t4, e4, s4⟩ := id hT'
    refine ⟨p, p', d3, d4, _, _, by rw [hy, ep], by rw [hy', ep'], e3, e4, fun z => decide_eq_true (.inl (by rw [hy, hy', ep, ep', z])), fun ne => ?_⟩
    refine ⟨p, p', _, _, _, _, rfl, hT, hT', fun r hr => ⟨congrArg V.bl ?_, rfl⟩⟩
    rw [Bool.eq_iff_iff, decide_eq_true_iff, hr]
    constructor
    · intro h
      refine .inr ?_
      rw [ht, ht', show t = t' from Prod.ext h.1 h.2]
    · intro h
      rcases h with h | h
      · rw [hy, hy', ep, ep'] at h
        injection h with h
        injection h with h
        exact absurd h ne
      · rw [ht, ht'] at h
        injection h with h
        rw [h]
        exact ⟨rfl, rfl⟩
def spUseB (K : PySem.W.Frag) (CT CL : Addr) : Sp := fun vs H Q _ => ∃ (l r : Addr) (many : Nat) (tbs : List Tb) (u : Ui), vs = [.ref l, nV many, .ref r] ∧ LtAt K CT CL H l tbs ∧ 1 ≤ tbs.length ∧ UiR K H (.ref r) u ∧ u.names.length ≤ 1000 ∧ ∀ H', Same H H' → Q (.bl (useB tbs many u)) H'
theorem c_use_b (D : FnAt K mg "is_use" s_is_use) (Z : Ev K mg) (T : Bl mg) (c_is_whole : Cal P w K mg base 1 "is_whole" spWhole []) : Cal P w K mg base 2 "is_use" (spUseB K Z.Table Z.Lot) [] := by
  refine calOf D sc_is_use (fun _ _ _ _ _ _ us hl => match us, hl with | [_, _, _], _ => rfl) (fun vs H Q E h => ?_) (fun f cdv A outer s H vs Q E hr h => ?_)
  · obtain ⟨l, r, many, tbs, u, rfl, _⟩ := h
    rfl
  · obtain ⟨l, r, many, tbs, u, rfl, ⟨dx, tt, sb, ys, hl, hS, pr⟩, h1, ⟨r', nr, er, hr1, hn⟩, n4, q⟩ := h
    have nd := sc_is_use.nd
    cases er
    obtain ⟨yl, ya⟩ := paired_at pr
    have q0 := q H (Same.refl H)
    refine ⟨_, (pss_cons (ps_if (PW.pt (pw_or (pt_not (pt_val (pe_callB (crIsi K) (by rfl) T.b_isinstance (by decide +kernel) (pa_cons (pv 2) (pa_cons (pe_bltn (v := .ty "tuple") (u := .type "tuple") (by rfl) T.b_tuple (by decide +kernel) (by rfl)) pa_nil))))) (pw_or1 (pt_cmpR op_ne (pe_callB (crLen K) (by rfl) T.b_len (by decide +kernel) (pa_cons (pv 2) pa_nil)) pe_int (nomark _)))))
        (pss_one (ps_ret pe_bl))
        pss_nil)
      (pss_cons (ps_asg (pv 2) (pgTup K rfl (pgs_cons (pg_name (i := 3) nd rfl (by first | exact Or.inl rfl | exact Or.inr rfl)) (pgs_cons (pg_name (i := 4) nd rfl (by first | exact Or.inl rfl | exact Or.inr rfl)) (pgs_cons (pg_name (i := 5) nd rfl (by first | exact Or.inl rfl | exact Or.inr rfl)) pgs_nil)))))
      (pss_cons (ps_if (PW.pt (pw_or (pt_not (pt_val (pe_c c_is_whole hr (by decide) (by rfl) (pa_cons (pv 3) (pa_cons pe_int (pa_cons (pe_op op_subNN (pe_callB (crLen K) (by rfl) T.b_len (by decide +kernel) (pa_cons (peFld K (pv 0)) pa_nil)) pe_int) pa_nil)))))) (pw_or1 (pt_not (pt_val (pe_c c_is_whole hr (by decide) (by rfl) (pa_cons (pv 5) (pa_cons pe_int (pa_cons (pe_gc (by rfl) T.g_TIMES) pa_nil)))))))))
        (pss_one (ps_ret pe_bl))
        pss_nil)
      (pss_cons (ps_if (PW.pt (pw_or (pt_not (pt_val (pe_callB (crIsi K) (by rfl) T.b_isinstance (by decide +kernel) (pa_cons (pv 4) (pa_cons (pe_bltn (v := .ty "tuple") (u := .type "tuple") (by rfl) T.b_tuple (by decide +kernel) (by rfl)) pa_nil))))) (pw_or1 (pt_cmpR op_ne (pe_callB (crLen K) (by rfl) T.b_len (by decide +kernel) (pa_cons (pv 4) pa_nil)) (peFld K (pe_ix (ixT K) (peFld K (pv 0)) (pv 3) (fun _ _ => rfl))) (nomark _)))))
        (pss_one (ps_ret pe_bl))
        pss_nil)
      (pss_one (ps_ret (pe_callB (crAll K) (by rfl) T.b_all (by decide +kernel) (pa_cons (pe_lc (own := [("name", 6)]) (g := gName 6) (tt := tYes) rfl nd (piTup K (pv 4)) (blkOk_by (N := ["lot", "many", "use", "at", "names", "times", "name"]) (sc := defScope s_is_use) (own := [("name", 6)]) (by decide +kernel)) (fun _ _ _ _ _ => (pg_name (i := 6) nd rfl (by first | exact Or.inl rfl | exact Or.inr rfl))) (fun _ _ _ _ _ => pts_nil) (fun _ _ _ _ _ => (pe_c c_is_whole hr (by decide) (by rfl) (pa_cons (pv 6) (pa_cons pe_int (pa_cons (pe_op op_sub (pv 1) pe_int) pa_nil)))))) pa_nil)))))))), ?_⟩
    refine ⟨_, rfl, _, _, .type "tuple", .type "tuple", true, rfl, .ty "tuple", tyx_seqT hr1, kit_ty (by decide +kernel), true, rfl, iteF ?_⟩
    refine ⟨_, rfl, r, _, rfl, .inr hr1, rfl, false, nbl_t rfl, iteF ?_⟩
    refine ⟨_, rfl, r, _, rfl, hr1, rfl, ?_⟩
    refine ⟨_, _, rfl, _, _, rfl, _, _, rfl, rfl, ?_⟩
    have e : useB tbs many u = (decide (0 ≤ u.at_ ∧ u.at_ ≤ (tbs.length : Int) - 1) && (decide (1 ≤ u.times ∧ u.times ≤ 10 ^ 40) && (decide ((u.names.length : Int) = ((tbs.getD u.at_.toNat (0, [])).1 : Int)) && u.names.all fun n => decide (0 ≤ n ∧ n ≤ (many : Int) - 1)))) := rfl
    rw [e] at q0
    have lc : ((ys.length - 1 : Nat) : Int) = (tbs.length : Int) - 1 := by omega
    refine ⟨_, rfl, _, rfl, l, Z.Lot, dx, _, _, rfl, hl, Z.c_Lot.c, Z.n_Lot_tables, rfl, tt, ys, rfl, .inr hS, ys.length, 1, rfl, rfl, by omega, u.at_, 0, _, rfl, _, rfl, ite2 (fun hc => ?_) (fun hc => ?_)⟩
    · rw [lc, Bool.not_eq_true'] at hc
      rw [hc] at q0
      exact q0
    rw [lc, Bool.not_eq_true', Bool.not_eq_false] at hc
    rw [hc] at q0
    have hat := of_decide_eq_true hc
    refine ⟨_, rfl, u.times, 1, 10 ^ 40, rfl, _, rfl, ite2 (fun hc2 => ?_) (fun hc2 => ?_)⟩
    · rw [Bool.not_eq_true'] at hc2
      rw [hc2] at q0
      exact q0
    rw [Bool.not_eq_true', Bool.not_eq_false] at hc2
    rw [hc2] at q0
    obtain ⟨at_, hat_⟩ : ∃ n : Nat, u.at_ = (n : Int) := ⟨u.at_.toNat, by omega⟩
    have hlt : at_ < ys.length := by omega
    have hy : ys[at_]? = some ys[at_] := List.getElem?_eq_getElem hlt
    obtain ⟨t, ht, a, ea, dt, tp, hta, htp⟩ := ya _ _ hy
    have eg : (tbs.getD u.at_.toNat (0, [])).1 = t.1 := by
      rw [hat_, Int.toNat_natCast, List.getD_eq_getElem?_getD, ht]
      rfl
    refine ⟨_, rfl, _, _, .type "tuple", .type "tuple", true, rfl, .ty "tuple", tyx_seqT hn, kit_ty (by decide +kernel), true, rfl, iteF ?_⟩
    refine ⟨_, rfl, nr, _, rfl, .inr hn, _, rfl, l, Z.Lot, dx, _, _, rfl, hl, Z.c_Lot.c, Z.n_Lot_tables, rfl, _, rfl, tt, ys, u.at_, _, rfl, rfl, hS, by rw [hat_]; exact atI_nat hy, a, Z.Table, dt, _, _, ea, hta, Z.c_Table.c, Z.n_Table_places, rfl, rfl, _, rfl, ite2 (fun hc3 => ?_) (fun hc3 => ?_)⟩
    · have ne : ¬ ((u.names.length : Int) = (t.1 : Int)) := fun z => by
        rw [Bool.not_eq_true', decide_eq_false_iff_not, List.length_map] at hc3
        exact hc3 (congrArg V.int z)
      rw [eg, decide_eq_false ne] at q0
      exact q0
    have eqn : (u.names.length : Int) = (t.1 : Int) := by
      rw [Bool.not_eq_true', Bool.not_eq_false, decide_eq_true_eq, List.length_map] at hc3
      injection hc3
    refine ⟨_, rfl, nr, rfl, ⟨_, hn⟩, fun D hD => lc_tupT hn (sel := fun _ => true) (P := fun i y _ => y = .bl (decide (0 ≤ u.names.getD i 0 ∧ u.names.getD i 0 ≤ (many : Int) - 1))) ⟨fun _ _ _ _ _ h => h, fun i H2 _ _ R r => r H2 (Same.refl H2), fun i H2 hi _ sm R r => ?_⟩ hD (lt_line (by rw [List.length_map]; omega)) (fun H2 bs sm hd _ pb => ?_)⟩
    · rw [List.length_map] at hi
      exact ⟨_, rfl, _, rfl, (many : Int), 1, rfl, rfl, u.names.getD i 0, 0, (many : Int) - 1, by rw [int_getD hi]; rfl, r _ H2 (Same.refl H2) rfl⟩
    · rw [filter_yes, List.length_map] at pb
      have ey : bs = (u.names.map fun n => decide (0 ≤ n ∧ n ≤ (many : Int) - 1)).map V.bl := by
        rw [paired_map_eq pb]
        have z := congrArg (List.map fun n => V.bl (decide (0 ≤ n ∧ n ≤ (many : Int) - 1))) (map_range_get u.names 0)
        rw [List.map_map] at z
        rw [List.map_map]
        exact z
      rw [ey] at hd
      refine ⟨D, _, rfl, SqL.of hd, ?_⟩
      have q1 := q H2 sm
      rw [e, hc, hc2, eg, decide_eq_true eqn] at q1
      rw [List.all_map]
      exact q1
def spPz (K : PySem.W.Frag) (CT CL CP : Addr) : Sp := fun vs H Q _ => ∃ (x dx l tu : Addr) (many : Nat) (tbs : List Tb) (ys : List V) (us : List Ui), vs = [.ref x, .ref l, nV many, .ref tu] ∧ H x = some (.ins CP dx []) ∧ LtAt K CT CL H l tbs ∧ 1 ≤ tbs.length ∧ SqT K H tu ys ∧ Paired (UiR K H) ys us ∧
  many ≤ 400 ∧ us.length ≤ 1000 ∧ (∀ u ∈ us, useB tbs many u = true ∧ u.names.length ≤ 1000) ∧ ∀ H', Kp x H H' → H' x = some (.ins CP dx (pzF l many tu)) → Q .non H'
theorem c_Puzzle (Z : Ev K mg) (T : Bl mg) (c_is_whole : Cal P w K mg base 1 "is_whole" spWhole []) (c_is_use : Cal P w K mg base 2 "is_use" (spUseB K Z.Table Z.Lot) []) : Mak P w K mg base 3 "Puzzle" Z.Puzzle (spPz K Z.Table Z.Lot Z.Puzzle) [] := by
  refine makOf Z.k_Puzzle Z.i_Puzzle sc_Puzzle_init (fun _ _ _ _ _ _ us hl => match us, hl with | [_, _, _, _], _ => rfl) (fun vs H Q E h => ?_) (fun f cdv A outer s H vs Q E hr h => ?_)
  · obtain ⟨x, dx, l, tu, many, tbs, ys, us, rfl, _⟩ := h
    rfl
  · obtain ⟨x, dx, l, tu, many, tbs, ys, us, rfl, hx, hL, h1, hS, pr, hm, hu, ok, q⟩ := h
    have nd := sc_Puzzle_init.nd
    obtain ⟨yl, ya⟩ := paired_at pr
    refine ⟨_, (pss_cons (ps_if (pt_not (pt_val (pe_callB (crIsi K) (by rfl) T.b_isinstance (by decide +kernel) (pa_cons (pv 1) (pa_cons (pe_glob (v := .ref Z.Lot) (by rfl) Z.k_Lot (by rfl)) pa_nil)))))
        (pss_one ps_never)
        pss_nil)
      (pss_cons (ps_if (pt_not (pt_val (pe_c c_is_whole hr (by decide) (by rfl) (pa_cons (pv 2) (pa_cons pe_int (pa_cons (pe_gc (by rfl) T.g_NAMES) pa_nil))))))
        (pss_one ps_never)
        pss_nil)
      (pss_cons (ps_if (PW.pt (pw_or (pt_not (pt_val (pe_callB (crIsi K) (by rfl) T.b_isinstance (by decide +kernel) (pa_cons (pv 3) (pa_cons (pe_bltn (v := .ty "tuple") (u := .type "tuple") (by rfl) T.b_tuple (by decide +kernel) (by rfl)) pa_nil))))) (pw_or1 (pt_cmpR op_gt (pe_callB (crLen K) (by rfl) T.b_len (by decide +kernel) (pa_cons (pv 3) pa_nil)) (pe_gc (by rfl) T.g_USES) (nomark _)))))
        (pss_one ps_never)
        pss_nil)
      (pss_cons (ps_for PassesOwn.never rfl (pi_range1 (by rfl) T.b_range (pa_cons (pe_callB (crLen K) (by rfl) T.b_len (by decide +kernel) (pa_cons (pv 3) pa_nil)) pa_nil)) (pg_name (i := 4) nd rfl (by first | exact Or.inl rfl | exact Or.inr rfl))
        (pss_one (ps_if (pt_not (pt_val (pe_c c_is_use hr (by decide) (by rfl) (pa_cons (pv 1) (pa_cons (pv 2) (pa_cons (pe_ix (ixT K) (pv 3) (pv 4) (fun _ _ => rfl)) pa_nil))))))
          (pss_one ps_never)
          pss_nil)))
      (pss_cons (ps_fld (pv 0) (pv 1) (by rfl))
      (pss_cons (ps_fld (pv 0) (pv 2) (by rfl))
      (pss_one (ps_fld (pv 0) (pv 3) (by rfl))))))))), ?_⟩
    have hL0 := hL
    obtain ⟨dl, tt, sb, zs, hl, _, _⟩ := hL0
    refine ⟨_, rfl, _, _, _, _, true, rfl, .own Z.Lot, Z.c_Lot.ty hl, Z.s_Lot_Lot, true, rfl, iteF ?_⟩
    refine ⟨_, rfl, (many : Int), 0, 400, rfl, true, bl_t ⟨by omega, by omega⟩, iteF ?_⟩
    refine ⟨_, rfl, _, _, .type "tuple", .type "tuple", true, rfl, .ty "tuple", tyx_seqT hS, kit_ty (by decide +kernel), true, rfl, iteF ?_⟩
    refine ⟨_, rfl, tu, ys, rfl, .inr hS, _, _, rfl, rfl, false, bl_f (by omega), iteF ?_⟩
    refine ⟨_, rfl, tu, ys, rfl, .inr hS, _, rfl, by omega, by omega, ?_⟩
    rw [Int.toNat_natCast]
    refine for_range (lo := 0) (n := ys.length) (fun i σ' H' => ∃ c4 : Option V, σ' = [some (.ref x), some (.ref l), some (nV many), some (.ref tu), c4] ∧ Same H H') ⟨none, rfl, Same.refl H⟩ ?_ ?_
    · rintro i σ' H' hi ⟨c2, rfl, sm⟩
      have hy : ys[i]? = some ys[i] := List.getElem?_eq_getElem hi
      obtain ⟨u, hu2, hR⟩ := ya i _ hy
      have o := ok u (List.mem_of_getElem? hu2)
      have hR0 := hR.imm (Same.imm sm)
      obtain ⟨r, nr, er, _, _⟩ := id hR
      refine ⟨_, rfl, _, rfl, _, rfl, _, rfl, tu, ys, (i : Int), ys[i], rfl, by rw [Int.zero_add], same_seqT sm hS, atI_nat hy, l, r, many, tbs, u, by rw [er]; rfl, hL.grow sm, h1, by rw [← er]; exact hR0, o.2, fun H2 sm2 => ?_⟩
      rw [o.1]
      exact ⟨true, rfl, iteF ⟨_, rfl, sm.trans sm2⟩⟩
    · rintro σ' H' ⟨c2, rfl, sm⟩
      have hx' := sm _ _ hx
      refine ⟨_, rfl, _, rfl, x, Z.Puzzle, dx, _, rfl, hx', Z.c_Puzzle.c, Z.n_Puzzle_lot, by decide, ?_⟩
      refine ⟨_, rfl, _, rfl, x, Z.Puzzle, dx, _, rfl, upd_same, Z.c_Puzzle.c, Z.n_Puzzle_many, by show 1 < 1000; decide, ?_⟩
      rw [upd_upd]
      refine ⟨_, rfl, _, rfl, x, Z.Puzzle, dx, _, rfl, upd_same, Z.c_Puzzle.c, Z.n_Puzzle_uses, by show 2 < 1000; decide, ?_⟩
      rw [upd_upd]
      exact q _ ((Kp.of sm).trans kp_upd) upd_same
/-- __init__(self, x), x a text that is told in the message: the base's, then one field -/
def spX1S (K : PySem.W.Frag) (C : Addr) (fld : Str) : Sp := fun vs H Q _ => ∃ (a : Addr) (z : Str), vs = [.ref a, .str z] ∧ z.length ≤ 1000 ∧ H a = some (exo a C none) ∧ ∀ dx, H dx = none → dx ≠ a → Q .non (upd (upd H dx (exd dx [(fld, .str z)])) a (exo a C (some dx)))
theorem mkO_1S {C : Addr} {fld z : Str} {H : Hp} {Q : XK} (hz : z.length ≤ 1000) (k : ∀ (d : Addr) (H' : Hp), Same H H' → H d = none → H' d = some (.xd [(fld, .str z)]) → Q (.ref C) (some d) H') : ∀ a, H a = none → spX1S K C fld (.ref a :: ([.str z] ++ [])) (upd H a (exo a C none))
    (fun u H2 => u = .non ∧ ∃ (d : Addr) (fs : List (Str × V)), H2 a = some (exo a C (some d)) ∧ H2 d = some (exd d fs) ∧ H d = none ∧ Q (.ref C) (some d) (upd (del H2 a) d (.xd fs))) (fun _ _ _ => False) := fun a ha => by
  refine ⟨a, z, rfl, hz, upd_same, fun dx hd ne => ⟨rfl, dx, [(fld, .str z)], upd_same, by rw [upd_ne ne, upd_same], ?_, ?_⟩⟩
  · rw [upd_ne ne] at hd
    exact hd
  · rw [upd_ne ne] at hd
    refine k dx _ (fun b o e => ?_) hd upd_same
    have n1 : b ≠ dx := ne_of_none e hd
    have n2 : b ≠ a := ne_of_none e ha
    rw [upd_ne n1, del_ne n2, upd_ne n2, upd_ne n1, upd_ne n2]
    exact e
end
end L2.KK
namespace L2.KK
open PySem PySem.Spec PyProof.Rows C8 SX MT
theorem sc_BadText_init : FnScope ["self", "line"] ["self", "line"] (defScope s_BadText_init) := ⟨rfl, rfl, rfl, by decide +kernel, rfl, by decide +kernel, by decide +kernel⟩
theorem sc_is_number : FnScope ["text", "digits", "sign"] ["text"] (defScope s_is_number) := ⟨rfl, rfl, rfl, by decide +kernel, rfl, by decide +kernel, by decide +kernel⟩
theorem sc_law_low : FnScope ["prices", "best", "price"] ["prices"] (defScope s_law_low) := ⟨rfl, rfl, rfl, by decide +kernel, rfl, by decide +kernel, by decide +kernel⟩
theorem sc_law_cost : FnScope ["d"] ["d"] (defScope s_law_cost) := ⟨rfl, rfl, rfl, by decide +kernel, rfl, by decide +kernel, by decide +kernel⟩
theorem sc_law_opened : FnScope ["d", "prices"] ["d", "prices"] (defScope s_law_opened) := ⟨rfl, rfl, rfl, by decide +kernel, rfl, by decide +kernel, by decide +kernel⟩
theorem sc_law_loose : FnScope ["d", "places", "barred", "prices", "number", "bar"] ["d", "places", "barred"] (defScope s_law_loose) := ⟨rfl, rfl, rfl, by decide +kernel, rfl, by decide +kernel, by decide +kernel⟩
abbrev tV (t : List Nat) : V := .str (S t)
abbrev tL (ts : List (List Nat)) : List V := ts.map tV
theorem tL_snoc (ts : List (List Nat)) (t : List Nat) : tL (ts ++ [t]) = tL ts ++ [tV t] := List.map_append
theorem dec_t {a b : List Nat} : decide (tV a = tV b) = decide (a = b) := by
  rw [Bool.eq_iff_iff, decide_eq_true_iff, decide_eq_true_iff]
  exact ⟨fun h => S_inj (V.str.inj h), fun h => by rw [h]⟩
theorem log_ok {n : Int} (h : n.natAbs < 10 ^ 100) : n.natAbs.log2 < 1920 := by
  by_cases h0 : n.natAbs = 0
  · rw [h0]
    decide
  · exact (Nat.log2_lt h0).mpr (Nat.lt_trans h (by decide +kernel))
theorem tl_take_snoc {α : Type} {l : List α} {i : Nat} {x : α} (h : l[i]? = some x) : l.take (i + 1) = l.take i ++ [x] := by
  rw [List.take_add_one, h]
  rfl
theorem tl_get {α β : Type} {f : α → β} {l : List α} {i : Nat} {x : β} (h : (l.map f)[i]? = some x) : ∃ a, l[i]? = some a ∧ x = f a := by
  rw [List.getElem?_map] at h
  cases e : l[i]? with
  | none => rw [e] at h; cases h
  | some a => rw [e] at h; cases h; exact ⟨a, rfl, rfl⟩
theorem lt_lineT {n : Nat} (h : n ≤ 16777216) : n ≤ sizeLine := by rw [sizeLine_eq]; exact h
theorem digit_mem (c : Nat) : c ∈ (Str.ofString "0123456789").cps.toList ↔ 48 ≤ c ∧ c ≤ 57 := by
  have e : (Str.ofString "0123456789").cps.toList = (List.range 10).map (· + 48) := by decide
  rw [e, List.mem_map]
  constructor
  · rintro ⟨i, hi, rfl⟩
    have := List.mem_range.mp hi
    omega
  · rintro ⟨h1, h2⟩
    exact ⟨c - 48, List.mem_range.mpr (by omega), by omega⟩
/-- the answers sign by sign -/
theorem bl_signs {p : Nat → Bool} {t : List Nat} {bs : List V} (pb : Paired (fun y j => y = V.bl (p (t.getD j 0))) bs (List.range t.length)) : bs = (t.map p).map V.bl := by
  rw [paired_map_eq pb]
  have q := congrArg (List.map fun c => V.bl (p c)) (map_range_get t 0)
  rw [List.map_map] at q
  rw [List.map_map]
  exact q
theorem all_id {p : Nat → Bool} (t : List Nat) : (t.map p).all id = t.all p := by
  rw [List.all_map]
  rfl
def LTR (K : PySem.W.Frag) (H : Hp) (y : V) (t : Tb) : Prop := ∃ p q, y = .ref p ∧ SqT K H p [nV t.1, .ref q] ∧ SqT K H q (t.2.map pV)
theorem LTR.imm {K : PySem.W.Frag} {H H' : Hp} {y : V} {t : Tb} (h : LTR K H y t) (e : Imm H H') : LTR K H' y t := by
  obtain ⟨p, q, h1, h2, h3⟩ := h
  exact ⟨p, q, h1, imm_seqT e h2, imm_seqT e h3⟩
def LTs (K : PySem.W.Frag) (H : Hp) (tl : Addr) (tbs : List Tb) : Prop := ∃ ys, H tl = some (.lst ys) ∧ Paired (LTR K H) ys tbs
theorem LTs.imm {K : PySem.W.Frag} {H H' : Hp} {tl : Addr} {tbs : List Tb} (h : LTs K H tl tbs) (e : Imm H H') (k : ∀ o, H tl = some o → H' tl = some o) : LTs K H' tl tbs := by
  obtain ⟨ys, h1, h2⟩ := h
  exact ⟨ys, k _ h1, Paired.mapP h2 fun _ _ q => q.imm e⟩
theorem LTs.grow {K : PySem.W.Frag} {H H' : Hp} {tl : Addr} {tbs : List Tb} (h : LTs K H tl tbs) (e : Same H H') : LTs K H' tl tbs := h.imm (Same.imm e) fun _ q => e _ _ q
theorem LTs.kpd {K : PySem.W.Frag} {H H' : Hp} {d c tl : Addr} {tbs : List Tb} (h : LTs K H tl tbs) (n : tl ≠ d) (D : Dr H d c) (e : Kp d H H') : LTs K H' tl tbs := h.imm (Kp.imm e D) fun _ q => e _ _ q n
theorem ixN_lt {n j : Nat} (h : j < n) : ixN n (j : Int) = some j := by
  have e := atI_nat (xs := List.range n) (j := j) (v := j) (List.getElem?_range h)
  unfold atI at e
  rw [List.length_range] at e
  cases q : ixN n (j : Int) with
  | none => rw [q] at e; cases e
  | some m =>
    rw [q] at e
    have e2 : (List.range n)[m]? = some j := e
    obtain ⟨h1, h2⟩ := List.getElem?_eq_some_iff.mp e2
    rw [List.getElem_range] at h2
    rw [h2]
/-- what BadText leaves -/
def OverV (C : Addr) (fld : Str) (H : Hp) (E : XK) (v : V) : Prop := ∀ d H', Same H H' → H d = none → H' d = some (.xd [(fld, v)]) → E (.ref C) (some d) H'
theorem OverV.pass {C : Addr} {fld : Str} {H H' : Hp} {E : XK} {v : V} (h : OverV C fld H E v) (sm : Same H H') : OverV C fld H' E v := fun d H2 s2 hd e => h d H2 (sm.trans s2) (sm.free hd) e
theorem low_le : ∀ (ps : List (Option Nat)), (∀ p ∈ ps, ∀ m, p = some m → m ≤ 1000) → ∀ lo, MK.lowS ps = some lo → lo ≤ 1000 := by
  have key : ∀ (ps : List (Option Nat)) (a : Option Nat), (∀ m, a = some m → m ≤ 1000) → (∀ p ∈ ps, ∀ m, p = some m → m ≤ 1000) → ∀ m, ps.foldl MK.lowStep a = some m → m ≤ 1000 := by
    intro ps
    induction ps with
    | nil => exact fun a ha _ m hm => ha m hm
    | cons p ps ih =>
      intro a ha hp m hm
      rw [List.foldl_cons] at hm
      refine ih _ (fun x hx => ?_) (fun q hq => hp q (List.mem_cons_of_mem _ hq)) m hm
      have hp0 := hp p List.mem_cons_self
      cases a with
      | none => cases p with
        | none => cases hx
        | some y => exact hp0 x (by rw [← hx]; rfl)
      | some z => cases p with
        | none => exact ha x (by rw [← hx]; rfl)
        | some y =>
          have e : MK.lowStep (some z) (some y) = if y < z then some y else some z := rfl
          rw [e] at hx
          split at hx
          · cases hx; exact hp0 _ rfl
          · cases hx; exact ha _ rfl
  exact fun ps h lo e => key ps none (fun _ z => nomatch z) h lo e
/-- but for d and an object that was not there all stands -/
theorem kp_two {H H' : Hp} {d a : Addr} (h : ∀ b o, H b = some o → b ≠ d → b ≠ a → H' b = some o) (ha : H a = none) : Kp d H H' := fun b o e n => h b o e n (ne_of_none e ha)
section
variable {P : Program} {w : World} {K : PySem.W.Frag} {mg : Str → Option Value} {base : Heap}
theorem x_BadText (Z : Ev K mg) (T : Bl mg) : MakX P w K mg base 1 "BadText" Z.BadText (spX1 K Z.BadText "line") := by
  refine makXOf Z.k_BadText Z.o_BadText Z.d_BadText sc_BadText_init (fun _ _ _ _ _ _ us hl => match us, hl with | [_, _], _ => rfl) (fun vs H Q E h => ?_) (fun f cdv A outer s H vs Q E hr h => ?_)
  · obtain ⟨a, v, rfl, _⟩ := h
    rfl
  · obtain ⟨a, v, rfl, ha, q⟩ := h
    refine ⟨_, (pss_cons (ps_expr (pe_pinit Z.b_PricedError Z.k_PricedError (by rfl) (pa_cons (pv 0) (pa_cons pe_str pa_nil))))
      (pss_one (ps_ost (pv 0) (pv 1)))), ?_⟩
    exact ⟨_, rfl, a, Z.BadText, _, rfl, by decide, Z.o_BadText.oex, ha, _, rfl, _, rfl, a, Z.BadText, rfl, Z.o_BadText.oex, Z.n_BadText_line, .inl ⟨ha, fun dx hd ne => q dx hd ne⟩⟩
theorem take_one {t : List Nat} {c : Nat} : t.take 1 = [c] ↔ t.head? = some c := by
  cases t with
  | nil => simp
  | cons a r => simp
def spIsN : Sp := fun vs H Q _ => ∃ t : List Nat, vs = [tV t] ∧ t.length ≤ 1000000 ∧ ∀ H', Same H H' → Q (.bl (decide (numB t))) H'
theorem c_is_number (D : FnAt K mg "is_number" s_is_number) (T : Bl mg) : Cal P w K mg base 1 "is_number" spIsN [] := by
  refine calOf D sc_is_number (fun _ _ _ _ _ _ us hl => match us, hl with | [_], _ => rfl) (fun vs H Q E h => ?_) (fun f cdv A outer s H vs Q E hr h => ?_)
  · obtain ⟨t, rfl, _⟩ := h
    rfl
  · obtain ⟨t, rfl, hz, k⟩ := h
    have nd := sc_is_number.nd
    have hz' := lt_lineT (Nat.le_trans hz (by decide))
    refine ⟨_, (pss_cut (ps_set (i := 1) nd rfl (by first | exact Or.inl rfl | exact Or.inr rfl) (pe_ifExp (pt_cmpR op_eq (pe_slice sl_txt (pv 0) po_none (po_some pe_int)) pe_str (nomark _)) (pe_slice sl_txt (pv 0) (po_some pe_int) po_none) (pv 0)))
      (pss_cons (ps_if (PW.pt (pw_or (pt_cmpR op_eq (pv 1) pe_str (nomark _)) (pw_or (pt_cmpR op_gt (pe_callB call_len_str (by rfl) T.b_len (by decide +kernel) (pa_cons (pv 1) pa_nil)) (pe_gc (by rfl) T.g_FIGURES) (nomark _)) (pw_or1 (pt_not (pt_val (pe_callB (crAll K) (by rfl) T.b_all (by decide +kernel) (pa_cons (pe_lc (own := [("sign", 2)]) (g := gName 2) (tt := tYes) rfl nd (pi_str (pv 1)) (blkOk_by (N := ["text", "digits", "sign"]) (sc := defScope s_is_number) (own := [("sign", 2)]) (by decide +kernel)) (fun _ _ _ _ _ => (pg_name (i := 2) nd rfl (by first | exact Or.inl rfl | exact Or.inr rfl))) (fun _ _ _ _ _ => pts_nil) (fun _ _ _ _ _ => (pe_cmpR op_in_sign (pv 2) (pe_gc (by rfl) T.g_DIGITS) (by rfl)))) pa_nil))))))))
        (pss_one (ps_ret pe_bl))
        pss_nil)
      (pss_one (ps_ret (pe_or (pe_cmpR op_ne (pe_ix ix_str (pv 1) pe_int (fun _ _ => rfl)) pe_str (nomark _)) (pe_one (pe_cmpR op_eq (pv 0) pe_str (nomark _)))))))), ?_⟩
    have kb : ∀ b : Bool, (b = true ↔ numB t) → ∀ H', Same H H' → Q (.bl b) H' := fun b hb H' sm => by
      have k' := k H' sm
      have e : decide (numB t) = b := by rw [Bool.eq_iff_iff, decide_eq_true_iff, hb]
      rw [e] at k'
      exact k'
    have no : ¬ numB t → ∀ H', Same H H' → Q (.bl false) H' := fun n => kb false ⟨fun z => absurd z Bool.false_ne_true, fun z => absurd z n⟩
    refine ⟨fun σ' H' => H' = H ∧ σ' = [some (tV t), some (tV (digs t)), none], ?_, ?_⟩
    · refine ⟨_, rfl, 1, rfl, S t, rfl, by rw [S_len]; exact hz', rfl, _, rfl, ?_⟩
      rw [slice_to (by decide : (0 : Int) ≤ 1)]
      show if decide (tV (t.take 1) = tV [45]) = true then _ else _
      rw [dec_t]
      refine ite2 (fun h => ?_) (fun h => ?_)
      · refine ⟨_, rfl, 1, rfl, S t, rfl, by rw [S_len]; exact hz', ?_⟩
        rw [slice_from (by decide : (0 : Int) ≤ 1)]
        exact ⟨rfl, by unfold digs; rw [if_pos (of_decide_eq_true h)]; rfl⟩
      · exact ⟨_, rfl, rfl, by unfold digs; rw [if_neg fun q => h (decide_eq_true q)]; rfl⟩
    · rintro σ' H' ⟨rfl, rfl⟩
      have hl : (digs t).length ≤ t.length := by
        unfold digs
        split
        · rw [List.length_drop]; omega
        · exact Nat.le_refl _
      obtain ⟨d, hd⟩ : ∃ d, d = digs t := ⟨_, rfl⟩
      rw [← hd] at hl ⊢
      have hzd : (S d).length ≤ sizeLine := by rw [S_len]; exact lt_lineT (by omega)
      unfold numB at no kb
      rw [← hd] at no kb
      refine ⟨_, rfl, rfl, _, rfl, ?_⟩
      show if decide (tV d = tV []) = true then _ else _
      rw [dec_t]
      refine ite2 (fun h => no (fun q => q.1 (of_decide_eq_true h)) _ (Same.refl _)) (fun h1 => ?_)
      have d0 : d ≠ [] := fun e => h1 (decide_eq_true e)
      refine ⟨_, rfl, S d, rfl, hzd, _, 100, rfl, rfl, _, rfl, ?_⟩
      rw [S_len]
      refine ite2 (fun h => no (fun q => absurd (of_decide_eq_true h) (by have := q.2.1; omega)) _ (Same.refl _)) (fun h2 => ?_)
      have d100 : d.length ≤ 100 := Classical.byContradiction fun e => h2 (decide_eq_true (by omega))
      refine ⟨_, rfl, S d, rfl, fun D hD => lc_strT (sel := fun _ => true) (P := fun i y _ => y = V.bl (decide (d.getD i 0 ∈ (Str.ofString "0123456789").cps.toList))) ⟨fun _ _ _ _ _ h => h, fun i H2 _ _ R r => r H2 (Same.refl H2), fun i H2 hi _ _ R r => ⟨_, rfl, d.getD i 0, _, rfl, rfl, r _ H2 (Same.refl H2) rfl⟩⟩ hD (lt_lineT (by omega)) (fun H2 bs sm hb _ pb => ?_)⟩
      rw [filter_yes] at pb
      rw [bl_signs (p := fun c => decide (c ∈ (Str.ofString "0123456789").cps.toList)) pb] at hb
      refine ⟨D, _, rfl, SqL.of hb, _, rfl, ?_⟩
      rw [all_id]
      have e : (d.all fun c => decide (c ∈ (Str.ofString "0123456789").cps.toList)) = decide (∀ c ∈ d, 48 ≤ c ∧ c ≤ 57) := by
        rw [Bool.eq_iff_iff, decide_eq_true_iff, List.all_eq_true]
        constructor
        · exact fun h c hc => (digit_mem c).mp (of_decide_eq_true (h c hc))
        · exact fun h c hc => decide_eq_true ((digit_mem c).mpr (h c hc))
      rw [e]
      refine ite2 (fun h => no (fun q => ?_) H2 sm) (fun h3 => ?_)
      · rw [decide_eq_true q.2.2.1] at h
        cases h
      · have d3 : ∀ c ∈ d, 48 ≤ c ∧ c ≤ 57 := Classical.byContradiction fun e => h3 (by rw [decide_eq_false e]; rfl)
        obtain ⟨c, r, rfl⟩ : ∃ c r, d = c :: r := by
          cases d with
          | nil => exact absurd rfl d0
          | cons c r => exact ⟨c, r, rfl⟩
        refine ⟨_, rfl, S (c :: r), 0, c, rfl, rfl, hzd, (show atI (c :: r) 0 = some c from atI_nat (j := 0) rfl), rfl, _, rfl, ?_⟩
        show if (!decide (tV [c] = tV [48])) = true then _ else _
        rw [dec_t]
        have fin : ∀ b : Bool, (b = true ↔ c ≠ 48 ∨ t = [48]) → Q (.bl b) H2 := fun b hb => by
          refine kb b ?_ H2 sm
          rw [hb]
          constructor
          · exact fun q => ⟨d0, d100, d3, q.imp (fun n e => n (Option.some.inj e)) id⟩
          · exact fun q => q.2.2.2.imp (fun n e => n (by rw [e]; rfl)) id
        refine ite2 (fun h4 => fin true ⟨fun _ => .inl fun e => by rw [e] at h4; exact absurd h4 (by decide), fun _ => rfl⟩) (fun h4 => ?_)
        refine ⟨_, rfl, rfl, ?_⟩
        show Q (.bl (decide (tV t = tV [48]))) H2
        rw [dec_t]
        have c48 : c = 48 := Classical.byContradiction fun e => h4 (by
          rw [decide_eq_false fun q => e (List.cons.inj q).1]
          rfl)
        exact fin _ (by rw [decide_eq_true_iff]; exact ⟨.inr, fun q => q.elim (fun n => absurd c48 n) id⟩)
def spLow (K : PySem.W.Frag) : Sp := fun vs H Q _ => ∃ (a : Addr) (ps : List (Option Nat)), vs = [.ref a] ∧ SqL K H a (ps.map pV) ∧ Q (pV (MK.lowS ps)) H
theorem c_law_low (D : FnAt K mg "_law_low" s_law_low) (T : Bl mg) : Cal P w K mg base 1 "_law_low" (spLow K) [] := by
  refine calOf D sc_law_low (fun _ _ _ _ _ _ us hl => match us, hl with | [_], _ => rfl) (fun vs H Q E h => ?_) (fun f cdv A outer s H vs Q E hr h => ?_)
  · obtain ⟨a, ps, rfl, _⟩ := h
    rfl
  · obtain ⟨a, ps, rfl, hS, k⟩ := h
    have nd := sc_law_low.nd
    refine ⟨_, (pss_cons (ps_set (i := 1) nd rfl (by first | exact Or.inl rfl | exact Or.inr rfl) pe_non)
      (pss_cons (ps_for PassesOwn.never rfl (piList K (pv 0)) (pg_name (i := 2) nd rfl (by first | exact Or.inl rfl | exact Or.inr rfl))
        (pss_one (ps_if (PW.pt (pw_and (pt_cmpR op_notN (pv 2) pe_non (nomark _)) (pw_and1 (PW.pt (pw_or (pt_cmpR op_isN (pv 1) pe_non (nomark _)) (pw_or1 (pt_cmpR op_lt (pv 2) (pv 1) (nomark _))))))))
          (pss_one (ps_set (i := 1) nd rfl (by first | exact Or.inl rfl | exact Or.inr rfl) (pv 2)))
          pss_nil)))
      (pss_one (ps_ret (pv 1))))), ?_⟩
    refine ⟨_, rfl, a, rfl, ⟨_, hS⟩, ?_⟩
    refine for_list (xs := ps.map pV) (fun i σ' H' => ∃ c2 : Option V, σ' = [some (.ref a), some (pV (MK.lowS (ps.take i))), c2] ∧ H' = H) ⟨none, rfl, rfl⟩ (fun i σ' H' _ ⟨_, _, e⟩ => by rw [e]; exact hS) (fun i x σ' H' hx hp => ?_) (fun σ' H' hp => ?_)
    · obtain ⟨c2, rfl, rfl⟩ := hp
      obtain ⟨p, hp, rfl⟩ := map_get hx
      have et : MK.lowS (ps.take (i + 1)) = MK.lowStep (MK.lowS (ps.take i)) p := by
        rw [take_snoc hp]
        unfold MK.lowS
        rw [List.foldl_append]
        rfl
      rw [et]
      generalize MK.lowS (ps.take i) = b
      refine ⟨_, rfl, rfl, _, rfl, ?_⟩
      cases p with
      | none =>
        refine ite2 (fun h => absurd h notn_none) (fun _ => ?_)
        refine ⟨some (pV none), ?_, rfl⟩
        cases b <;> rfl
      | some x =>
        refine ite2 (fun _ => ⟨_, rfl, rfl, _, rfl, ?_⟩) (fun h => absurd notn_some h)
        cases b with
        | none => exact ite2 (fun _ => ⟨_, rfl, ⟨_, rfl, rfl⟩⟩) (fun h => absurd isn_none h)
        | some y =>
          refine ite2 (fun h => absurd h isn_some) (fun _ => ⟨_, rfl, _, rfl, x, y, rfl, rfl, _, rfl, ?_⟩)
          have e : MK.lowStep (some y) (some x) = if x < y then some x else some y := rfl
          rw [e]
          by_cases h : x < y
          · rw [if_pos h]
            exact ite2 (fun _ => ⟨_, rfl, ⟨_, rfl, rfl⟩⟩) (fun n => absurd (decide_eq_true (by omega)) n)
          · rw [if_neg h]
            exact ite2 (fun n => absurd (of_decide_eq_true n) (by omega)) (fun _ => ⟨_, rfl, rfl⟩)
    · obtain ⟨c2, rfl, rfl⟩ := hp
      rw [List.length_map, List.take_length]
      exact ⟨_, rfl, k⟩
def spCost : Sp := fun vs H Q _ => ∃ (d c : Addr), vs = [.ref d] ∧ Dr H d c ∧ ∀ (n : Nat) H', n ≤ 1000 → Dr H' d c → Kp d H H' → Q (nV n) H'
theorem c_law_cost (D : FnAt K mg "_law_cost" s_law_cost) (T : Bl mg) (c_law_rare : Cal P w K mg base 2 "_law_rare" spRare []) (c_law_draw : Cal P w K mg base 1 "_law_draw" spDraw []) : Cal P w K mg base 3 "_law_cost" spCost [] := by
  refine calOf D sc_law_cost (fun _ _ _ _ _ _ us hl => match us, hl with | [_], _ => rfl) (fun vs H Q E h => ?_) (fun f cdv A outer s H vs Q E hr h => ?_)
  · obtain ⟨d, c, rfl, _⟩ := h
    rfl
  · obtain ⟨d, c, rfl, D, k⟩ := h
    refine ⟨_, (pss_cons (ps_if (pt_val (pe_c c_law_rare hr (by decide) (by rfl) (pa_cons (pv 0) (pa_cons pe_int pa_nil))))
        (pss_one (ps_ret (pe_c c_law_draw hr (by decide) (by rfl) (pa_cons (pv 0) (pa_cons pe_int pa_nil)))))
        pss_nil)
      (pss_one (ps_ret (pe_c c_law_draw hr (by decide) (by rfl) (pa_cons (pv 0) (pa_cons pe_int pa_nil)))))), ?_⟩
    refine ⟨_, rfl, d, c, 11, rfl, D, by decide, by decide, fun b H1 D1 kp1 => ⟨b, rfl, ite2 (fun _ => ?_) (fun _ => ?_)⟩⟩
    · exact ⟨_, rfl, d, c, 1001, rfl, D1, by decide, by decide, fun n H2 hn D2 kp2 => k n H2 (by omega) D2 (kp1.trans kp2)⟩
    · exact ⟨_, rfl, d, c, 6, rfl, D1, by decide, by decide, fun n H2 hn D2 kp2 => k n H2 (by omega) D2 (kp1.trans kp2)⟩
def PrOk (ps : List (Option Nat)) : Prop := ∀ p ∈ ps, ∀ m, p = some m → m ≤ 1000
def spOpened : Sp := fun vs H Q _ => ∃ (d c a : Addr) (ps : List (Option Nat)), vs = [.ref d, .ref a] ∧ Dr H d c ∧ H a = some (.lst (ps.map pV)) ∧ a ≠ d ∧ a ≠ c ∧ 0 < ps.length ∧ ps.length ≤ 16 ∧ PrOk ps ∧
  ∀ (ps' : List (Option Nat)) H', ps'.length = ps.length → PrOk ps' → (∃ p ∈ ps', p.isSome = true) → Dr H' d c → H' a = some (.lst (ps'.map pV)) → (∀ b o, H b = some o → b ≠ d → b ≠ a → H' b = some o) → Q (.ref a) H'
theorem c_law_opened (D : FnAt K mg "_law_opened" s_law_opened) (T : Bl mg) (c_law_low : Cal P w K mg base 1 "_law_low" (spLow K) []) (c_law_cost : Cal P w K mg base 3 "_law_cost" spCost []) (c_law_draw : Cal P w K mg base 1 "_law_draw" spDraw []) : Cal P w K mg base 4 "_law_opened" spOpened [] := by
  refine calOf D sc_law_opened (fun _ _ _ _ _ _ us hl => match us, hl with | [_, _], _ => rfl) (fun vs H Q E h => ?_) (fun f cdv A outer s H vs Q E hr h => ?_)
  · obtain ⟨d, c, a, ps, rfl, _⟩ := h
    rfl
  · obtain ⟨d, c, a, ps, rfl, D, ha, nad, nac, h0, h16, ok, k⟩ := h
    refine ⟨_, (pss_cut (ps_if (pt_cmpR op_isN (pe_c c_law_low hr (by decide) (by rfl) (pa_cons (pv 1) pa_nil)) pe_non (nomark _))
        (pss_one (ps_asg (pe_c c_law_cost hr (by decide) (by rfl) (pa_cons (pv 0) pa_nil)) (pg_sub (pv 1) (pe_c c_law_draw hr (by decide) (by rfl) (pa_cons (pv 0) (pa_cons (pe_callB (crLen K) (by rfl) T.b_len (by decide +kernel) (pa_cons (pv 1) pa_nil)) pa_nil))) set_list)))
        pss_nil)
      (pss_one (ps_ret (pv 1)))), ?_⟩
    refine ⟨fun σ' H' => σ' = [some (.ref d), some (.ref a)] ∧ ∃ ps', ps'.length = ps.length ∧ PrOk ps' ∧ (∃ p ∈ ps', p.isSome = true) ∧ Dr H' d c ∧ H' a = some (.lst (ps'.map pV)) ∧ (∀ b o, H b = some o → b ≠ d → b ≠ a → H' b = some o), ?_, ?_⟩
    · refine ⟨_, rfl, a, ps, rfl, SqL.of ha, rfl, _, rfl, ite2 (fun hn => ?_) (fun hn => ?_)⟩
      · refine ⟨_, rfl, d, c, rfl, D, fun n H1 hn1 D1 kp1 => ?_⟩
        have ha1 := kp1 _ _ ha nad
        refine ⟨_, rfl, _, rfl, _, rfl, a, _, rfl, .inl (SqL.of ha1), d, c, (ps.length : Int), by rw [List.length_map]; rfl, D1, by omega, by omega, fun j H2 hj D2 kp2 => ?_⟩
        have ha2 := kp2 _ _ ha1 nad
        have hj' : j < ps.length := by omega
        refine ⟨a, _, (j : Int), j, rfl, rfl, ha2, ixN_lt (by rw [List.length_map]; exact hj'), rfl, ps.set j (some n), by rw [List.length_set], fun p hp m hm => ?_, ⟨some n, List.mem_of_getElem? (List.getElem?_set_self hj'), rfl⟩, D2.put nad nac, ?_, fun b o e n1 n2 => ?_⟩
        · rcases List.mem_or_eq_of_mem_set hp with z | z
          · exact ok p z m hm
          · rw [z] at hm
            cases hm
            exact hn1
        · rw [upd_same, List.map_set]
          rfl
        · rw [upd_ne n2]
          exact kp2 _ _ (kp1 _ _ e n1) n1
      · refine ⟨rfl, ps, rfl, ok, MK.lowS_some.mp ?_, D, ha, fun b o e _ _ => e⟩
        cases e : MK.lowS ps with
        | none => rw [e] at hn; exact absurd isn_none hn
        | some x => rfl
    · rintro σ' H' ⟨rfl, ps', l, o, e, D', h, kp⟩
      exact ⟨_, rfl, k ps' H' l o e D' h kp⟩
def spLoose (K : PySem.W.Frag) : Sp := fun vs H Q _ => ∃ (d c : Addr) (pl bar : Nat), vs = [.ref d, nV pl, nV bar] ∧ Dr H d c ∧ 1 ≤ pl ∧ pl ≤ 4 ∧ ∀ p q ps H', TbOk (pl, ps) → H p = none → H' p = some (.tup [nV pl, .ref q]) → H' q = some (.tup (ps.map pV)) → Dr H' d c → Kp d H H' → Q (.ref p) H'
theorem c_law_loose (D : FnAt K mg "_law_loose" s_law_loose) (T : Bl mg) (c_law_draw : Cal P w K mg base 1 "_law_draw" spDraw []) (c_law_cost : Cal P w K mg base 3 "_law_cost" spCost []) (c_law_opened : Cal P w K mg base 4 "_law_opened" spOpened []) : Cal P w K mg base 5 "_law_loose" (spLoose K) [] := by
  refine calOf D sc_law_loose (fun _ _ _ _ _ _ us hl => match us, hl with | [_, _, _], _ => rfl) (fun vs H Q E h => ?_) (fun f cdv A outer s H vs Q E hr h => ?_)
  · obtain ⟨d, c, pl, bar, rfl, _⟩ := h
    rfl
  · obtain ⟨d, c, pl, bar, rfl, D, h1, h4, k⟩ := h
    have nd := sc_law_loose.nd
    have p16 : 2 ^ pl ≤ 2 ^ 4 := Nat.pow_le_pow_right (by decide) h4
    have p0 := Nat.two_pow_pos pl
    refine ⟨_, (pss_cons (ps_set (i := 3) nd rfl (by first | exact Or.inl rfl | exact Or.inr rfl) (pe_lst pa_nil))
      (pss_cons (ps_for PassesOwn.never rfl (pi_range1 (by rfl) T.b_range (pa_cons (pe_op op_shlNN pe_int (pv 1)) pa_nil)) (pg_name (i := 4) nd rfl (by first | exact Or.inl rfl | exact Or.inr rfl))
        (pss_cons (ps_set (i := 5) nd rfl (by first | exact Or.inl rfl | exact Or.inr rfl) (pe_cmpR op_lt (pe_c c_law_draw hr (by decide) (by rfl) (pa_cons (pv 0) (pa_cons pe_int pa_nil))) (pv 2) (nomark _)))
        (pss_one (ps_expr (pe_bm PySem.F.plainAttrs_list PySem.F.slot_list_append PySem.F.type_list_append mt_append (pv 3) (pa_cons (pe_ifExp (pt_val (pv 5)) pe_non (pe_c c_law_cost hr (by decide) (by rfl) (pa_cons (pv 0) pa_nil))) pa_nil))))))
      (pss_one (ps_ret (pe_tup (pa_cons (pv 1) (pa_cons (pe_callTy (crTup K) (by rfl) T.b_tuple (by decide +kernel) (pa_cons (pe_c c_law_opened hr (by decide) (by rfl) (pa_cons (pv 0) (pa_cons (pv 3) pa_nil))) pa_nil)) pa_nil))))))), ?_⟩
    refine ⟨Nat.zero_le _, fun a ha => ?_⟩
    obtain ⟨nad, nac⟩ := D.ne ha
    refine ⟨_, rfl, 1, pl, rfl, rfl, ⟨by omega, by decide⟩, _, rfl, by omega, by omega, ?_⟩
    rw [Int.toNat_natCast, Nat.one_mul]
    refine for_range (lo := 0) (n := 2 ^ pl) (fun i σ' H' => ∃ (ps : List (Option Nat)) (c4 c5 : Option V), σ' = [some (.ref d), some (nV pl), some (nV bar), some (.ref a), c4, c5] ∧ H' a = some (.lst (ps.map pV)) ∧ ps.length = i ∧ PrOk ps ∧ Dr H' d c ∧ Kp d H H')
      ⟨[], none, none, rfl, upd_same, rfl, fun p hp => (nomatch hp), D.put nad nac, (Kp.refl d H).new ha⟩ ?_ ?_
    · rintro i σ' H1 hi ⟨ps, c4, c5, rfl, e1, l1, ok, D1, kp1⟩
      refine ⟨_, rfl, d, c, 8, rfl, D1, by decide, by decide, fun n H2 hn D2 kp2 => ⟨_, rfl, n, bar, rfl, rfl, ?_⟩⟩
      have e2 := kp2 _ _ e1 nad
      refine ⟨_, rfl, .inl ⟨rfl, _, SqL.of e2⟩, _, rfl, _, rfl, ?_⟩
      have fin : ∀ (o : Option Nat) (H3 : Hp), (∀ m, o = some m → m ≤ 1000) → H3 a = some (.lst (ps.map pV)) → Dr H3 d c → Kp d H H3 → ∃ l xs v, V.ref a = .ref l ∧ [pV o] = [v] ∧ H3 l = some (.lst xs) ∧ xs.length < sizeLine ∧
          ∃ (ps' : List (Option Nat)) (c4 c5 : Option V), [some (V.ref d), some (nV pl), some (nV bar), some (.ref a), some (.int (0 + (i : Int))), some (.bl (decide ((n : Int) < (bar : Int))))] = [some (.ref d), some (nV pl), some (nV bar), some (.ref a), c4, c5] ∧
            (upd H3 l (.lst (xs ++ [v]))) a = some (.lst (ps'.map pV)) ∧ ps'.length = i + 1 ∧ PrOk ps' ∧ Dr (upd H3 l (.lst (xs ++ [v]))) d c ∧ Kp d H (upd H3 l (.lst (xs ++ [v]))) := fun o H3 ho e3 D3 kp3 => by
        refine ⟨a, _, _, rfl, rfl, e3, Nat.lt_of_le_of_lt (show (ps.map pV).length ≤ 16 by rw [List.length_map]; omega) (by decide), ps ++ [o], _, _, rfl, by rw [upd_same, List.map_append]; rfl, by rw [List.length_append, l1]; rfl, fun p hp m hm => ?_, D3.put nad nac, kp3.new ha⟩
        rcases List.mem_append.mp hp with z | z
        · exact ok p z m hm
        · rw [List.mem_singleton.mp z] at hm
          exact ho m hm
      refine ite2 (fun _ => ?_) (fun _ => ?_)
      · obtain ⟨l, xs, v, e1', e2', e3', lt, r⟩ := fin none H2 (fun m h => (nomatch h)) e2 D2 (kp1.trans kp2)
        exact ⟨l, xs, v, e1', e2', e3', lt, r⟩
      · refine ⟨_, rfl, d, c, rfl, D2, fun m H3 hm D3 kp3 => ?_⟩
        obtain ⟨l, xs, v, e1', e2', e3', lt, r⟩ := fin (some m) H3 (fun m' h => by cases h; exact hm) (kp3 _ _ e2 nad) D3 ((kp1.trans kp2).trans kp3)
        exact ⟨l, xs, v, e1', e2', e3', lt, r⟩
    · rintro σ' H1 ⟨ps, c4, c5, rfl, e1, l1, ok, D1, kp1⟩
      refine ⟨_, rfl, _, rfl, _, rfl, d, c, a, ps, rfl, D1, e1, nad, nac, by omega, by omega, ok, fun ps' H2 l2 ok2 ex D2 e2 kp2 => ⟨a, _, rfl, .inl ⟨SqL.of e2, fun q hq => ?_⟩⟩⟩
      have sm1 := same_new (o := .tup (ps'.map pV)) hq
      refine ⟨by show 2 ≤ sizeLine; decide, fun p hp => ?_⟩
      have sm2 := same_new (o := .tup [nV pl, .ref q]) hp
      have kp3 : Kp d H H2 := fun b o e n => kp2 _ _ (kp1 _ _ e n) n (ne_of_none e ha)
      have hp0 : H p = none := by
        cases e : H p with
        | none => rfl
        | some o =>
          by_cases z : p = d
          · obtain ⟨_, _, _, _, hd, _⟩ := D2.ex
            have := (sm1 _ _ hd)
            rw [← z, hp] at this
            cases this
          · have := sm1 _ _ (kp3 _ _ e z)
            rw [hp] at this
            cases this
      exact k p q ps' _ ⟨h1, h4, by rw [l2, l1], ex, ok2⟩ hp0 upd_same (sm2 _ _ upd_same) ((D2.keep sm1).keep sm2) (kp3.trans (Kp.of (sm1.trans sm2)))
end
end L2.KK
namespace L2.KK
open PySem PySem.Spec PyProof.Rows C8 SX MT
theorem sc_price_text : FnScope ["price"] ["price"] (defScope s_price_text) := ⟨rfl, rfl, rfl, by decide +kernel, rfl, by decide +kernel, by decide +kernel⟩
theorem sc_table_line : FnScope ["table", "price"] ["table"] (defScope s_table_line) := ⟨rfl, rfl, rfl, by decide +kernel, rfl, by decide +kernel, by decide +kernel⟩
theorem sc_use_line : FnScope ["use", "at", "names", "times", "words", "name"] ["use"] (defScope s_use_line) := ⟨rfl, rfl, rfl, by decide +kernel, rfl, by decide +kernel, by decide +kernel⟩
theorem sc_lot_text : FnScope ["lot", "table"] ["lot"] (defScope s_lot_text) := ⟨rfl, rfl, rfl, by decide +kernel, rfl, by decide +kernel, by decide +kernel⟩
theorem sc_puzzle_text : FnScope ["puzzle", "lines", "use", "line"] ["puzzle"] (defScope s_puzzle_text) := ⟨rfl, rfl, rfl, by decide +kernel, rfl, by decide +kernel, by decide +kernel⟩
theorem num_S (n : Int) : Str.ofString (toString n) = S (numT n) := (S_tl _).symm
theorem nat_S (n : Nat) : Str.ofString (toString ((n : Nat) : Int)) = S (TL.numL n) := by rw [num_S, numT_nat]
theorem joinL_nil : ∀ ts : List Tx, TL.joinL [] ts = ts.flatten
  | [] => rfl
  | [t] => by
    show t = t ++ []
    rw [List.append_nil]
  | t :: u :: r => by
    show t ++ ([] ++ TL.joinL [] (u :: r)) = t ++ (u :: r).flatten
    rw [joinL_nil (u :: r)]
    rfl
theorem tL_strs (ts : List Tx) : tL ts = (ts.map S).map V.str := by
  rw [List.map_map]
  rfl
theorem sum_S (ts : List Tx) : ((ts.map S).map (·.length)).sum = (ts.map List.length).sum := by
  rw [List.map_map]
  rw [show (((fun x : Str => x.length) ∘ S) : Tx → Nat) = List.length from funext fun t => S_len t]
theorem flat_len (ts : List Tx) : ts.flatten.length = (ts.map List.length).sum := List.length_flatten
theorem join_cost {c : Nat} (ts : List Tx) : ((ts.map S).map (·.length)).sum + (ts.map S).length * (S [c]).length ≤ (TL.joinL [c] ts).length + 1 := by
  rw [sum_S, List.length_map, show (S [c]).length = 1 from rfl, Nat.mul_one, joinL_len]
  have : (ts.map fun p => p.length + 1).sum = (ts.map List.length).sum + ts.length := by
    induction ts with
    | nil => rfl
    | cons t r ih =>
      rw [List.map_cons, List.sum_cons, List.map_cons, List.sum_cons, List.length_cons, ih]
      omega
  omega
theorem join_cost0 (ts : List Tx) : ((ts.map S).map (·.length)).sum + (ts.map S).length * (S []).length = ts.flatten.length := by
  rw [sum_S, flat_len, show (S []).length = 0 from rfl, Nat.mul_zero, Nat.add_zero]
theorem paired_tx {α : Type} {g : α → Tx} {bs : List V} {xs : List α} (d : α) (pb : Paired (fun y i => y = tV (g (xs.getD i d))) bs (List.range xs.length)) : bs = tL (xs.map g) := by
  rw [paired_map_eq pb]
  have z := congrArg (List.map fun x => tV (g x)) (map_range_get xs d)
  rw [List.map_map] at z
  show _ = (xs.map g).map tV
  rw [List.map_map]
  exact z
theorem pTx_len {p : Option Nat} (h : ∀ m, p = some m → m < 10 ^ 100) : (pTx p).length ≤ 100 := by
  cases p with
  | none => show 1 ≤ 100; decide
  | some n => exact TL.numL_len (by decide) (h n rfl)
theorem numT_len {n : Int} (h : n.natAbs < 10 ^ 100) : (numT n).length ≤ 101 := by
  rcases numT_cases n with ⟨k, rfl, e⟩ | ⟨k, h0, rfl, e⟩
  · rw [e]
    exact Nat.le_succ_of_le (TL.numL_len (by decide) (by omega))
  · rw [e]
    exact Nat.succ_le_succ (TL.numL_len (by decide) (by omega))
theorem sum_le {ts : List Tx} {k : Nat} (h : ∀ t ∈ ts, t.length ≤ k) : (ts.map List.length).sum ≤ ts.length * k := by
  induction ts with
  | nil => exact Nat.zero_le _
  | cons t r ih =>
    rw [List.map_cons, List.sum_cons, List.length_cons, Nat.succ_mul]
    have := ih fun x hx => h x (List.mem_cons_of_mem _ hx)
    have := h t List.mem_cons_self
    omega
theorem join_le {c : Nat} {ts : List Tx} {k : Nat} (h : ∀ t ∈ ts, t.length ≤ k) : (TL.joinL [c] ts).length ≤ ts.length * (k + 1) := by
  have a := joinL_len c ts
  have b : (ts.map fun p => p.length + 1).sum ≤ ts.length * (k + 1) := by
    clear a
    induction ts with
    | nil => exact Nat.zero_le _
    | cons t r ih =>
      rw [List.map_cons, List.sum_cons, List.length_cons, Nat.succ_mul]
      have := ih fun x hx => h x (List.mem_cons_of_mem _ hx)
      have := h t List.mem_cons_self
      omega
  cases ts with
  | nil => exact Nat.zero_le _
  | cons t r =>
    rw [if_neg (List.cons_ne_nil _ _)] at a
    omega
theorem tabT_len {t : Tb} (h : TbG t) : (tabT t).length ≤ 5000 := by
  unfold tabT
  have a : (TL.joinL [32] (t.2.map pTx)).length ≤ (t.2.map pTx).length * 101 := join_le fun x hx => by
    obtain ⟨p, hp, rfl⟩ := List.mem_map.mp hx
    exact pTx_len fun m e => Nat.lt_of_le_of_lt (h.2.2.2.2 p hp m e) (by decide +kernel)
  have b : (t.2.map pTx).length ≤ 16 := by
    rw [List.length_map, h.2.2.1]
    exact Nat.pow_le_pow_right (by decide) h.2.1
  have c : (TL.numL t.1).length ≤ 100 := TL.numL_len (by decide) (Nat.lt_of_le_of_lt h.2.1 (by decide +kernel))
  simp only [List.length_append, List.length_cons, List.length_nil]
  show tableW.length + 1 + _ + 2 + _ ≤ 5000
  have d : tableW.length = 5 := rfl
  have := Nat.mul_le_mul_right 101 b
  omega
section
variable {P : Program} {w : World} {K : PySem.W.Frag} {mg : Str → Option Value} {base : Heap}
def spPT : Sp := fun vs H Q _ => ∃ p : Option Nat, vs = [pV p] ∧ (∀ m, p = some m → m < 10 ^ 100) ∧ Q (tV (pTx p)) H
theorem c_price_text (D : FnAt K mg "price_text" s_price_text) (T : Bl mg) : Cal P w K mg base 1 "price_text" spPT [] := by
  refine calOf D sc_price_text (fun _ _ _ _ _ _ us hl => match us, hl with | [_], _ => rfl) (fun vs H Q E h => ?_) (fun f cdv A outer s H vs Q E hr h => ?_)
  · obtain ⟨p, rfl, _⟩ := h
    rfl
  · obtain ⟨p, rfl, hz, k⟩ := h
    refine ⟨_, (pss_one (ps_ret (pe_ifExp (pt_cmpR op_isN (pv 0) pe_non (nomark _)) pe_str (pe_callTy call_str_int (by rfl) T.b_str (by decide +kernel) (pa_cons (pv 0) pa_nil))))), ?_⟩
    cases p with
    | none => exact ⟨_, rfl, rfl, _, rfl, ite2 (fun _ => k) (fun h => absurd isn_none h)⟩
    | some n =>
      refine ⟨_, rfl, rfl, _, rfl, ite2 (fun h => absurd h isn_some) (fun _ => ⟨_, rfl, (n : Int), rfl, log_ok (by rw [Int.natAbs_natCast]; exact hz n rfl), ?_⟩)⟩
      rw [nat_S]
      exact k
def spTL (K : PySem.W.Frag) (C : Addr) : Sp := fun vs H Q _ => ∃ (a : Addr) (t : Tb), vs = [.ref a] ∧ TabAt K C H a t.1 t.2 ∧ TbG t ∧ ∀ H', Same H H' → Q (tV (tabT t)) H'
theorem c_table_line (D : FnAt K mg "table_line" s_table_line) (Z : Ev K mg) (T : Bl mg) (c_price_text : Cal P w K mg base 1 "price_text" spPT []) : Cal P w K mg base 2 "table_line" (spTL K Z.Table) [] := by
  refine calOf D sc_table_line (fun _ _ _ _ _ _ us hl => match us, hl with | [_], _ => rfl) (fun vs H Q E h => ?_) (fun f cdv A outer s H vs Q E hr h => ?_)
  · obtain ⟨a, t, rfl, _⟩ := h
    rfl
  · obtain ⟨a, ⟨pl, ps⟩, rfl, ⟨dx, tp, ha, hS⟩, ok, k⟩ := h
    replace hS : SqT K H tp (ps.map pV) := hS
    replace ha : H a = some (.ins Z.Table dx (tabF pl tp ps)) := ha
    have nd := sc_table_line.nd
    have tlen := tabT_len ok
    refine ⟨_, (pss_one (ps_ret (pe_op op_add_str (pe_op op_add_str (pe_op op_add_str pe_str (pe_callTy call_str_int (by rfl) T.b_str (by decide +kernel) (pa_cons (peFld K (pv 0)) pa_nil))) pe_str) (pe_join pe_str (pe_lc (own := [("price", 1)]) (g := gName 1) (tt := tYes) rfl nd (piTup K (peFld K (pv 0))) (blkOk_by (N := ["table", "price"]) (sc := defScope s_table_line) (own := [("price", 1)]) (by decide +kernel)) (fun _ _ _ _ _ => (pg_name (i := 1) nd rfl (by first | exact Or.inl rfl | exact Or.inr rfl))) (fun _ _ _ _ _ => pts_nil) (fun _ _ _ _ _ => (pe_c c_price_text hr (by decide) (by rfl) (pa_cons (pv 1) pa_nil)))))))), ?_⟩
    have nlen : (TL.numL pl).length ≤ 100 := TL.numL_len (by decide) (Nat.lt_of_le_of_lt ok.2.1 (by decide +kernel))
    have plen : ps.length ≤ 16 := by
      rw [ok.2.2.1]
      exact Nat.pow_le_pow_right (by decide) ok.2.1
    refine ⟨_, rfl, a, Z.Table, dx, _, _, rfl, ha, Z.c_Table.c, Z.n_Table_places, rfl, (pl : Int), rfl, log_ok (by rw [Int.natAbs_natCast]; exact Nat.lt_of_le_of_lt ok.2.1 (by decide +kernel)), ?_⟩
    rw [nat_S]
    refine ⟨S (tableW ++ [32]), S (TL.numL pl), rfl, rfl, ?_, ?_⟩
    · rw [S_len, S_len]
      refine lt_lineT ?_
      show 6 + _ ≤ _
      omega
    rw [S_cat]
    refine ⟨S (tableW ++ [32] ++ TL.numL pl), S [58, 32], rfl, rfl, ?_, ?_⟩
    · rw [S_len, S_len, List.length_append]
      refine lt_lineT ?_
      show 6 + _ + 2 ≤ _
      omega
    rw [S_cat]
    refine ⟨⟨_, rfl⟩, _, rfl, a, Z.Table, dx, _, _, rfl, ha, Z.c_Table.c, Z.n_Table_prices, rfl, tp, rfl, ⟨_, hS⟩, fun D hD => lc_tupT hS (sel := fun _ => true) (P := fun i y _ => y = tV (pTx (ps.getD i none))) ⟨fun _ _ _ _ _ h => h, fun i H2 _ _ R r => r H2 (Same.refl H2), fun i H2 hi _ sm R r => ?_⟩ hD (lt_line (by rw [List.length_map]; omega)) (fun H2 bs sm hb _ pb => ?_)⟩
    · rw [List.length_map] at hi
      have e : (ps.map pV).getD i .non = pV (ps.getD i none) := map_getD none hi
      refine ⟨_, rfl, ps.getD i none, by rw [e]; rfl, fun m hm => ?_, r _ H2 (Same.refl H2) rfl⟩
      have hmem : ps.getD i none ∈ ps := by
        rw [List.getD_eq_getElem?_getD, List.getElem?_eq_getElem hi]
        exact List.getElem_mem hi
      exact Nat.lt_of_le_of_lt (ok.2.2.2.2 _ hmem m hm) (by decide +kernel)
    rw [filter_yes, List.length_map] at pb
    rw [paired_tx none pb, tL_strs] at hb
    have jl : (TL.joinL [32] (ps.map pTx)).length ≤ 5000 := by
      have h5 : (tableW ++ [32] ++ TL.numL pl ++ [58, 32] ++ TL.joinL [32] (ps.map pTx)).length ≤ 5000 := tlen
      rw [List.length_append] at h5
      omega
    refine ⟨S [32], D, (ps.map pTx).map S, rfl, rfl, .inl (SqL.of hb), Nat.le_trans (join_cost _) (by omega), ?_⟩
    rw [join_S]
    refine ⟨S (tableW ++ [32] ++ TL.numL pl ++ [58, 32]), S (TL.joinL [32] (ps.map pTx)), rfl, rfl, ?_, ?_⟩
    · rw [S_len, S_len, ← List.length_append]
      exact lt_lineT (Nat.le_trans tlen (by decide))
    rw [S_cat]
    exact k H2 sm
/-- a use whose numbers can be told -/
def UiS (u : Ui) : Prop := u.at_.natAbs < 10 ^ 100 ∧ u.times.natAbs < 10 ^ 100 ∧ (∀ n ∈ u.names, n.natAbs < 10 ^ 100) ∧ u.names.length ≤ 10
theorem useWs_len {u : Ui} (h : UiS u) : (useT u).length ≤ 5000 := by
  unfold useT
  have a : (TL.joinL [32] (useWs u)).length ≤ (useWs u).length * 102 := join_le fun x hx => by
    unfold useWs at hx
    rcases List.mem_append.mp hx with hx | hx
    · rcases List.mem_append.mp hx with hx | hx
      · rcases List.mem_cons.mp hx with z | hx
        · rw [z]; show 3 ≤ 101; decide
        rcases List.mem_cons.mp hx with z | hx
        · rw [z]; exact numT_len h.1
        · rw [List.mem_singleton.mp hx]; show 2 ≤ 101; decide
      · obtain ⟨n, hn, rfl⟩ := List.mem_map.mp hx
        exact numT_len (h.2.2.1 n hn)
    · by_cases c : u.times = 1
      · rw [if_pos c] at hx; cases hx
      · rw [if_neg c] at hx
        rcases List.mem_cons.mp hx with z | hx
        · rw [z]; show 5 ≤ 101; decide
        · rw [List.mem_singleton.mp hx]; exact numT_len h.2.1
  have b : (useWs u).length ≤ 15 := by
    unfold useWs
    rw [List.length_append, List.length_append, List.length_map]
    have c := h.2.2.2
    have d : (if u.times = 1 then [] else [timesW, numT u.times]).length ≤ 2 := by
      split
      · exact Nat.zero_le _
      · exact Nat.le_refl _
    show 3 + _ + _ ≤ 15
    omega
  have := Nat.mul_le_mul_right 102 b
  omega
def spUL (K : PySem.W.Frag) : Sp := fun vs H Q _ => ∃ (y : V) (u : Ui), vs = [y] ∧ UiR K H y u ∧ UiS u ∧ ∀ H', Same H H' → Q (tV (useT u)) H'
theorem c_use_line (D : FnAt K mg "use_line" s_use_line) (T : Bl mg) : Cal P w K mg base 1 "use_line" (spUL K) [] := by
  refine calOf D sc_use_line (fun _ _ _ _ _ _ us hl => match us, hl with | [_], _ => rfl) (fun vs H Q E h => ?_) (fun f cdv A outer s H vs Q E hr h => ?_)
  · obtain ⟨y, u, rfl, _⟩ := h
    rfl
  · obtain ⟨y, u, rfl, ⟨r, nr, rfl, hr1, hn⟩, ok, k⟩ := h
    have nd := sc_use_line.nd
    have ul := useWs_len ok
    have nlen := ok.2.2.2
    refine ⟨_, (pss_cons (ps_asg (pv 0) (pgTup K rfl (pgs_cons (pg_name (i := 1) nd rfl (by first | exact Or.inl rfl | exact Or.inr rfl)) (pgs_cons (pg_name (i := 2) nd rfl (by first | exact Or.inl rfl | exact Or.inr rfl)) (pgs_cons (pg_name (i := 3) nd rfl (by first | exact Or.inl rfl | exact Or.inr rfl)) pgs_nil)))))
      (pss_cons (ps_set (i := 4) nd rfl (by first | exact Or.inl rfl | exact Or.inr rfl) (pe_lst (pa_cons pe_str (pa_cons (pe_callTy call_str_int (by rfl) T.b_str (by decide +kernel) (pa_cons (pv 1) pa_nil)) (pa_cons pe_str (pa_starK K (pe_lc (own := [("name", 5)]) (g := gName 5) (tt := tYes) rfl nd (piTup K (pv 2)) (blkOk_by (N := ["use", "at", "names", "times", "words", "name"]) (sc := defScope s_use_line) (own := [("name", 5)]) (by decide +kernel)) (fun _ _ _ _ _ => (pg_name (i := 5) nd rfl (by first | exact Or.inl rfl | exact Or.inr rfl))) (fun _ _ _ _ _ => pts_nil) (fun _ _ _ _ _ => (pe_callTy call_str_int (by rfl) T.b_str (by decide +kernel) (pa_cons (pv 5) pa_nil)))) pa_nil))))))
      (pss_cut (ps_if (pt_cmpR op_ne (pv 3) pe_int (nomark _))
        (pss_one (ps_set (i := 4) nd rfl (by first | exact Or.inl rfl | exact Or.inr rfl) (pe_lst (pa_starK K (pv 4) (pa_cons pe_str (pa_cons (pe_callTy call_str_int (by rfl) T.b_str (by decide +kernel) (pa_cons (pv 3) pa_nil)) pa_nil))))))
        pss_nil)
      (pss_one (ps_ret (pe_join pe_str (pv 4))))))), ?_⟩
    refine ⟨_, rfl, r, _, rfl, hr1, rfl, _, _, rfl, _, _, rfl, _, _, rfl, rfl, ?_⟩
    refine ⟨_, rfl, u.at_, rfl, log_ok ok.1, ?_⟩
    rw [num_S]
    refine ⟨_, rfl, nr, rfl, ⟨_, hn⟩, fun D hD => lc_tupT hn (sel := fun _ => true) (P := fun i y _ => y = tV (numT (u.names.getD i 0))) ⟨fun _ _ _ _ _ h => h, fun i H2 _ _ R r => r H2 (Same.refl H2), fun i H2 hi _ sm R r => ?_⟩ hD (lt_line (by rw [List.length_map]; omega)) (fun H2 bs sm hb _ pb => ?_)⟩
    · rw [List.length_map] at hi
      have hmem : u.names.getD i 0 ∈ u.names := by
        rw [List.getD_eq_getElem?_getD, List.getElem?_eq_getElem hi]
        exact List.getElem_mem hi
      refine ⟨_, rfl, u.names.getD i 0, by rw [int_getD hi], log_ok (ok.2.2.1 _ hmem), ?_⟩
      rw [num_S]
      exact r _ H2 (Same.refl H2) rfl
    rw [filter_yes, List.length_map] at pb
    rw [paired_tx (0 : Int) pb] at hb
    have n3 : ([useW, numT u.at_, onW] ++ u.names.map numT).length ≤ 13 := by
      rw [List.length_append, List.length_map]
      show 3 + _ ≤ 13
      omega
    refine ⟨D, _, rfl, .inr (SqL.of hb), ?_, fun w hw => ?_⟩
    · show (V.str (Str.ofString "use") :: V.str (S (numT u.at_)) :: V.str (Str.ofString "on") :: (tL (u.names.map numT) ++ [])).length ≤ sizeLine
      rw [List.append_nil, List.length_cons, List.length_cons, List.length_cons, List.length_map, List.length_map]
      exact lt_lineT (by omega)
    have ew : (V.str (Str.ofString "use") :: V.str (S (numT u.at_)) :: V.str (Str.ofString "on") :: (tL (u.names.map numT) ++ [])) = tL ([useW, numT u.at_, onW] ++ u.names.map numT) := by
      rw [List.append_nil]
      rfl
    obtain ⟨H3, e3, s3, g3⟩ : ∃ H3, upd H2 w (.lst (V.str (Str.ofString "use") :: V.str (S (numT u.at_)) :: V.str (Str.ofString "on") :: (tL (u.names.map numT) ++ []))) = H3 ∧ Same H2 H3 ∧ H3 w = some (.lst (tL ([useW, numT u.at_, onW] ++ u.names.map numT))) := ⟨_, rfl, same_new hw, by rw [upd_same, ew]⟩
    refine ⟨fun σ' H' => ∃ w' : Addr, σ' = [some (.ref r), some (.int u.at_), some (.ref nr), some (.int u.times), some (.ref w'), none] ∧ H' w' = some (.lst (tL (useWs u))) ∧ Same H H', ?_, ?_⟩
    · subst e3
      refine ⟨_, rfl, rfl, _, rfl, ite2 (fun h => ?_) (fun h => ?_)⟩
      · have h1 : u.times ≠ 1 := fun z => by
          rw [z, decide_eq_true rfl] at h
          exact absurd h (by decide)
        refine ⟨_, rfl, w, _, rfl, .inr (SqL.of g3), _, rfl, u.times, rfl, log_ok ok.2.1, ?_⟩
        rw [num_S]
        have e2 : tL ([useW, numT u.at_, onW] ++ u.names.map numT) ++ [V.str (Str.ofString "times"), V.str (S (numT u.times))] = tL (useWs u) := by
          unfold useWs
          rw [if_neg h1]
          show _ = tL (([useW, numT u.at_, onW] ++ u.names.map numT) ++ [timesW, numT u.times])
          exact (List.map_append (f := tV) (l₁ := [useW, numT u.at_, onW] ++ u.names.map numT) (l₂ := [timesW, numT u.times])).symm
        refine ⟨?_, fun w2 hw2 => ⟨w2, rfl, ?_, (sm.trans s3).trans (same_new hw2)⟩⟩
        · show (tL ([useW, numT u.at_, onW] ++ u.names.map numT) ++ [V.str (Str.ofString "times"), V.str (S (numT u.times))]).length ≤ sizeLine
          rw [List.length_append, List.length_map]
          exact lt_lineT (by show _ + 2 ≤ _; omega)
        · rw [upd_same]
          exact congrArg (fun z => some (HO.lst z)) e2
      · have h1 : u.times = 1 := by
          apply Classical.byContradiction
          intro z
          exact h (by rw [decide_eq_false fun e => z (V.int.inj e)]; rfl)
        refine ⟨w, rfl, ?_, sm.trans s3⟩
        rw [g3]
        unfold useWs
        rw [if_pos h1, List.append_nil]
    rintro σ' H4 ⟨w', rfl, g4, s4⟩
    rw [tL_strs] at g4
    refine ⟨⟨_, rfl⟩, _, rfl, S [32], w', (useWs u).map S, rfl, rfl, .inl (SqL.of g4), Nat.le_trans (join_cost _) ?_, ?_⟩
    · have : (TL.joinL [32] (useWs u)).length ≤ 5000 := ul
      omega
    rw [join_S]
    exact k H4 s4
theorem flat_nl_len {ts : List Tx} {k n : Nat} (h : ∀ t ∈ ts, t.length ≤ k) (hn : ts.length ≤ n) : (ts.map nl).flatten.length ≤ n * (k + 1) := by
  rw [flat_len]
  refine Nat.le_trans (sum_le (k := k + 1) fun x hx => ?_) ?_
  · obtain ⟨t, ht, rfl⟩ := List.mem_map.mp hx
    show (t ++ [10]).length ≤ k + 1
    rw [List.length_append]
    exact Nat.succ_le_succ (h t ht)
  · rw [List.length_map]
    exact Nat.mul_le_mul_right _ hn
theorem nl_S (t : Tx) : S t ++ Str.ofString "\n" = S (nl t) := S_cat t [10]
def spLT (K : PySem.W.Frag) (CT CL : Addr) : Sp := fun vs H Q _ => ∃ (a : Addr) (tbs : List Tb), vs = [.ref a] ∧ LtAt K CT CL H a tbs ∧ (∀ t ∈ tbs, TbG t) ∧ tbs.length ≤ 16 ∧ ∀ H', Same H H' → Q (tV (lotT tbs)) H'
theorem c_lot_text (D : FnAt K mg "lot_text" s_lot_text) (Z : Ev K mg) (T : Bl mg) (c_table_line : Cal P w K mg base 2 "table_line" (spTL K Z.Table) []) : Cal P w K mg base 3 "lot_text" (spLT K Z.Table Z.Lot) [] := by
  refine calOf D sc_lot_text (fun _ _ _ _ _ _ us hl => match us, hl with | [_], _ => rfl) (fun vs H Q E h => ?_) (fun f cdv A outer s H vs Q E hr h => ?_)
  · obtain ⟨a, tbs, rfl, _⟩ := h
    rfl
  · obtain ⟨a, tbs, rfl, ⟨dx, tt, b, ys, ha, hS, pr⟩, ok, l16, k⟩ := h
    have nd := sc_lot_text.nd
    obtain ⟨yl, ya⟩ := paired_at pr
    refine ⟨_, (pss_one (ps_ret (pe_join pe_str (pe_lc (own := [("table", 1)]) (g := gName 1) (tt := tYes) rfl nd (piTup K (peFld K (pv 0))) (blkOk_by (N := ["lot", "table"]) (sc := defScope s_lot_text) (own := [("table", 1)]) (by decide +kernel)) (fun _ _ _ _ _ => (pg_name (i := 1) nd rfl (by first | exact Or.inl rfl | exact Or.inr rfl))) (fun _ _ _ _ _ => pts_nil) (fun _ _ _ _ _ => (pe_op op_add_str (pe_c c_table_line hr (by decide) (by rfl) (pa_cons (pv 1) pa_nil)) pe_str)))))), ?_⟩
    refine ⟨⟨_, rfl⟩, _, rfl, a, Z.Lot, dx, _, _, rfl, ha, Z.c_Lot.c, Z.n_Lot_tables, rfl, tt, rfl, ⟨_, hS⟩, fun D hD => lc_tupT hS (sel := fun _ => true) (P := fun i y _ => y = tV (nl (tabT (tbs.getD i (0, []))))) ⟨fun _ _ _ _ _ h => h, fun i H2 _ _ R r => r H2 (Same.refl H2), fun i H2 hi _ sm R r => ?_⟩ hD (lt_line (by omega)) (fun H2 bs sm hb _ pb => ?_)⟩
    · have hy : ys[i]? = some ys[i] := List.getElem?_eq_getElem hi
      obtain ⟨t, ht, p, ep, h2⟩ := ya i _ hy
      have et : tbs.getD i (0, []) = t := by rw [List.getD_eq_getElem?_getD, ht]; rfl
      have ey : ys.getD i .non = .ref p := by rw [List.getD_eq_getElem?_getD, hy]; exact ep
      have o := ok t (List.mem_of_getElem? ht)
      refine ⟨_, rfl, p, t, by rw [ey]; rfl, h2.grow sm, o, fun H3 s3 => ⟨S (tabT t), _, rfl, rfl, ?_, ?_⟩⟩
      · rw [S_len]
        have := tabT_len o
        exact lt_lineT (by show _ + 1 ≤ _; omega)
      · rw [nl_S]
        exact r _ H3 s3 (by rw [et])
    rw [filter_yes, yl] at pb
    rw [paired_tx (g := fun t => nl (tabT t)) (0, []) pb, tL_strs] at hb
    have fl : (tbs.map fun t => nl (tabT t)).flatten.length ≤ 16 * 5001 := by
      have := flat_nl_len (ts := tbs.map tabT) (k := 5000) (n := 16) (fun x hx => by
        obtain ⟨t, ht, rfl⟩ := List.mem_map.mp hx
        exact tabT_len (ok t ht)) (by rw [List.length_map]; exact l16)
      rw [List.map_map] at this
      exact this
    refine ⟨S [], D, (tbs.map fun t => nl (tabT t)).map S, rfl, rfl, .inl (SqL.of hb), by rw [join_cost0]; omega, ?_⟩
    rw [join_S, joinL_nil]
    exact k H2 sm
def spZT (K : PySem.W.Frag) (CT CL CP : Addr) : Sp := fun vs H Q _ => ∃ (a : Addr) (tbs : List Tb) (many : Nat) (us : List Ui), vs = [.ref a] ∧ PzAt K CT CL CP H a tbs many us ∧ (∀ t ∈ tbs, TbG t) ∧ tbs.length ≤ 16 ∧ many ≤ 400 ∧ (∀ u ∈ us, UiS u) ∧ us.length ≤ 100 ∧ ∀ H', Same H H' → Q (tV (puzT tbs many us)) H'
theorem c_puzzle_text (D : FnAt K mg "puzzle_text" s_puzzle_text) (Z : Ev K mg) (T : Bl mg) (c_lot_text : Cal P w K mg base 3 "lot_text" (spLT K Z.Table Z.Lot) []) (c_use_line : Cal P w K mg base 1 "use_line" (spUL K) []) : Cal P w K mg base 4 "puzzle_text" (spZT K Z.Table Z.Lot Z.Puzzle) [] := by
  refine calOf D sc_puzzle_text (fun _ _ _ _ _ _ us hl => match us, hl with | [_], _ => rfl) (fun vs H Q E h => ?_) (fun f cdv A outer s H vs Q E hr h => ?_)
  · obtain ⟨a, tbs, many, us, rfl, _⟩ := h
    rfl
  · obtain ⟨a, tbs, many, us, rfl, ⟨dx, lo, tu, ys, ha, hL, hU, pU⟩, ok, l16, m4, uok, u100, k⟩ := h
    have nd := sc_puzzle_text.nd
    obtain ⟨yl, ya⟩ := paired_at pU
    have mlt : many < 10 ^ 100 := Nat.lt_of_le_of_lt m4 (by decide +kernel)
    have mlen : (TL.numL many).length ≤ 100 := TL.numL_len (by decide) mlt
    refine ⟨_, (pss_cons (ps_set (i := 1) nd rfl (by first | exact Or.inl rfl | exact Or.inr rfl) (pe_lst (pa_cons (pe_op op_add_str pe_str (pe_callTy call_str_int (by rfl) T.b_str (by decide +kernel) (pa_cons (peFld K (pv 0)) pa_nil))) (pa_starK K (pe_lc (own := [("use", 2)]) (g := gName 2) (tt := tYes) rfl nd (piTup K (peFld K (pv 0))) (blkOk_by (N := ["puzzle", "lines", "use", "line"]) (sc := defScope s_puzzle_text) (own := [("use", 2)]) (by decide +kernel)) (fun _ _ _ _ _ => (pg_name (i := 2) nd rfl (by first | exact Or.inl rfl | exact Or.inr rfl))) (fun _ _ _ _ _ => pts_nil) (fun _ _ _ _ _ => (pe_c c_use_line hr (by decide) (by rfl) (pa_cons (pv 2) pa_nil)))) pa_nil))))
      (pss_one (ps_ret (pe_op op_add_str (pe_c c_lot_text hr (by decide) (by rfl) (pa_cons (peFld K (pv 0)) pa_nil)) (pe_join pe_str (pe_lc (own := [("line", 3)]) (g := gName 3) (tt := tYes) rfl nd (piList K (pv 1)) (blkOk_by (N := ["puzzle", "lines", "use", "line"]) (sc := defScope s_puzzle_text) (own := [("line", 3)]) (by decide +kernel)) (fun _ _ _ _ _ => (pg_name (i := 3) nd rfl (by first | exact Or.inl rfl | exact Or.inr rfl))) (fun _ _ _ _ _ => pts_nil) (fun _ _ _ _ _ => (pe_op op_add_str (pv 3) pe_str)))))))), ?_⟩
    refine ⟨_, rfl, a, Z.Puzzle, dx, _, _, rfl, ha, Z.c_Puzzle.c, Z.n_Puzzle_many, rfl, (many : Int), rfl, log_ok (by rw [Int.natAbs_natCast]; exact mlt), ?_⟩
    rw [nat_S]
    refine ⟨S (namesW ++ [32]), S (TL.numL many), rfl, rfl, ?_, ?_⟩
    · rw [S_len, S_len]
      exact lt_lineT (by show 6 + _ ≤ _; omega)
    rw [S_cat]
    refine ⟨_, rfl, a, Z.Puzzle, dx, _, _, rfl, ha, Z.c_Puzzle.c, Z.n_Puzzle_uses, rfl, tu, rfl, ⟨_, hU⟩, fun D hD => lc_tupT hU (sel := fun _ => true) (P := fun i y _ => y = tV (useT (us.getD i ⟨0, [], 0⟩))) ⟨fun _ _ _ _ _ h => h, fun i H2 _ _ R r => r H2 (Same.refl H2), fun i H2 hi _ sm R r => ?_⟩ hD (lt_line (by omega)) (fun H2 bs sm hb _ pb => ?_)⟩
    · have hy : ys[i]? = some ys[i] := List.getElem?_eq_getElem hi
      obtain ⟨u, hu, hR⟩ := ya i _ hy
      have et : us.getD i ⟨0, [], 0⟩ = u := by rw [List.getD_eq_getElem?_getD, hu]; rfl
      have ey : ys.getD i .non = ys[i] := by rw [List.getD_eq_getElem?_getD, hy]; rfl
      refine ⟨_, rfl, ys[i], u, by rw [ey]; rfl, hR.imm (Same.imm sm), uok u (List.mem_of_getElem? hu), fun H3 s3 => r _ H3 s3 (by rw [et])⟩
    rw [filter_yes, yl] at pb
    rw [paired_tx (g := useT) (⟨0, [], 0⟩ : Ui) pb] at hb
    refine ⟨D, _, rfl, .inr (SqL.of hb), ?_, fun w hw => ?_⟩
    · show (V.str (S (namesW ++ [32] ++ TL.numL many)) :: (tL (us.map useT) ++ [])).length ≤ sizeLine
      rw [List.append_nil, List.length_cons, List.length_map, List.length_map]
      exact lt_lineT (by omega)
    have ew : (V.str (S (namesW ++ [32] ++ TL.numL many)) :: (tL (us.map useT) ++ [])) = tL ((namesW ++ [32] ++ TL.numL many) :: us.map useT) := by
      rw [List.append_nil]
      rfl
    obtain ⟨H3, e3, s3, g3⟩ : ∃ H3, upd H2 w (.lst (V.str (S (namesW ++ [32] ++ TL.numL many)) :: (tL (us.map useT) ++ []))) = H3 ∧ Same H2 H3 ∧ H3 w = some (.lst (tL ((namesW ++ [32] ++ TL.numL many) :: us.map useT))) := ⟨_, rfl, same_new hw, by rw [upd_same, ew]⟩
    subst e3
    have s03 := sm.trans s3
    have tlen : ∀ t ∈ (namesW ++ [32] ++ TL.numL many) :: us.map useT, t.length ≤ 5000 := fun t ht => by
      rcases List.mem_cons.mp ht with z | z
      · rw [z, List.length_append]
        show 6 + _ ≤ 5000
        omega
      · obtain ⟨u, hu, rfl⟩ := List.mem_map.mp z
        exact useWs_len (uok u hu)
    have llen : ((namesW ++ [32] ++ TL.numL many) :: us.map useT).length ≤ 101 := by
      rw [List.length_cons, List.length_map]
      omega
    have ll1 : (lotT tbs).length ≤ 16 * 5001 := by
      have := flat_nl_len (ts := tbs.map tabT) (k := 5000) (n := 16) (fun x hx => by
        obtain ⟨t, ht, rfl⟩ := List.mem_map.mp hx
        exact tabT_len (ok t ht)) (by rw [List.length_map]; exact l16)
      rw [List.map_map] at this
      exact this
    have fl := flat_nl_len tlen llen
    have ekt : puzT tbs many us = lotT tbs ++ (((namesW ++ [32] ++ TL.numL many) :: us.map useT).map nl).flatten := rfl
    rw [ekt] at k
    obtain ⟨ls, els⟩ : ∃ ls, (namesW ++ [32] ++ TL.numL many) :: us.map useT = ls := ⟨_, rfl⟩
    rw [els] at fl llen tlen k g3
    refine ⟨_, rfl, a, Z.Puzzle, dx, _, _, rfl, s03 _ _ ha, Z.c_Puzzle.c, Z.n_Puzzle_lot, rfl, lo, tbs, rfl, hL.grow s03, ok, l16, fun H4 s4 => ?_⟩
    have g4 := s4 _ _ g3
    refine ⟨⟨_, rfl⟩, _, rfl, w, rfl, ⟨_, SqL.of g4⟩, fun D2 hD2 => lc_listT (SqL.of g4) (sel := fun _ => true) (P := fun i y _ => y = tV (nl (ls.getD i []))) ⟨fun _ _ _ _ _ h => h, fun i H2 _ _ R r => r H2 (Same.refl H2), fun i H5 hi _ sm5 R r => ?_⟩ hD2 (lt_line (by rw [List.length_map]; omega)) (fun H5 bs5 sm5 hb5 _ pb5 => ?_)⟩
    · rw [List.length_map] at hi
      have hmem : ls.getD i [] ∈ ls := by
        rw [List.getD_eq_getElem?_getD, List.getElem?_eq_getElem hi]
        exact List.getElem_mem hi
      have e : (tL ls).getD i .non = tV (ls.getD i []) := map_getD [] hi
      refine ⟨_, rfl, S (ls.getD i []), _, by rw [e], rfl, ?_, ?_⟩
      · rw [S_len]
        have := tlen _ hmem
        exact lt_lineT (by show _ + 1 ≤ _; omega)
      · rw [nl_S]
        exact r _ H5 (Same.refl H5) rfl
    rw [filter_yes, List.length_map] at pb5
    rw [paired_tx (g := nl) [] pb5, tL_strs] at hb5
    refine ⟨S [], D2, (ls.map nl).map S, rfl, rfl, .inl (SqL.of hb5), by rw [join_cost0]; omega, ?_⟩
    rw [join_S, joinL_nil]
    refine ⟨S (lotT tbs), S (ls.map nl).flatten, rfl, rfl, ?_, ?_⟩
    · rw [S_len, S_len]
      exact lt_lineT (by omega)
    rw [S_cat]
    exact k H5 ((s03.trans s4).trans sm5)
end
end L2.KK
namespace L2.KK
open PySem PySem.Spec PyProof.Rows C8 SX MT
theorem sc_lines_of : FnScope ["text", "lines"] ["text"] (defScope s_lines_of) := ⟨rfl, rfl, rfl, by decide +kernel, rfl, by decide +kernel, by decide +kernel⟩
theorem sc_number_in : FnScope ["word", "low", "high", "line"] ["word", "low", "high", "line"] (defScope s_number_in) := ⟨rfl, rfl, rfl, by decide +kernel, rfl, by decide +kernel, by decide +kernel⟩
theorem sc_read_price : FnScope ["word", "line"] ["word", "line"] (defScope s_read_price) := ⟨rfl, rfl, rfl, by decide +kernel, rfl, by decide +kernel, by decide +kernel⟩
theorem slice_last (a : Tx) : Txt.slice (S a) (some (-1)) none = S (a.drop (a.length - 1)) := by
  rw [← cutS_slice]
  unfold cutS
  rw [S_len]
  have e1 : HT.sIx a.length 0 (some (-1)) = a.length - 1 := by
    show (if (-1 : Int) < 0 then ((-1 : Int) + (a.length : Int)).toNat else min (-1 : Int).toNat a.length) = _
    rw [if_pos (by decide)]
    omega
  have e2 : HT.sIx a.length a.length none = a.length := rfl
  rw [e1, e2]
  apply TL.ext_tl
  show (a.drop (a.length - 1)).take (a.length - (a.length - 1)) = a.drop (a.length - 1)
  exact List.take_of_length_le (by rw [List.length_drop]; omega)
theorem last_58 (a : Tx) : a.drop (a.length - 1) = [58] ↔ a.getLast? = some 58 := by
  cases h : a.getLast? with
  | none =>
    have : a = [] := List.getLast?_eq_none_iff.mp h
    rw [this]
    exact ⟨fun e => (nomatch e), fun e => (nomatch e)⟩
  | some x =>
    obtain ⟨y, rfl⟩ := List.getLast?_eq_some_iff.mp h
    have e : (y ++ [x]).drop ((y ++ [x]).length - 1) = [x] := by
      rw [List.length_append]
      show (y ++ [x]).drop (y.length + 1 - 1) = [x]
      rw [Nat.add_sub_cancel, List.drop_left]
    rw [e]
    exact ⟨fun z => by cases z; rfl, fun z => by cases z; rfl⟩
theorem ne_58 {a : Tx} (h : a.getLast? = some 58) : a ≠ [] := fun e => by rw [e] at h; cases h
theorem tk_last (a : Tx) : a.take (a.length - 1) = a.dropLast := List.dropLast_eq_take.symm
theorem cutV_from {xs : List V} {n : Nat} : cutV xs (some (n : Int)) none = xs.drop n := by
  unfold cutV
  rw [HT.sIx_nat, HT.sIx_none]
  by_cases h : n ≤ xs.length
  · rw [Nat.min_eq_left h]
    exact List.take_of_length_le (by rw [List.length_drop]; omega)
  · rw [Nat.min_eq_right (by omega), List.drop_length, List.drop_eq_nil_of_le (by omega), List.take_nil]
theorem cutV_to {xs : List V} {n : Nat} : cutV xs none (some (n : Int)) = xs.take n := by
  unfold cutV
  rw [HT.sIx_nat, HT.sIx_none, List.drop_zero, Nat.sub_zero]
  by_cases h : n ≤ xs.length
  · rw [Nat.min_eq_left h]
  · rw [Nat.min_eq_right (by omega), List.take_length, List.take_of_length_le (by omega)]
theorem cutV_two {xs : List V} {i j : Nat} (h : i ≤ j) : cutV xs (some (i : Int)) (some (j : Int)) = (xs.drop i).take (j - i) := by
  unfold cutV
  rw [HT.sIx_nat, HT.sIx_nat]
  by_cases h1 : j ≤ xs.length
  · rw [Nat.min_eq_left h1, Nat.min_eq_left (by omega)]
  · rw [Nat.min_eq_right (by omega)]
    by_cases h2 : i ≤ xs.length
    · rw [Nat.min_eq_left h2, List.take_of_length_le (by rw [List.length_drop]; omega), List.take_of_length_le (by rw [List.length_drop]; omega)]
    · rw [Nat.min_eq_right (by omega), List.drop_length, List.drop_eq_nil_of_le (show xs.length ≤ i by omega), List.take_nil, List.take_nil]
theorem tL_drop (ts : List Tx) (n : Nat) : (tL ts).drop n = tL (ts.drop n) := (List.map_drop ..).symm
theorem tL_take (ts : List Tx) (n : Nat) : (tL ts).take n = tL (ts.take n) := (List.map_take ..).symm
theorem tL_get {ts : List Tx} {i : Nat} {t : Tx} (h : ts[i]? = some t) : (tL ts)[i]? = some (tV t) := by
  rw [List.getElem?_map, h]
  rfl
theorem getD_some {ts : List Tx} {i : Nat} (h : i < ts.length) : ts[i]? = some (ts.getD i []) := by
  rw [List.getD_eq_getElem?_getD, List.getElem?_eq_getElem h]
  rfl
theorem dec_lit {a b : Tx} {z : Str} (h : z = S b) : decide (tV a = V.str z) = decide (a = b) := by
  rw [h]
  exact dec_t
theorem int_of {t : Tx} (h : numB t) : PySem.intText? (S t) = some (valI t) ∧ t.length ≤ 101 := by
  obtain ⟨h1, h2, h3, _⟩ := h
  unfold valI
  by_cases c : t.take 1 = [45]
  · unfold digs at h1 h2 h3
    rw [if_pos c] at h1 h2 h3 ⊢
    have e : t = 45 :: t.drop 1 := by
      have := List.take_append_drop 1 t
      rw [c] at this
      exact this.symm
    refine ⟨intText_neg (x := S t) (cs := t.drop 1) e (fun x hx => h3 x hx) h1 ?_, ?_⟩
    · rw [S_len, e, List.length_cons]
      omega
    · rw [e, List.length_cons]
      omega
  · unfold digs at h1 h2 h3
    rw [if_neg c] at h1 h2 h3 ⊢
    refine ⟨intText_digits (x := S t) (fun x hx => h3 x hx) h1 ?_, by omega⟩
    rw [S_len]
    omega
theorem numIn_yes {t : Tx} {lo hi : Int} (h0 : 0 ≤ lo) (h : numB t) (h1 : lo ≤ valI t) (h2 : valI t ≤ hi) : ∃ n : Nat, numIn t lo hi = some n ∧ valI t = (n : Int) := by
  obtain ⟨a1, a2, a3, a4⟩ := h
  by_cases c : t.take 1 = [45]
  · exfalso
    unfold digs at a1 a2 a3 a4
    rw [if_pos c] at a1 a2 a3 a4
    unfold valI at h1
    rw [if_pos c] at h1
    have hz : NumText.digitsVal (t.drop 1) = 0 := by omega
    have hd : (t.drop 1).head? ≠ some 48 := a4.resolve_right fun e => by
      rw [e] at c
      cases c
    have hb := numL_back a1 a3 (.inl hd)
    rw [hz, TL.numL_lt (by decide)] at hb
    rw [← hb] at hd
    exact hd rfl
  · have ev : valI t = (dv t : Int) := by
      unfold valI
      rw [if_neg c]
    unfold digs at a1 a2 a3 a4
    rw [if_neg c] at a1 a2 a3 a4
    refine ⟨dv t, ?_, ev⟩
    unfold numIn
    rw [if_pos ⟨⟨a1, a3, a2, a4⟩, by omega, by omega⟩]
theorem numIn_no {t : Tx} {lo hi : Int} (h : ¬ (numB t ∧ lo ≤ valI t ∧ valI t ≤ hi)) : numIn t lo hi = none := by
  unfold numIn
  rw [if_neg]
  rintro ⟨⟨a1, a2, a3, a4⟩, b1, b2⟩
  have c : ¬ t.take 1 = [45] := fun c => by
    have e : t.head? = some 45 := take_one.mp c
    cases t with
    | nil => exact a1 rfl
    | cons x r =>
      cases e
      have := a2 45 List.mem_cons_self
      omega
  have ev : valI t = (dv t : Int) := by
    unfold valI
    rw [if_neg c]
  refine h ⟨?_, by omega, by omega⟩
  unfold numB digs
  rw [if_neg c]
  exact ⟨a1, a3, a2, a4⟩
section
variable {P : Program} {w : World} {K : PySem.W.Frag} {mg : Str → Option Value} {base : Heap}
def spLO (K : PySem.W.Frag) (CX : Addr) : Sp := fun vs H Q E => ∃ v : V, vs = [v] ∧ ((∃ t : Tx, v = tV t ∧ t.length ≤ 1000000 ∧ (∀ ls, linesR t = .ok ls → ∀ p H', Same H H' → H p = none → H' p = some (.lst (tL ls)) → Q (.ref p) H') ∧ ∀ n, linesR t = .error n → OverV CX "line" H E (nV n)) ∨ (v = .non ∧ OverV CX "line" H E (nV 0)))
theorem c_lines_of (D : FnAt K mg "lines_of" s_lines_of) (Z : Ev K mg) (T : Bl mg) (x_BadText : MakX P w K mg base 1 "BadText" Z.BadText (spX1 K Z.BadText "line")) : CalX P w K mg base 3 "lines_of" (spLO K Z.BadText) := by
  refine calOfX D sc_lines_of (fun _ _ _ _ _ _ us hl => match us, hl with | [_], _ => rfl) (fun vs H Q E h => ?_) (fun f cdv A outer s H vs Q E hr h => ?_)
  · obtain ⟨v, rfl, _⟩ := h
    rfl
  · obtain ⟨v, rfl, h⟩ := h
    have nd := sc_lines_of.nd
    refine ⟨_, (pss_cons (ps_if (PW.pt (pw_or (pt_not (pt_val (pe_callB (crIsi K) (by rfl) T.b_isinstance (by decide +kernel) (pa_cons (pv 0) (pa_cons (pe_bltn (v := .ty "str") (u := .type "str") (by rfl) T.b_str (by decide +kernel) (by rfl)) pa_nil))))) (pw_or1 (pt_cmpR op_gt (pe_callB call_len_str (by rfl) T.b_len (by decide +kernel) (pa_cons (pv 0) pa_nil)) (pe_gc (by rfl) T.g_LENGTH) (nomark _)))))
        (pss_one (ps_rx x_BadText hr (by decide) (by rfl) rfl (takes_of rfl rfl rfl rfl) (pa_cons pe_int pa_nil)))
        pss_nil)
      (pss_cons (ps_set (i := 1) nd rfl (by first | exact Or.inl rfl | exact Or.inr rfl) (pe_split (pv 0) pe_str))
      (pss_cons (ps_if (pt_cmpR op_ne (pe_ix (ixL K) (pv 1) (pe_op op_subNN (pe_callB (crLen K) (by rfl) T.b_len (by decide +kernel) (pa_cons (pv 1) pa_nil)) pe_int) (fun _ _ => rfl)) pe_str (nomark _))
        (pss_one (ps_rx x_BadText hr (by decide) (by rfl) rfl (takes_of rfl rfl rfl rfl) (pa_cons (pe_callB (crLen K) (by rfl) T.b_len (by decide +kernel) (pa_cons (pv 1) pa_nil)) pa_nil)))
        pss_nil)
      (pss_one (ps_ret (pe_slice (slL K) (pv 1) po_none (po_some (pe_op op_subNN (pe_callB (crLen K) (by rfl) T.b_len (by decide +kernel) (pa_cons (pv 1) pa_nil)) pe_int)))))))), ?_⟩
    rcases h with ⟨t, rfl, hz, kQ, kE⟩ | ⟨rfl, kE⟩
    · have hz' : (S t).length ≤ sizeLine := by rw [S_len]; exact lt_lineT (Nat.le_trans hz (by decide))
      refine ⟨_, rfl, _, _, .type "str", .type "str", true, rfl, .ty "str", .base (.str _), kit_ty (by decide +kernel), true, rfl, iteF ?_⟩
      refine ⟨_, rfl, S t, rfl, hz', _, 100000, rfl, rfl, _, rfl, ?_⟩
      rw [S_len]
      refine ite2 (fun h => ?_) (fun h => ?_)
      · have hl : 100000 < t.length := by
          have := of_decide_eq_true h
          omega
        exact ⟨by show 1 ≤ 1000; decide, mkO_1 fun d H' sm hd e => kE 0 (by unfold linesR; rw [if_pos hl]) d H' sm hd e⟩
      have hl : ¬ 100000 < t.length := fun z => h (decide_eq_true (by omega))
      refine ⟨_, rfl, ⟨_, rfl⟩, S t, S [10], rfl, rfl, rfl, by rw [S_len]; exact lt_lineT (by omega), fun p hp => ?_⟩
      rw [split_C (by decide)]
      have ne := spC_ne (c := 10) (by decide) t
      have len0 : 0 < (spC 10 t).length := List.length_pos_iff.mpr ne
      have spl : linesR t = if (spC 10 t).getLast? = some [] then .ok (spC 10 t).dropLast else .error (spC 10 t).length := by
        unfold linesR
        rw [if_neg hl]
      rw [spl] at kQ kE
      generalize spC 10 t = ws at *
      obtain ⟨H1, e1, s1, g1⟩ : ∃ H1, upd H p (.lst ((ws.map S).map V.str)) = H1 ∧ Same H H1 ∧ H1 p = some (.lst (tL ws)) := ⟨_, rfl, same_new hp, by rw [upd_same, tL_strs]⟩
      rw [e1]
      clear e1
      have elast : ws[ws.length - 1]? = some (ws.getD (ws.length - 1) []) := getD_some (by omega)
      have egl : ws.getLast? = some (ws.getD (ws.length - 1) []) := by rw [List.getLast?_eq_getElem?, elast]
      refine ⟨_, rfl, _, rfl, p, _, rfl, .inl (SqL.of g1), ws.length, 1, by rw [List.length_map], rfl, by omega, ?_⟩
      refine ⟨p, tL ws, ((ws.length - 1 : Nat) : Int), tV (ws.getD (ws.length - 1) []), rfl, rfl, SqL.of g1, atI_nat (tL_get elast), rfl, _, rfl, ?_⟩
      show if (!decide (tV (ws.getD (ws.length - 1) []) = V.str (Str.ofString ""))) = true then _ else _
      rw [dec_lit (z := Str.ofString "") (b := []) rfl]
      refine ite2 (fun h => ?_) (fun h => ?_)
      · have hne : ws.getD (ws.length - 1) [] ≠ [] := fun e => by
          rw [decide_eq_true e] at h
          exact absurd h (by decide)
        have ee : (if ws.getLast? = some [] then .ok ws.dropLast else .error ws.length : Except Nat (List Tx)) = .error ws.length := by
          rw [if_neg (fun e => hne (Option.some.inj (egl.symm.trans e)))]
        refine ⟨_, rfl, p, _, rfl, .inl (SqL.of g1), by show 1 ≤ 1000; decide, ?_⟩
        have el : V.int ((tL ws).length : Nat) = nV ws.length := by rw [List.length_map]
        rw [el]
        exact mkO_1 fun d H' sm hd e => kE _ ee d H' (s1.trans sm) (s1.free hd) e
      · have hee : ws.getD (ws.length - 1) [] = [] := by
          apply Classical.byContradiction
          intro e
          exact h (by rw [decide_eq_false e]; rfl)
        have ee : (if ws.getLast? = some [] then .ok ws.dropLast else .error ws.length : Except Nat (List Tx)) = .ok ws.dropLast := by
          rw [if_pos (by rw [egl, hee])]
        refine ⟨_, rfl, _, rfl, p, _, rfl, .inl (SqL.of g1), ws.length, 1, by rw [List.length_map], rfl, by omega, ?_⟩
        refine ⟨((ws.length - 1 : Nat) : Int), rfl, p, tL ws, rfl, SqL.of g1, fun q hq => ?_⟩
        rw [cutV_to, tL_take, ← List.dropLast_eq_take]
        exact kQ _ ee q _ (s1.trans (same_new hq)) (s1.free hq) upd_same
    · refine ⟨_, rfl, _, _, .type "NoneType", .type "str", false, rfl, .ty "str", .base .non, kit_ty (by decide +kernel), false, rfl, iteT ?_⟩
      exact ⟨by show 1 ≤ 1000; decide, mkO_1 fun d H' sm hd e => kE d H' sm hd e⟩
def spNI (CX : Addr) : Sp := fun vs H Q E => ∃ (t : Tx) (lo hi : Int) (ln : V), vs = [tV t, .int lo, .int hi, ln] ∧ t.length ≤ 1000000 ∧ 0 ≤ lo ∧ (∀ n, numIn t lo hi = some n → ∀ H', Same H H' → Q (nV n) H') ∧ (numIn t lo hi = none → OverV CX "line" H E ln)
theorem c_number_in (D : FnAt K mg "number_in" s_number_in) (Z : Ev K mg) (T : Bl mg) (x_BadText : MakX P w K mg base 1 "BadText" Z.BadText (spX1 K Z.BadText "line")) (c_is_number : Cal P w K mg base 1 "is_number" spIsN []) (c_is_whole : Cal P w K mg base 1 "is_whole" spWhole []) : CalX P w K mg base 3 "number_in" (spNI Z.BadText) := by
  refine calOfX D sc_number_in (fun _ _ _ _ _ _ us hl => match us, hl with | [_, _, _, _], _ => rfl) (fun vs H Q E h => ?_) (fun f cdv A outer s H vs Q E hr h => ?_)
  · obtain ⟨t, lo, hi, ln, rfl, _⟩ := h
    rfl
  · obtain ⟨t, lo, hi, ln, rfl, hz, hlo, kQ, kE⟩ := h
    refine ⟨_, (pss_cons (ps_if (PW.pt (pw_or (pt_not (pt_val (pe_c c_is_number hr (by decide) (by rfl) (pa_cons (pv 0) pa_nil)))) (pw_or1 (pt_not (pt_val (pe_c c_is_whole hr (by decide) (by rfl) (pa_cons (pe_callTy call_int_str (by rfl) T.b_int (by decide +kernel) (pa_cons (pv 0) pa_nil)) (pa_cons (pv 1) (pa_cons (pv 2) pa_nil)))))))))
        (pss_one (ps_rx x_BadText hr (by decide) (by rfl) rfl (takes_of rfl rfl rfl rfl) (pa_cons (pv 3) pa_nil)))
        pss_nil)
      (pss_one (ps_ret (pe_callTy call_int_str (by rfl) T.b_int (by decide +kernel) (pa_cons (pv 0) pa_nil))))), ?_⟩
    refine ⟨_, rfl, t, rfl, hz, fun H1 s1 => ⟨_, rfl, ?_⟩⟩
    by_cases hn : numB t
    · rw [decide_eq_true hn]
      refine iteF ?_
      obtain ⟨it, tl⟩ := int_of hn
      refine ⟨_, rfl, S t, valI t, rfl, it, by rw [S_len]; omega, _, rfl, _, rfl, valI t, lo, hi, rfl, _, rfl, ?_⟩
      refine ite2 (fun h => ?_) (fun h => ?_)
      · have hno : ¬ (lo ≤ valI t ∧ valI t ≤ hi) := fun z => by
          rw [decide_eq_true z] at h
          exact absurd h (by decide)
        have kE' := kE (numIn_no fun z => hno z.2)
        exact ⟨_, rfl, by show 1 ≤ 1000; decide, mkO_1 fun d H' sm hd e => kE' d H' (s1.trans sm) (s1.free hd) e⟩
      · have hyes : lo ≤ valI t ∧ valI t ≤ hi := by
          apply Classical.byContradiction
          intro z
          exact h (by rw [decide_eq_false z]; rfl)
        obtain ⟨n, hn1, hn2⟩ := numIn_yes hlo hn hyes.1 hyes.2
        refine ⟨_, rfl, S t, valI t, rfl, it, by rw [S_len]; omega, ?_⟩
        rw [hn2]
        exact kQ n hn1 H1 s1
    · rw [decide_eq_false hn]
      refine iteT ?_
      have kE' := kE (numIn_no fun z => hn z.1)
      exact ⟨_, rfl, by show 1 ≤ 1000; decide, mkO_1 fun d H' sm hd e => kE' d H' (s1.trans sm) (s1.free hd) e⟩
def spRP (CX : Addr) : Sp := fun vs H Q E => ∃ (t : Tx) (ln : V), vs = [tV t, ln] ∧ t.length ≤ 1000000 ∧ (∀ p, prR t = some p → ∀ H', Same H H' → Q (pV p) H') ∧ (prR t = none → OverV CX "line" H E ln)
theorem c_read_price (D : FnAt K mg "read_price" s_read_price) (Z : Ev K mg) (T : Bl mg) (c_number_in : CalX P w K mg base 3 "number_in" (spNI Z.BadText)) : CalX P w K mg base 4 "read_price" (spRP Z.BadText) := by
  refine calOfX D sc_read_price (fun _ _ _ _ _ _ us hl => match us, hl with | [_, _], _ => rfl) (fun vs H Q E h => ?_) (fun f cdv A outer s H vs Q E hr h => ?_)
  · obtain ⟨t, ln, rfl, _⟩ := h
    rfl
  · obtain ⟨t, ln, rfl, hz, kQ, kE⟩ := h
    refine ⟨_, (pss_one (ps_ret (pe_ifExp (pt_cmpR op_eq (pv 0) pe_str (nomark _)) pe_non (pe_cx c_number_in hr (by decide) (by rfl) (takes_of rfl rfl rfl rfl) (pa_cons (pv 0) (pa_cons pe_int (pa_cons (pe_gc (by rfl) T.g_DEAREST) (pa_cons (pv 1) pa_nil)))))))), ?_⟩
    refine ⟨_, rfl, rfl, _, rfl, ?_⟩
    show if decide (tV t = V.str (Str.ofString "x")) = true then _ else _
    rw [dec_lit (z := Str.ofString "x") (b := xW) rfl]
    unfold prR at kQ kE
    refine ite2 (fun h => ?_) (fun h => ?_)
    · rw [if_pos (of_decide_eq_true h)] at kQ
      exact kQ none rfl H (Same.refl H)
    · rw [if_neg fun e => h (decide_eq_true e)] at kQ kE
      refine ⟨_, rfl, _, rfl, t, 0, 1000, ln, rfl, hz, Int.le_refl 0, fun n hn H1 s1 => kQ (some n) (by rw [hn]; rfl) H1 s1, fun hn => kE (by rw [hn]; rfl)⟩
end
end L2.KK
namespace L2.KK
open PySem PySem.Spec PyProof.Rows C8 SX MT
theorem sc_read_table : FnScope ["words", "line", "places", "prices", "word", "price"] ["words", "line"] (defScope s_read_table) := ⟨rfl, rfl, rfl, by decide +kernel, rfl, by decide +kernel, by decide +kernel⟩
theorem al {H : Hp} {a : Addr} {o : HO} (h : H a = none) : ∃ H1, upd H a o = H1 ∧ Same H H1 ∧ H1 a = some o := ⟨_, rfl, same_new h, upd_same⟩
theorem mkT {K : PySem.W.Frag} {CT : Addr} {H : Hp} {x dx tp : Addr} {k : Nat} {ps : List (Option Nat)} (hx : H x = none) (hd : H dx = none) (ne : dx ≠ x) (h : SqT K H tp (ps.map pV)) :
    ∃ M, upd (upd H dx (.own x)) x (.ins CT dx (tabF k tp ps)) = M ∧ Same H M ∧ SqT K (upd (upd H dx (.own x)) x (.ins CT dx [])) tp (ps.map pV) ∧ TabAt K CT M x k ps := by
  have s1 := same_new (o := .own x) hd
  have hx2 : (upd H dx (.own x)) x = none := by rw [upd_ne ne.symm]; exact hx
  have s2 : Same (upd H dx (.own x)) (upd (upd H dx (.own x)) x (.ins CT dx [])) := same_new hx2
  have s3 : Same (upd H dx (.own x)) (upd (upd H dx (.own x)) x (.ins CT dx (tabF k tp ps))) := same_new hx2
  exact ⟨_, rfl, s1.trans s3, same_seqT (s1.trans s2) h, dx, tp, upd_same, same_seqT (s1.trans s3) h⟩
/-- all items read -/
theorem paired_opt {α : Type} {f : Tx → Option α} {g : α → V} {ws : List Tx} {bs : List V} (h : Paired (fun y w => ∃ q, f w = some q ∧ y = g q) bs ws) : ∃ r, seqO (ws.map f) = some r ∧ bs = r.map g := by
  induction h with
  | nil => exact ⟨[], rfl, rfl⟩
  | @cons y w bs ws hr t ih =>
    obtain ⟨q, hq, e⟩ := hr
    obtain ⟨r, hr, er⟩ := ih
    refine ⟨q :: r, ?_, by rw [List.map_cons, ← e, ← er]⟩
    rw [List.map_cons, hq]
    show (seqO (ws.map f)).map (q :: ·) = _
    rw [hr]
    rfl
theorem prR_none {ws : List Tx} {w : Tx} (hw : w ∈ ws) (h : prR w = none) : seqO (ws.map prR) = none := seqO_none (h ▸ List.mem_map_of_mem hw)
section
variable {P : Program} {w : World} {K : PySem.W.Frag} {mg : Str → Option Value} {base : Heap}
/-- words in the heap -/
def WdAt (K : PySem.W.Frag) (H : Hp) (a : Addr) (ws : List Tx) : Prop := SqL K H a (tL ws) ∧ ∀ w ∈ ws, w.length ≤ 1000000
def spRTb (K : PySem.W.Frag) (CT CX : Addr) : Sp := fun vs H Q E => ∃ (a : Addr) (ws : List Tx) (ln : V), vs = [.ref a, ln] ∧ WdAt K H a ws ∧ ws.length ≤ 1000000 ∧ (∀ t, tabR ws = some t → ∀ p H', Same H H' → TabAt K CT H' p t.1 t.2 → Q (.ref p) H') ∧ (tabR ws = none → OverV CX "line" H E ln)
theorem c_read_table (D : FnAt K mg "read_table" s_read_table) (Z : Ev K mg) (T : Bl mg) (x_BadText : MakX P w K mg base 1 "BadText" Z.BadText (spX1 K Z.BadText "line")) (c_number_in : CalX P w K mg base 3 "number_in" (spNI Z.BadText)) (c_read_price : CalX P w K mg base 4 "read_price" (spRP Z.BadText)) (c_Table : Mak P w K mg base 3 "Table" Z.Table (spTab K Z.Table) []) : CalX P w K mg base 6 "read_table" (spRTb K Z.Table Z.BadText) := by
  refine calOfX D sc_read_table (fun _ _ _ _ _ _ us hl => match us, hl with | [_, _], _ => rfl) (fun vs H Q E h => ?_) (fun f cdv A outer s H vs Q E hr h => ?_)
  · obtain ⟨a, ws, ln, rfl, _⟩ := h
    rfl
  · obtain ⟨a, ws, ln, rfl, ⟨hS, hw⟩, hlen, kQ, kE⟩ := h
    have nd := sc_read_table.nd
    have wlen : (tL ws).length = ws.length := List.length_map ..
    refine ⟨_, (pss_cons (ps_if (PW.pt (pw_or (pt_cmpR op_lt (pe_callB (crLen K) (by rfl) T.b_len (by decide +kernel) (pa_cons (pv 0) pa_nil)) pe_int (nomark _)) (pw_or1 (pt_cmpR op_ne (pe_slice sl_txt (pe_ix (ixL K) (pv 0) pe_int (fun _ _ => rfl)) (po_some (pe_un un_neg pe_int)) po_none) pe_str (nomark _)))))
        (pss_one (ps_rx x_BadText hr (by decide) (by rfl) rfl (takes_of rfl rfl rfl rfl) (pa_cons (pv 1) pa_nil)))
        pss_nil)
      (pss_cons (ps_set (i := 2) nd rfl (by first | exact Or.inl rfl | exact Or.inr rfl) (pe_cx c_number_in hr (by decide) (by rfl) (takes_of rfl rfl rfl rfl) (pa_cons (pe_slice sl_txt (pe_ix (ixL K) (pv 0) pe_int (fun _ _ => rfl)) po_none (po_some (pe_un un_neg pe_int))) (pa_cons pe_int (pa_cons (pe_gc (by rfl) T.g_PLACES) (pa_cons (pv 1) pa_nil))))))
      (pss_cons (ps_set (i := 3) nd rfl (by first | exact Or.inl rfl | exact Or.inr rfl) (pe_callTy (crTup K) (by rfl) T.b_tuple (by decide +kernel) (pa_cons (pe_lcX (own := [("word", 4)]) (g := gName 4) (tt := tYes) (takes_of rfl rfl rfl rfl) rfl rfl rfl nd (piList K (pe_slice (slL K) (pv 0) (po_some pe_int) po_none)) (blkOk_by (N := ["words", "line", "places", "prices", "word", "price"]) (sc := defScope s_read_table) (own := [("word", 4)]) (by decide +kernel)) (fun _ _ _ _ _ => (pg_name (i := 4) nd rfl (by first | exact Or.inl rfl | exact Or.inr rfl))) (fun _ _ _ _ _ => pts_nil) (fun _ _ _ _ _ => (pe_cxB c_read_price hr (by decide) (by rfl) (pa_cons (pv 4) (pa_cons (pv 1) pa_nil))))) pa_nil)))
      (pss_cons (ps_if (PW.pt (pw_or (pt_cmpR op_ne (pe_callB (crLen K) (by rfl) T.b_len (by decide +kernel) (pa_cons (pv 3) pa_nil)) (pe_op op_shlNN pe_int (pv 2)) (nomark _)) (pw_or1 (pt_val (pe_callB (crAll K) (by rfl) T.b_all (by decide +kernel) (pa_cons (pe_lc (own := [("price", 5)]) (g := gName 5) (tt := tYes) rfl nd (piTup K (pv 3)) (blkOk_by (N := ["words", "line", "places", "prices", "word", "price"]) (sc := defScope s_read_table) (own := [("price", 5)]) (by decide +kernel)) (fun _ _ _ _ _ => (pg_name (i := 5) nd rfl (by first | exact Or.inl rfl | exact Or.inr rfl))) (fun _ _ _ _ _ => pts_nil) (fun _ _ _ _ _ => (pe_cmpR op_isN (pv 5) pe_non (nomark _)))) pa_nil))))))
        (pss_one (ps_rx x_BadText hr (by decide) (by rfl) rfl (takes_of rfl rfl rfl rfl) (pa_cons (pv 1) pa_nil)))
        pss_nil)
      (pss_one (ps_ret (pe_mk c_Table hr (by decide) (by rfl) (pa_cons (pv 2) (pa_cons (pv 3) pa_nil))))))))), ?_⟩
    refine ⟨_, rfl, a, _, rfl, .inl hS, _, 2, rfl, rfl, _, rfl, ite2 (fun h => ?_) (fun h => ?_)⟩
    · have hl : ¬ 2 ≤ ws.length := fun z => by
        have := of_decide_eq_true h
        omega
      refine iteT ⟨_, rfl, by show 1 ≤ 1000; decide, mkO_1 (kE ?_)⟩
      unfold tabR
      rw [if_neg fun z => hl z.1]
    have hl : 2 ≤ ws.length := by
      apply Classical.byContradiction
      intro z
      exact h (decide_eq_true (by omega))
    have e1 : ws[1]? = some (ws.getD 1 []) := getD_some (by omega)
    have w1l : (ws.getD 1 []).length ≤ 1000000 := hw _ (List.mem_of_getElem? e1)
    obtain ⟨w1, ew1⟩ : ∃ w1, ws.getD 1 [] = w1 := ⟨_, rfl⟩
    have tabE : tabR ws = if 2 ≤ ws.length ∧ w1.getLast? = some 58 then match numIn w1.dropLast 1 4 with
      | none => none
      | some k => match seqO ((ws.drop 2).map prR) with
        | none => none
        | some ps => if ps.length = 2 ^ k ∧ ps.any Option.isSome = true then some (k, ps) else none
      else none := by
      unfold tabR
      rw [ew1]
      try rfl
    rw [ew1] at e1 w1l
    rw [tabE] at kQ kE
    have hw1 : (S w1).length ≤ sizeLine := by rw [S_len]; exact lt_lineT (Nat.le_trans w1l (by decide))
    refine ⟨_, rfl, a, _, (1 : Int), tV w1, rfl, rfl, hS, atI_nat (j := 1) (tL_get e1), 1, rfl, _, rfl, S w1, rfl, hw1, rfl, _, rfl, ?_⟩
    show if (!decide (V.str (Txt.slice (S w1) (some (-1)) none) = V.str (Str.ofString ":"))) = true then _ else _
    rw [slice_last, dec_lit (z := Str.ofString ":") (b := [58]) rfl]
    refine ite2 (fun h => ?_) (fun h => ?_)
    · have hn : ¬ w1.getLast? = some 58 := fun z => by
        rw [decide_eq_true ((last_58 w1).mpr z)] at h
        exact absurd h (by decide)
      refine ⟨_, rfl, by show 1 ≤ 1000; decide, mkO_1 (kE ?_)⟩
      rw [if_neg fun z => hn z.2]
    have h58 : w1.getLast? = some 58 := by
      apply Classical.byContradiction
      intro z
      exact h (by rw [decide_eq_false fun q => z ((last_58 w1).mp q)]; rfl)
    rw [if_pos ⟨hl, h58⟩] at kQ kE
    refine ⟨_, rfl, a, _, (1 : Int), tV w1, rfl, rfl, hS, atI_nat (j := 1) (tL_get e1), 1, rfl, _, rfl, S w1, rfl, hw1, ?_⟩
    rw [show (-(1 : Int)) = -1 from rfl, slice_butlast (ne_58 h58), tk_last]
    refine ⟨_, rfl, w1.dropLast, 1, 4, ln, rfl, by rw [List.length_dropLast]; omega, by decide, fun k hk H1 s1 => ?_, fun hk => kE (by rw [hk])⟩
    rw [hk] at kQ kE
    dsimp only at kQ kE
    obtain ⟨_, k1, k4, _⟩ := numIn_some hk
    have hS1 := s1.seq hS
    -- the prices
    refine ⟨_, rfl, 2, rfl, a, tL ws, rfl, hS1, fun q hq => ?_⟩
    rw [show (some (2 : Int)) = some ((2 : Nat) : Int) from rfl, cutV_from, tL_drop]
    obtain ⟨H2, e2, s2, g2⟩ := al (o := .lst (tL (ws.drop 2))) hq
    rw [e2]
    clear e2
    have s02 := s1.trans s2
    generalize hd : ws.drop 2 = ps at *
    have pw : ∀ w ∈ ps, w.length ≤ 1000000 := fun w h => hw w (List.mem_of_mem_drop (hd ▸ h))
    have pl : ps.length ≤ 1000000 := by rw [← hd, List.length_drop]; omega
    refine ⟨q, rfl, ⟨_, SqL.of g2⟩, fun W hW => lc_listT (SqL.of g2) (sel := fun _ => true) (P := fun i y _ => ∃ p, prR (ps.getD i []) = some p ∧ y = pV p) ⟨fun _ _ _ _ _ h => h, fun i H2 _ _ R r => r H2 (Same.refl H2), fun i H3 hi _ sm3 R r => ?_⟩ hW (lt_lineT (by rw [List.length_map]; omega)) (fun H3 bs sm3 hb _ pb => ?_)⟩
    · rw [List.length_map] at hi
      have hm : ps.getD i [] ∈ ps := List.mem_of_getElem? (getD_some hi)
      have e : (tL ps).getD i .non = tV (ps.getD i []) := map_getD [] hi
      refine ⟨_, rfl, _, rfl, ps.getD i [], ln, by rw [e], pw _ hm, fun p hp H4 s4 => r _ H4 s4 ⟨p, hp, rfl⟩, fun hp => ?_⟩
      have := kE (by rw [prR_none hm hp])
      exact this.pass (s02.trans sm3)
    rw [filter_yes, List.length_map] at pb
    have pb2 : Paired (fun y w => ∃ p, prR w = some p ∧ y = pV p) bs ps := by
      have z := paired_mapR (F := fun y w => ∃ p, prR w = some p ∧ y = pV p) (fun i => ps.getD i []) pb
      rw [map_range_get] at z
      exact z
    obtain ⟨qs, hqs, rfl⟩ := paired_opt pb2
    rw [hqs] at kQ kE
    dsimp only at kQ kE
    have ql : qs.length = ps.length := by
      have z := congrArg List.length (seqO_some.mp hqs)
      rw [List.length_map, List.length_map] at z
      exact z.symm
    refine ⟨W, _, rfl, .inl ⟨SqL.of hb, fun tp htp => ?_⟩⟩
    obtain ⟨H4, e4, s4, g4⟩ := al (o := .tup (qs.map pV)) htp
    rw [e4]
    clear e4
    have s04 := (s02.trans sm3).trans s4
    have hT : SqT K H4 tp (qs.map pV) := .inl (.inl g4)
    refine ⟨_, rfl, tp, _, rfl, .inr hT, _, rfl, 1, k, rfl, rfl, ⟨by omega, by decide⟩, rfl, _, rfl, ?_⟩
    have dl : decide (V.int (((qs.map pV).length : Nat) : Int) = nV (1 * 2 ^ k)) = decide (qs.length = 2 ^ k) := by
      rw [List.length_map, Nat.one_mul, Bool.eq_iff_iff, decide_eq_true_iff, decide_eq_true_iff]
      exact ⟨fun h => by have := V.int.inj h; omega, fun h => by rw [h]⟩
    show if (!decide (V.int (((qs.map pV).length : Nat) : Int) = nV (1 * 2 ^ k))) = true then _ else _
    rw [dl]
    refine ite2 (fun h => ?_) (fun h => ?_)
    · have hn : ¬ qs.length = 2 ^ k := fun z => by
        rw [decide_eq_true z] at h
        exact absurd h (by decide)
      rw [if_neg fun z => hn z.1] at kE
      exact iteT ⟨_, rfl, by show 1 ≤ 1000; decide, mkO_1 ((kE rfl).pass s04)⟩
    have h2k : qs.length = 2 ^ k := by
      apply Classical.byContradiction
      intro z
      exact h (by rw [decide_eq_false z]; rfl)
    have k16 : 2 ^ k ≤ 2 ^ 4 := Nat.pow_le_pow_right (by decide) (by omega)
    refine ⟨_, rfl, tp, rfl, ⟨_, hT⟩, fun W2 hW2 => lc_tupT hT (sel := fun _ => true) (P := fun i y _ => y = .bl (qs.getD i none).isNone) ⟨fun _ _ _ _ _ h => h, fun i H2 _ _ R r => r H2 (Same.refl H2), fun i H5 hi _ sm5 R r => ?_⟩ hW2 (lt_lineT (by rw [List.length_map]; omega)) (fun H5 bs5 sm5 hb5 _ pb5 => ?_)⟩
    · rw [List.length_map] at hi
      have e : (qs.map pV).getD i .non = pV (qs.getD i none) := map_getD none hi
      refine ⟨_, rfl, ?_⟩
      rw [e]
      refine ⟨rfl, r _ H5 (Same.refl H5) ?_⟩
      cases qs.getD i none <;> rfl
    rw [filter_yes, List.length_map] at pb5
    have e5 : bs5 = (qs.map Option.isNone).map V.bl := by
      rw [paired_map_eq pb5]
      have z := congrArg (List.map fun p : Option Nat => V.bl p.isNone) (map_range_get qs none)
      rw [List.map_map] at z
      rw [List.map_map]
      exact z
    rw [e5] at hb5
    refine ⟨W2, _, rfl, SqL.of hb5, _, rfl, ?_⟩
    have eall : (qs.map Option.isNone).all id = !(qs.any Option.isSome) := by
      rw [List.all_map, Bool.eq_iff_iff, List.all_eq_true, Bool.not_eq_true', List.any_eq_false]
      constructor
      · intro h x hx z
        have := h x hx
        cases x with
        | none => cases z
        | some _ => cases this
      · intro h x hx
        have := h x hx
        cases x with
        | none => rfl
        | some _ => exact absurd rfl this
    rw [eall]
    have s05 := s04.trans sm5
    refine ite2 (fun h => ?_) (fun h => ?_)
    · rw [if_neg (fun z => by rw [z.2] at h; exact absurd h (by decide))] at kE
      exact ⟨_, rfl, by show 1 ≤ 1000; decide, mkO_1 ((kE rfl).pass s05)⟩
    have hany : qs.any Option.isSome = true := by
      cases e : qs.any Option.isSome with
      | true => rfl
      | false => rw [e] at h; exact absurd rfl h
    rw [if_pos ⟨h2k, hany⟩] at kQ
    have hT5 := same_seqT sm5 hT
    refine ⟨_, rfl, _, rfl, ?_⟩
    intro x dx hx hdx ne
    obtain ⟨M, eM, sM, hTM, tM⟩ := mkT (K := K) (k := k) (CT := Z.Table) hx hdx ne hT5
    have le : ∀ p ∈ qs, ∀ m, p = some m → m ≤ 1000 := fun p hp m hm => by
      have z := seqO_some.mp hqs
      have hp2 : some p ∈ ps.map prR := by rw [z]; exact List.mem_map_of_mem hp
      obtain ⟨w, hw1, hw2⟩ := List.mem_map.mp hp2
      exact (prR_some hw2).2 m hm
    refine ⟨x, dx, tp, k, qs, rfl, upd_same, hTM, by omega, h2k, fun p hp m hm => Nat.le_trans (le p hp m hm) (by decide), rfl, ?_⟩
    rw [upd_upd, eM]
    exact kQ _ rfl x M (s05.trans sM) tM
end
end L2.KK
namespace L2.KK
open PySem PySem.Spec PyProof.Rows C8 SX MT
theorem sc_read_use : FnScope ["words", "lot", "many", "line", "at", "size", "rest", "names", "word"] ["words", "lot", "many", "line"] (defScope s_read_use) := ⟨rfl, rfl, rfl, by decide +kernel, rfl, by decide +kernel, by decide +kernel⟩
theorem useR_eq (ws : List Tx) (tbs : List Tb) (many : Nat) : useR ws tbs many = if 3 ≤ ws.length ∧ ws.getD 2 [] = onW then
    match numIn (ws.getD 1 []) 0 ((tbs.length : Int) - 1) with
    | none => none
    | some a =>
      if ws.length = 3 + (tbs.getD a (0, [])).1 ∨ ws.length = 5 + (tbs.getD a (0, [])).1 ∧ ws.getD (3 + (tbs.getD a (0, [])).1) [] = timesW then
        match seqO (((ws.drop 3).take (tbs.getD a (0, [])).1).map fun w => numIn w 0 ((many : Int) - 1)) with
        | none => none
        | some ns => if ws.length = 3 + (tbs.getD a (0, [])).1 then some ⟨(a : Int), ns.map (fun n : Nat => (n : Int)), 1⟩ else (numIn (ws.getD (4 + (tbs.getD a (0, [])).1) []) 2 (10 ^ 40)).map fun t : Nat => (⟨(a : Int), ns.map (fun n : Nat => (n : Int)), (t : Int)⟩ : Ui)
      else none
  else none := rfl
section
variable {P : Program} {w : World} {K : PySem.W.Frag} {mg : Str → Option Value} {base : Heap}
def spRU (K : PySem.W.Frag) (CT CL CX : Addr) : Sp := fun vs H Q E => ∃ (a l : Addr) (ws : List Tx) (tbs : List Tb) (many : Nat) (ln : V), vs = [.ref a, .ref l, nV many, ln] ∧ WdAt K H a ws ∧ ws.length ≤ 1000000 ∧ LtAt K CT CL H l tbs ∧ 1 ≤ tbs.length ∧ tbs.length ≤ 1000 ∧ (∀ t ∈ tbs, TbG t) ∧
  (∀ u, useR ws tbs many = some u → ∀ y H', Same H H' → UiR K H' y u → Q y H') ∧ (useR ws tbs many = none → OverV CX "line" H E ln)
theorem c_read_use (D : FnAt K mg "read_use" s_read_use) (Z : Ev K mg) (T : Bl mg) (x_BadText : MakX P w K mg base 1 "BadText" Z.BadText (spX1 K Z.BadText "line")) (c_number_in : CalX P w K mg base 3 "number_in" (spNI Z.BadText)) : CalX P w K mg base 6 "read_use" (spRU K Z.Table Z.Lot Z.BadText) := by
  refine calOfX D sc_read_use (fun _ _ _ _ _ _ us hl => match us, hl with | [_, _, _, _], _ => rfl) (fun vs H Q E h => ?_) (fun f cdv A outer s H vs Q E hr h => ?_)
  · obtain ⟨a, l, ws, tbs, many, ln, rfl, _⟩ := h
    rfl
  · obtain ⟨a, l, ws, tbs, many, ln, rfl, ⟨hS, hw⟩, hlen, hL, l1, l1000, tok, kQ, kE⟩ := h
    have nd := sc_read_use.nd
    have wlen : (tL ws).length = ws.length := List.length_map ..
    refine ⟨_, (pss_cons (ps_if (PW.pt (pw_or (pt_cmpR op_lt (pe_callB (crLen K) (by rfl) T.b_len (by decide +kernel) (pa_cons (pv 0) pa_nil)) pe_int (nomark _)) (pw_or1 (pt_cmpR op_ne (pe_ix (ixL K) (pv 0) pe_int (fun _ _ => rfl)) pe_str (nomark _)))))
        (pss_one (ps_rx x_BadText hr (by decide) (by rfl) rfl (takes_of rfl rfl rfl rfl) (pa_cons (pv 3) pa_nil)))
        pss_nil)
      (pss_cons (ps_set (i := 4) nd rfl (by first | exact Or.inl rfl | exact Or.inr rfl) (pe_cx c_number_in hr (by decide) (by rfl) (takes_of rfl rfl rfl rfl) (pa_cons (pe_ix (ixL K) (pv 0) pe_int (fun _ _ => rfl)) (pa_cons pe_int (pa_cons (pe_op op_subNN (pe_callB (crLen K) (by rfl) T.b_len (by decide +kernel) (pa_cons (peFld K (pv 1)) pa_nil)) pe_int) (pa_cons (pv 3) pa_nil))))))
      (pss_cons (ps_set (i := 5) nd rfl (by first | exact Or.inl rfl | exact Or.inr rfl) (peFld K (pe_ix (ixT K) (peFld K (pv 1)) (pv 4) (fun _ _ => rfl))))
      (pss_cons (ps_set (i := 6) nd rfl (by first | exact Or.inl rfl | exact Or.inr rfl) (pe_slice (slL K) (pv 0) (po_some (pe_op op_addNN pe_int (pv 5))) po_none))
      (pss_cut (ps_if (PW.pt (pw_or (pt_cmpR op_lt (pe_callB (crLen K) (by rfl) T.b_len (by decide +kernel) (pa_cons (pv 0) pa_nil)) (pe_op op_addNN pe_int (pv 5)) (nomark _)) (pw_or1 (PW.pt (pw_and (ptTru K (pv 6)) (pw_and1 (PW.pt (pw_or (pt_cmpR op_ne (pe_callB (crLen K) (by rfl) T.b_len (by decide +kernel) (pa_cons (pv 6) pa_nil)) pe_int (nomark _)) (pw_or1 (pt_cmpR op_ne (pe_ix (ixL K) (pv 6) pe_int (fun _ _ => rfl)) pe_str (nomark _)))))))))))
        (pss_one (ps_rx x_BadText hr (by decide) (by rfl) rfl (takes_of rfl rfl rfl rfl) (pa_cons (pv 3) pa_nil)))
        pss_nil)
      (pss_cons (ps_set (i := 7) nd rfl (by first | exact Or.inl rfl | exact Or.inr rfl) (pe_callTy (crTup K) (by rfl) T.b_tuple (by decide +kernel) (pa_cons (pe_lcX (own := [("word", 8)]) (g := gName 8) (tt := tYes) (takes_of rfl rfl rfl rfl) rfl rfl rfl nd (piList K (pe_slice (slL K) (pv 0) (po_some pe_int) (po_some (pe_op op_addNN pe_int (pv 5))))) (blkOk_by (N := ["words", "lot", "many", "line", "at", "size", "rest", "names", "word"]) (sc := defScope s_read_use) (own := [("word", 8)]) (by decide +kernel)) (fun _ _ _ _ _ => (pg_name (i := 8) nd rfl (by first | exact Or.inl rfl | exact Or.inr rfl))) (fun _ _ _ _ _ => pts_nil) (fun _ _ _ _ _ => (pe_cxB c_number_in hr (by decide) (by rfl) (pa_cons (pv 8) (pa_cons pe_int (pa_cons (pe_op op_sub (pv 2) pe_int) (pa_cons (pv 3) pa_nil))))))) pa_nil)))
      (pss_one (ps_ret (pe_tup (pa_cons (pv 4) (pa_cons (pv 7) (pa_cons (pe_ifExp (ptTru K (pv 6)) (pe_cx c_number_in hr (by decide) (by rfl) (takes_of rfl rfl rfl rfl) (pa_cons (pe_ix (ixL K) (pv 6) pe_int (fun _ _ => rfl)) (pa_cons pe_int (pa_cons (pe_gc (by rfl) T.g_TIMES) (pa_cons (pv 3) pa_nil))))) pe_int) pa_nil)))))))))))), ?_⟩
    rw [useR_eq] at kQ kE
    refine ⟨_, rfl, a, _, rfl, .inl hS, _, 3, rfl, rfl, _, rfl, ite2 (fun h => ?_) (fun h => ?_)⟩
    · have hl : ¬ 3 ≤ ws.length := fun z => by
        have := of_decide_eq_true h
        omega
      refine iteT ⟨_, rfl, by show 1 ≤ 1000; decide, mkO_1 (kE ?_)⟩
      rw [if_neg fun z => hl z.1]
    have hl : 3 ≤ ws.length := by
      apply Classical.byContradiction
      intro z
      exact h (decide_eq_true (by omega))
    have e2 : ws[2]? = some (ws.getD 2 []) := getD_some (by omega)
    refine ⟨_, rfl, a, _, (2 : Int), tV (ws.getD 2 []), rfl, rfl, hS, atI_nat (j := 2) (tL_get e2), rfl, _, rfl, ?_⟩
    show if (!decide (tV (ws.getD 2 []) = V.str (Str.ofString "on"))) = true then _ else _
    rw [dec_lit (z := Str.ofString "on") (b := onW) rfl]
    refine ite2 (fun h => ?_) (fun h => ?_)
    · have hn : ¬ ws.getD 2 [] = onW := fun z => by
        rw [decide_eq_true z] at h
        exact absurd h (by decide)
      refine ⟨_, rfl, by show 1 ≤ 1000; decide, mkO_1 (kE ?_)⟩
      rw [if_neg fun z => hn z.2]
    have hon : ws.getD 2 [] = onW := by
      apply Classical.byContradiction
      intro z
      exact h (by rw [decide_eq_false z]; rfl)
    rw [if_pos ⟨hl, hon⟩] at kQ kE
    have e1 : ws[1]? = some (ws.getD 1 []) := getD_some (by omega)
    have w1l : (ws.getD 1 []).length ≤ 1000000 := hw _ (List.mem_of_getElem? e1)
    obtain ⟨dl, tt, sb, ys, hl0, hTT, pT⟩ := id hL
    obtain ⟨yl, ya⟩ := paired_at pT
    refine ⟨_, rfl, a, _, (1 : Int), tV (ws.getD 1 []), rfl, rfl, hS, atI_nat (j := 1) (tL_get e1), _, rfl, l, Z.Lot, dl, _, _, rfl, hl0, Z.c_Lot.c, Z.n_Lot_tables, rfl, tt, ys, rfl, .inr hTT, tbs.length, 1, by rw [yl], rfl, l1, _, rfl, ?_⟩
    have ehi : ((tbs.length - 1 : Nat) : Int) = (tbs.length : Int) - 1 := by omega
    refine ⟨ws.getD 1 [], 0, (tbs.length : Int) - 1, ln, by rw [← ehi], w1l, Int.le_refl 0, fun at_ hat H1 s1 => ?_, fun hat => kE (by rw [hat])⟩
    rw [hat] at kQ kE
    dsimp only at kQ kE
    obtain ⟨_, _, a3, _⟩ := numIn_some hat
    have alt : at_ < tbs.length := by omega
    have hS1 := s1.seq hS
    have hy : ys[at_]? = some ys[at_] := List.getElem?_eq_getElem (by omega)
    obtain ⟨t, ht, p, ep, dt, tp, hp, _⟩ := ya at_ _ hy
    have et : tbs.getD at_ (0, []) = t := by rw [List.getD_eq_getElem?_getD, ht]; rfl
    have tg := tok t (List.mem_of_getElem? ht)
    have hTT1 := same_seqT s1 hTT
    refine ⟨_, rfl, l, Z.Lot, dl, _, _, rfl, s1 _ _ hl0, Z.c_Lot.c, Z.n_Lot_tables, rfl, _, rfl, tt, ys, (at_ : Int), .ref p, rfl, rfl, hTT1, by rw [← ep]; exact atI_nat hy, p, Z.Table, dt, _, _, rfl, s1 _ _ hp, Z.c_Table.c, Z.n_Table_places, rfl, ?_⟩
    rw [et] at kQ kE
    obtain ⟨size, es⟩ : ∃ size, t.1 = size := ⟨_, rfl⟩
    have s4 : size ≤ 4 := by rw [← es]; exact tg.2.1
    rw [es] at kQ kE
    rw [es]
    refine ⟨_, rfl, _, rfl, 3, size, rfl, rfl, ((3 + size : Nat) : Int), rfl, a, tL ws, rfl, hS1, fun q hq => ?_⟩
    rw [cutV_from, tL_drop]
    obtain ⟨H2, e2', s2, g2⟩ := al (o := .lst (tL (ws.drop (3 + size)))) hq
    rw [e2']
    clear e2'
    have s02 := s1.trans s2
    have hS2 := s2.seq hS1
    have rl : (ws.drop (3 + size)).length = ws.length - (3 + size) := List.length_drop
    obtain ⟨rs, ers⟩ : ∃ rs, ws.drop (3 + size) = rs := ⟨_, rfl⟩
    rw [ers] at g2 rl
    have rget : ∀ i, rs.getD i [] = ws.getD (3 + size + i) [] := fun i => by
      rw [← ers, List.getD_eq_getElem?_getD, List.getElem?_drop, ← List.getD_eq_getElem?_getD]
    refine ⟨fun σ' H' => σ' = [some (.ref a), some (.ref l), some (nV many), some ln, some (nV at_), some (nV size), some (.ref q), none, none] ∧ H' = H2 ∧ (ws.length = 3 + size ∨ ws.length = 5 + size ∧ ws.getD (3 + size) [] = timesW), ?_, ?_⟩
    · refine ⟨_, rfl, a, _, rfl, .inl hS2, _, rfl, 3, size, rfl, rfl, _, _, rfl, rfl, _, rfl, ite2 (fun h => ?_) (fun h => ?_)⟩
      · have hno : ¬ 3 + size ≤ ws.length := fun z => by
          have := of_decide_eq_true h
          omega
        refine iteT ⟨_, rfl, by show 1 ≤ 1000; decide, mkO_1 (OverV.pass (kE ?_) s02)⟩
        rw [if_neg fun z => by rcases z with z | z <;> omega]
      have hge : 3 + size ≤ ws.length := by
        apply Classical.byContradiction
        intro z
        exact h (decide_eq_true (by omega))
      cases hrs : rs with
      | nil =>
        rw [hrs] at rl
        have z0 : ([] : List Tx).length = 0 := rfl
        exact ⟨_, rfl, false, .inl ⟨_, SqL.of g2, by rw [hrs]; rfl⟩, iteF (iteF ⟨rfl, rfl, .inl (by omega)⟩)⟩
      | cons r0 r1 =>
        have rl' : r1.length + 1 = ws.length - (3 + size) := by rw [hrs] at rl; exact rl
        refine ⟨_, rfl, true, .inl ⟨_, SqL.of g2, by rw [hrs]; rfl⟩, iteT ?_⟩
        refine ⟨_, rfl, q, _, rfl, .inl (SqL.of g2), rfl, _, rfl, ?_⟩
        have dl : decide (V.int (((tL rs).length : Nat) : Int) = V.int 2) = decide (r1.length = 1) := by
          rw [hrs, Bool.eq_iff_iff, decide_eq_true_iff, decide_eq_true_iff]
          show V.int (((tL (r0 :: r1)).length : Nat) : Int) = V.int 2 ↔ _
          rw [List.length_map, List.length_cons]
          exact ⟨fun h => by have := V.int.inj h; omega, fun h => by rw [h]; rfl⟩
        show if (!decide (V.int (((tL rs).length : Nat) : Int) = V.int 2)) = true then _ else _
        rw [dl]
        have no : ¬ (ws.length = 3 + size ∨ ws.length = 5 + size ∧ ws.getD (3 + size) [] = timesW) → OverV Z.BadText "line" H2 E ln := fun hn => OverV.pass (kE (by rw [if_neg hn])) s02
        refine ite2 (fun h => ?_) (fun h => ?_)
        · have hn : ¬ r1.length = 1 := fun z => by
            rw [decide_eq_true z] at h
            exact absurd h (by decide)
          exact iteT ⟨_, rfl, by show 1 ≤ 1000; decide, mkO_1 (no fun z => by rcases z with z | z <;> omega)⟩
        have h1 : r1.length = 1 := by
          apply Classical.byContradiction
          intro z
          exact h (by rw [decide_eq_false z]; rfl)
        have er0 : r0 = ws.getD (3 + size) [] := by
          have := rget 0
          rw [hrs] at this
          exact this
        have g0 : (tL rs)[0]? = some (tV r0) := by rw [hrs]; rfl
        refine ⟨_, rfl, q, _, (0 : Int), tV r0, rfl, rfl, SqL.of g2, atI_nat (j := 0) g0, rfl, _, rfl, ?_⟩
        show if (!decide (tV r0 = V.str (Str.ofString "times"))) = true then _ else _
        rw [dec_lit (z := Str.ofString "times") (b := timesW) rfl]
        refine ite2 (fun h => ?_) (fun h => ?_)
        · have hn : ¬ r0 = timesW := fun z => by
            rw [decide_eq_true z] at h
            exact absurd h (by decide)
          exact ⟨_, rfl, by show 1 ≤ 1000; decide, mkO_1 (no fun z => by
            rcases z with z | z
            · omega
            · exact hn (er0.trans z.2))⟩
        · have hn : r0 = timesW := by
            apply Classical.byContradiction
            intro z
            exact h (by rw [decide_eq_false z]; rfl)
          exact ⟨rfl, rfl, .inr ⟨by omega, er0.symm.trans hn⟩⟩
    rintro σ' _ ⟨rfl, rfl, hC⟩
    rw [if_pos hC] at kQ kE
    -- the names
    have hge : 3 + size ≤ ws.length := by rcases hC with z | z <;> omega
    refine ⟨_, rfl, 3, rfl, _, rfl, 3, size, rfl, rfl, ((3 + size : Nat) : Int), rfl, a, tL ws, rfl, hS2, fun q3 hq3 => ?_⟩
    rw [show (some (3 : Int)) = some ((3 : Nat) : Int) from rfl, cutV_two (by omega), tL_drop, tL_take, show 3 + size - 3 = size by omega]
    obtain ⟨H3, e3', s3, g3⟩ := al (o := .lst (tL ((ws.drop 3).take size))) hq3
    rw [e3']
    clear e3'
    have s03 := s02.trans s3
    obtain ⟨ps, eps⟩ : ∃ ps, (ws.drop 3).take size = ps := ⟨_, rfl⟩
    rw [eps] at g3 kQ kE
    have pw : ∀ w ∈ ps, w.length ≤ 1000000 := fun w h => hw w (List.mem_of_mem_drop (List.mem_of_mem_take (eps ▸ h)))
    have pl : ps.length ≤ size := by rw [← eps, List.length_take]; omega
    refine ⟨q3, rfl, ⟨_, SqL.of g3⟩, fun W hW => lc_listT (SqL.of g3) (sel := fun _ => true) (P := fun i y _ => ∃ n, numIn (ps.getD i []) 0 ((many : Int) - 1) = some n ∧ y = nV n) ⟨fun _ _ _ _ _ h => h, fun i H2 _ _ R r => r H2 (Same.refl H2), fun i H4 hi _ sm4 R r => ?_⟩ hW (lt_lineT (by rw [List.length_map]; omega)) (fun H4 bs sm4 hb _ pb => ?_)⟩
    · rw [List.length_map] at hi
      have hm : ps.getD i [] ∈ ps := List.mem_of_getElem? (getD_some hi)
      have e : (tL ps).getD i .non = tV (ps.getD i []) := map_getD [] hi
      refine ⟨_, rfl, _, rfl, (many : Int), 1, rfl, rfl, _, rfl, ps.getD i [], 0, (many : Int) - 1, ln, by rw [e], pw _ hm, Int.le_refl 0, fun n hn H5 s5 => r _ H5 s5 ⟨n, hn, rfl⟩, fun hn => ?_⟩
      have no : seqO (ps.map fun w => numIn w 0 ((many : Int) - 1)) = none := seqO_none (hn ▸ List.mem_map_of_mem (f := fun w => numIn w 0 ((many : Int) - 1)) hm)
      exact OverV.pass (kE (by rw [no])) (s03.trans sm4)
    rw [filter_yes, List.length_map] at pb
    have pb2 : Paired (fun y w => ∃ n, numIn w 0 ((many : Int) - 1) = some n ∧ y = nV n) bs ps := by
      have z := paired_mapR (F := fun y w => ∃ n, numIn w 0 ((many : Int) - 1) = some n ∧ y = nV n) (fun i => ps.getD i []) pb
      rw [map_range_get] at z
      exact z
    obtain ⟨ns, hns, rfl⟩ := paired_opt pb2
    rw [hns] at kQ kE
    dsimp only at kQ kE
    refine ⟨W, _, rfl, .inl ⟨SqL.of hb, fun tp htp => ?_⟩⟩
    obtain ⟨H5, e5, s5, g5⟩ := al (o := .tup (ns.map nV)) htp
    rw [e5]
    clear e5
    have s05 := (s03.trans sm4).trans s5
    have hT : SqT K H5 tp ((ns.map fun n : Nat => (n : Int)).map V.int) := by
      rw [List.map_map]
      exact .inl (.inl g5)
    have gr5 : H5 q = some (.lst (tL rs)) := ((s3.trans sm4).trans s5) _ _ g2
    refine ⟨_, rfl, _, rfl, ?_⟩
    have fin : ∀ (t : Int) (H6 : Hp), Same H5 H6 → (∀ y H', Same H6 H' → UiR K H' y ⟨(at_ : Int), ns.map (fun n : Nat => (n : Int)), t⟩ → Q y H') → 3 ≤ sizeLine ∧ ∀ r, H6 r = none → Q (.ref r) (upd H6 r (.tup [nV at_, .ref tp, .int t])) := fun t H6 s6 g => ⟨by decide, fun r hr0 => by
      have s7 := same_new (o := .tup [nV at_, .ref tp, .int t]) hr0
      exact g _ _ s7 ⟨r, tp, rfl, .inl (.inl upd_same), same_seqT (s6.trans s7) hT⟩⟩
    cases hrs : rs with
    | nil =>
      have z0 : rs.length = 0 := by rw [hrs]; rfl
      have elen : ws.length = 3 + size := by rcases hC with z | z <;> omega
      rw [if_pos elen] at kQ
      refine ⟨_, rfl, false, .inl ⟨_, SqL.of gr5, by rw [hrs]; rfl⟩, iteF ?_⟩
      exact fin 1 H5 (Same.refl H5) fun y H' s6 hu => kQ _ rfl y H' (s05.trans s6) hu
    | cons r0 r1 =>
      have rl' : r1.length + 1 = ws.length - (3 + size) := by rw [hrs] at rl; exact rl
      have nlen : ¬ ws.length = 3 + size := fun z => by omega
      have r1l : r1.length = 1 := by rcases hC with z | z <;> omega
      rw [if_neg nlen] at kQ kE
      have er1 : rs.getD 1 [] = ws.getD (4 + size) [] := by rw [rget 1, show 3 + size + 1 = 4 + size by omega]
      have rslen : rs.length = 2 := by rw [hrs, List.length_cons, r1l]
      have g1 : rs[1]? = some (ws.getD (4 + size) []) := by rw [← er1]; exact getD_some (by omega)
      have hwl : (ws.getD (4 + size) []).length ≤ 1000000 := hw _ (List.mem_of_getElem? (getD_some (show 4 + size < ws.length by omega)))
      refine ⟨_, rfl, true, .inl ⟨_, SqL.of gr5, by rw [hrs]; rfl⟩, iteT ?_⟩
      refine ⟨_, rfl, q, _, (1 : Int), tV (ws.getD (4 + size) []), rfl, rfl, SqL.of gr5, atI_nat (j := 1) (tL_get g1), _, rfl, ?_⟩
      refine ⟨ws.getD (4 + size) [], 2, 10 ^ 40, ln, rfl, hwl, by decide, fun t ht H6 s6 => ?_, fun ht => OverV.pass (kE (by rw [ht]; rfl)) s05⟩
      rw [ht] at kQ
      exact fin (t : Int) H6 s6 fun y H' s7 hu => kQ _ rfl y H' ((s05.trans s6).trans s7) hu
end
end L2.KK
namespace L2.KK
open PySem PySem.Spec PyProof.Rows C8 SX MT
theorem sc_read_tables : FnScope ["lines", "tables", "line", "words"] ["lines"] (defScope s_read_tables) := ⟨rfl, rfl, rfl, by decide +kernel, rfl, by decide +kernel, by decide +kernel⟩
theorem sc_read_lot : FnScope ["text", "lines", "tables"] ["text"] (defScope s_read_lot) := ⟨rfl, rfl, rfl, by decide +kernel, rfl, by decide +kernel, by decide +kernel⟩
theorem emap_id {α : Type} (x : Except Nat (List α)) : x = x.map fun r => [] ++ r := by cases x <;> rfl
theorem tabsR_nil (i : Nat) : tabsR [] i = .ok [] := rfl
theorem tabsR_cons (l : Tx) (r : List Tx) (i : Nat) : tabsR (l :: r) i = if (spC 32 l).getD 0 [] = tableW then match tabR (spC 32 l) with
    | none => .error (i + 1)
    | some t => (tabsR r (i + 1)).map (t :: ·) else .ok [] := rfl
/-- how far the tables are read -/
def Rd0 (ls : List Tx) (i : Nat) (tbs : List Tb) : Prop := tabsR ls 0 = (tabsR (ls.drop i) i).map fun r => tbs ++ r
theorem Rd0.step {ls : List Tx} {i : Nat} {tbs : List Tb} {l : Tx} {t : Tb} (h : Rd0 ls i tbs) (hl : ls[i]? = some l) (h0 : (spC 32 l).getD 0 [] = tableW) (ht : tabR (spC 32 l) = some t) : Rd0 ls (i + 1) (tbs ++ [t]) := by
  obtain ⟨hi, e⟩ := List.getElem?_eq_some_iff.mp hl
  unfold Rd0 at h ⊢
  rw [List.drop_eq_getElem_cons hi, e, tabsR_cons, if_pos h0, ht] at h
  rw [h]
  dsimp only
  cases tabsR (ls.drop (i + 1)) (i + 1) with
  | error e => rfl
  | ok r =>
    show Except.ok (tbs ++ (t :: r)) = Except.ok (tbs ++ [t] ++ r)
    rw [List.append_assoc]
    rfl
theorem Rd0.stop {ls : List Tx} {i : Nat} {tbs : List Tb} {l : Tx} (h : Rd0 ls i tbs) (hl : ls[i]? = some l) (h0 : ¬ (spC 32 l).getD 0 [] = tableW) : tabsR ls 0 = .ok tbs := by
  obtain ⟨hi, e⟩ := List.getElem?_eq_some_iff.mp hl
  unfold Rd0 at h
  rw [List.drop_eq_getElem_cons hi, e, tabsR_cons, if_neg h0] at h
  rw [h]
  show Except.ok (tbs ++ []) = _
  rw [List.append_nil]
theorem Rd0.fin {ls : List Tx} {tbs : List Tb} (h : Rd0 ls ls.length tbs) : tabsR ls 0 = .ok tbs := by
  unfold Rd0 at h
  rw [List.drop_length, tabsR_nil] at h
  rw [h]
  show Except.ok (tbs ++ []) = _
  rw [List.append_nil]
theorem Rd0.bad {ls : List Tx} {i : Nat} {tbs : List Tb} {l : Tx} (h : Rd0 ls i tbs) (hl : ls[i]? = some l) (h0 : (spC 32 l).getD 0 [] = tableW) (ht : tabR (spC 32 l) = none) : tabsR ls 0 = .error (i + 1) := by
  obtain ⟨hi, e⟩ := List.getElem?_eq_some_iff.mp hl
  unfold Rd0 at h
  rw [List.drop_eq_getElem_cons hi, e, tabsR_cons, if_pos h0, ht] at h
  rw [h]
  rfl
theorem spC_words {l : Tx} {k : Nat} (h : l.length ≤ k) : (spC 32 l).length ≤ k + 1 ∧ (∀ w ∈ spC 32 l, w.length ≤ k) ∧ 0 < (spC 32 l).length := by
  have a := joinL_len 32 (spC 32 l)
  rw [spC_join (by decide)] at a
  have ne := spC_ne (c := 32) (by decide) l
  rw [if_neg ne] at a
  have b : ∀ (ps : List Tx), ps.length ≤ (ps.map fun p => p.length + 1).sum ∧ ∀ w ∈ ps, w.length + 1 ≤ (ps.map fun p => p.length + 1).sum := by
    intro ps
    induction ps with
    | nil => exact ⟨Nat.zero_le _, fun w h => (nomatch h)⟩
    | cons p r ih =>
      rw [List.map_cons, List.sum_cons, List.length_cons]
      refine ⟨by omega, fun w hw => ?_⟩
      rcases List.mem_cons.mp hw with z | z
      · rw [z]; omega
      · have := ih.2 w z
        omega
  obtain ⟨b1, b2⟩ := b (spC 32 l)
  exact ⟨by omega, fun w hw => by have := b2 w hw; omega, List.length_pos_iff.mpr ne⟩
section
variable {P : Program} {w : World} {K : PySem.W.Frag} {mg : Str → Option Value} {base : Heap}
def spRTs (K : PySem.W.Frag) (CT CX : Addr) : Sp := fun vs H Q E => ∃ (a : Addr) (ls : List Tx), vs = [.ref a] ∧ SqL K H a (tL ls) ∧ ls.length ≤ 16 ∧ (∀ l ∈ ls, l.length ≤ 900000) ∧
  (∀ tbs, tabsR ls 0 = .ok tbs → tbs ≠ [] → ∀ p ys H', Same H H' → H' p = some (.tup ys) → Paired (TabR K CT H') ys tbs → Q (.ref p) H') ∧ (∀ n, tabsR ls 0 = .error n → OverV CX "line" H E (nV n)) ∧ (tabsR ls 0 = .ok [] → OverV CX "line" H E (nV 1))
theorem c_read_tables (D : FnAt K mg "read_tables" s_read_tables) (Z : Ev K mg) (T : Bl mg) (x_BadText : MakX P w K mg base 1 "BadText" Z.BadText (spX1 K Z.BadText "line")) (c_read_table : CalX P w K mg base 6 "read_table" (spRTb K Z.Table Z.BadText)) : CalX P w K mg base 7 "read_tables" (spRTs K Z.Table Z.BadText) := by
  refine calOfX D sc_read_tables (fun _ _ _ _ _ _ us hl => match us, hl with | [_], _ => rfl) (fun vs H Q E h => ?_) (fun f cdv A outer s H vs Q E hr h => ?_)
  · obtain ⟨a, ls, rfl, _⟩ := h
    rfl
  · obtain ⟨a, ls, rfl, hS, hlen, hl, kQ, kE, kE1⟩ := h
    have nd := sc_read_tables.nd
    have wlen : (tL ls).length = ls.length := List.length_map ..
    refine ⟨_, (pss_cons (ps_set (i := 1) nd rfl (by first | exact Or.inl rfl | exact Or.inr rfl) (pe_lst pa_nil))
      (pss_cut (ps_for (passes_of rfl) rfl (piList K (pv 0)) (pg_name (i := 2) nd rfl (by first | exact Or.inl rfl | exact Or.inr rfl))
        (pss_cons (ps_set (i := 3) nd rfl (by first | exact Or.inl rfl | exact Or.inr rfl) (pe_split (pv 2) pe_str))
        (pss_cons (ps_if (pt_cmpR op_ne (pe_ix (ixL K) (pv 3) pe_int (fun _ _ => rfl)) pe_str (nomark _))
          (pss_one ps_break)
          pss_nil)
        (pss_cons (ps_if (pt_cmpR op_eq (pe_callB (crLen K) (by rfl) T.b_len (by decide +kernel) (pa_cons (pv 1) pa_nil)) (pe_gc (by rfl) T.g_TABLES) (nomark _))
          (pss_one (ps_rx x_BadText hr (by decide) (by rfl) rfl (takes_of rfl rfl rfl rfl) (pa_cons (pe_op op_addNN (pe_callB (crLen K) (by rfl) T.b_len (by decide +kernel) (pa_cons (pv 1) pa_nil)) pe_int) pa_nil)))
          pss_nil)
        (pss_one (ps_expr (pe_bm PySem.F.plainAttrs_list PySem.F.slot_list_append PySem.F.type_list_append mt_append (pv 1) (pa_cons (pe_cx c_read_table hr (by decide) (by rfl) (takes_of rfl rfl rfl rfl) (pa_cons (pv 3) (pa_cons (pe_op op_addNN (pe_callB (crLen K) (by rfl) T.b_len (by decide +kernel) (pa_cons (pv 1) pa_nil)) pe_int) pa_nil))) pa_nil))))))))
      (pss_cons (ps_if (pt_not (ptTru K (pv 1)))
        (pss_one (ps_rx x_BadText hr (by decide) (by rfl) rfl (takes_of rfl rfl rfl rfl) (pa_cons pe_int pa_nil)))
        pss_nil)
      (pss_one (ps_ret (pe_callTy (crTup K) (by rfl) T.b_tuple (by decide +kernel) (pa_cons (pv 1) pa_nil))))))), ?_⟩
    refine ⟨by show 0 ≤ sizeLine; decide, fun tl htl => ?_⟩
    obtain ⟨H1, e1, s1, g1⟩ := al (o := .lst []) htl
    rw [e1]
    clear e1
    refine ⟨fun σ' H' => ∃ (c2 c3 : Option V) (ys : List V) (tbs : List Tb), σ' = [some (.ref a), some (.ref tl), c2, c3] ∧ Same H H' ∧ H' tl = some (.lst ys) ∧ Paired (TabR K Z.Table H') ys tbs ∧ tabsR ls 0 = .ok tbs ∧ tbs.length ≤ 16, ?_, ?_⟩
    · refine ⟨_, rfl, a, rfl, ⟨_, s1.seq hS⟩, ?_⟩
      refine for_list (xs := tL ls) (fun i σ' H' => ∃ (c2 c3 : Option V) (ys : List V) (tbs : List Tb), σ' = [some (.ref a), some (.ref tl), c2, c3] ∧ Same H H' ∧ H' tl = some (.lst ys) ∧ Paired (TabR K Z.Table H') ys tbs ∧ tbs.length = i ∧ Rd0 ls i tbs) ⟨none, none, [], [], rfl, s1, g1, .nil, rfl, emap_id _⟩ (fun i σ' H' _ ⟨_, _, _, _, _, e, _⟩ => e.seq hS) (fun i x σ' H' hx hp => ?_) (fun σ' H' hp => ?_)
      · obtain ⟨c2, c3, ys, tbs, rfl, sm, g, pr, len, rd⟩ := hp
        obtain ⟨l, hi, rfl⟩ := map_get hx
        have ll := hl l (List.mem_of_getElem? hi)
        have ilt : i < ls.length := (List.getElem?_eq_some_iff.mp hi).1
        obtain ⟨yl, _⟩ := paired_at pr
        refine ⟨_, rfl, ⟨_, rfl⟩, S l, S [32], rfl, rfl, rfl, by rw [S_len]; exact lt_lineT (by omega), fun p hp => ?_⟩
        rw [split_C (by decide), ← tL_strs]
        obtain ⟨w1, w2, w3⟩ := spC_words ll
        obtain ⟨H2, e2, s2, g2⟩ := al (o := .lst (tL (spC 32 l))) hp
        rw [e2]
        clear e2
        have sm2 := sm.trans s2
        have g0 : (spC 32 l)[0]? = some ((spC 32 l).getD 0 []) := getD_some w3
        refine ⟨_, rfl, p, _, (0 : Int), tV ((spC 32 l).getD 0 []), rfl, rfl, SqL.of g2, atI_nat (j := 0) (tL_get g0), rfl, _, rfl, ?_⟩
        show if (!decide (tV ((spC 32 l).getD 0 []) = V.str (Str.ofString "table"))) = true then _ else _
        rw [dec_lit (z := Str.ofString "table") (b := tableW) rfl]
        have gt2 := s2 _ _ g
        have pr2 : Paired (TabR K Z.Table H2) ys tbs := Paired.mapP pr fun _ _ q => q.grow s2
        refine ite2 (fun h => ?_) (fun h => ?_)
        · have hn : ¬ (spC 32 l).getD 0 [] = tableW := fun z => by
            rw [decide_eq_true z] at h
            exact absurd h (by decide)
          exact ⟨_, _, ys, tbs, rfl, sm2, gt2, pr2, rd.stop hi hn, by omega⟩
        have h0 : (spC 32 l).getD 0 [] = tableW := by
          apply Classical.byContradiction
          intro z
          exact h (by rw [decide_eq_false z]; rfl)
        have dl : decide (V.int ((ys.length : Nat) : Int) = V.int 16) = false := decide_eq_false fun e => by
          have := V.int.inj e
          omega
        refine ⟨_, rfl, tl, ys, rfl, .inl (SqL.of gt2), rfl, _, rfl, ?_⟩
        show if decide (V.int ((ys.length : Nat) : Int) = V.int 16) = true then _ else _
        rw [dl]
        refine iteF ?_
        refine ⟨_, rfl, .inl ⟨rfl, _, SqL.of gt2⟩, _, rfl, _, rfl, tl, ys, rfl, .inl (SqL.of gt2), ys.length, 1, rfl, rfl, ?_⟩
        refine ⟨p, spC 32 l, nV (ys.length + 1), rfl, ⟨SqL.of g2, fun w hw => Nat.le_trans (w2 w hw) (by decide)⟩, by omega, fun t ht q H3 s3 hT => ?_, fun ht => ?_⟩
        · have gt3 := s3 _ _ gt2
          have s4 : Imm H3 (upd H3 tl (.lst (ys ++ [.ref q]))) := imm_upd gt3 trivial
          have tlH : H tl = none := htl
          refine ⟨tl, ys, .ref q, rfl, rfl, gt3, Nat.lt_of_le_of_lt (show ys.length ≤ 16 by omega) (by decide), _, _, ys ++ [.ref q], tbs ++ [t], rfl, ?_, upd_same, paired_snoc (Paired.mapP pr2 fun _ _ z => (z.grow s3).imm s4) (TabR.imm ⟨q, rfl, hT⟩ s4), by rw [List.length_append, len]; rfl, rd.step hi h0 ht⟩
          exact same_fresh (sm2.trans s3) tlH
        · have := kE _ (rd.bad hi h0 ht)
          rw [← len, ← yl] at this
          exact OverV.pass this sm2
      · obtain ⟨c2, c3, ys, tbs, rfl, sm, g, pr, len, rd⟩ := hp
        rw [wlen] at len rd
        exact ⟨c2, c3, ys, tbs, rfl, sm, g, pr, rd.fin, by omega⟩
    rintro σ' H2 ⟨c2, c3, ys, tbs, rfl, sm, g, pr, et, tl16⟩
    obtain ⟨yl, _⟩ := paired_at pr
    cases ys with
    | nil =>
      cases pr
      refine ⟨_, rfl, false, .inl ⟨_, SqL.of g, rfl⟩, iteT ?_⟩
      exact ⟨by show 1 ≤ 1000; decide, mkO_1 (OverV.pass (kE1 et) sm)⟩
    | cons y0 yr =>
      have tne : tbs ≠ [] := fun z => by rw [z] at yl; cases yl
      refine ⟨_, rfl, true, .inl ⟨_, SqL.of g, rfl⟩, iteF ?_⟩
      refine ⟨_, rfl, tl, _, rfl, .inl ⟨SqL.of g, fun q hq => ?_⟩⟩
      have s3 := same_new (H := H2) (o := .tup (y0 :: yr)) hq
      exact kQ _ et tne q _ _ (sm.trans s3) upd_same (Paired.mapP pr fun _ _ z => z.grow s3)
def spRL (K : PySem.W.Frag) (CT CL CX : Addr) : Sp := fun vs H Q E => ∃ v : V, vs = [v] ∧ ((∃ t : Tx, v = tV t ∧ t.length ≤ 900000 ∧ (∀ ls, linesR t = .ok ls → ls.length ≤ 16) ∧ (∀ tbs, lotR t = .ok tbs → ∀ p H', Same H H' → LtAt K CT CL H' p tbs → Q (.ref p) H') ∧ ∀ n, lotR t = .error n → OverV CX "line" H E (nV n)) ∨ (v = .non ∧ OverV CX "line" H E (nV 0)))
theorem mem_le_sum {x : Nat} : ∀ {l : List Nat}, x ∈ l → x ≤ l.sum
  | [], h => (nomatch h)
  | y :: l, h => by
    rw [List.sum_cons]
    rcases List.mem_cons.mp h with z | z
    · omega
    · have := mem_le_sum z
      omega
theorem lines_le {t : Tx} {ls : List Tx} {k : Nat} (h : linesR t = .ok ls) (hk : t.length ≤ k) : ∀ l ∈ ls, l.length ≤ k := fun l hl => by
  have e := linesR_ok h
  have : (nl l).length ≤ t.length := by
    rw [e, flat_len]
    have hm : (nl l).length ∈ (ls.map nl).map List.length := List.mem_map_of_mem (List.mem_map_of_mem hl)
    exact mem_le_sum hm
  have e2 : (nl l).length = l.length + 1 := List.length_append
  omega
theorem c_read_lot (D : FnAt K mg "read_lot" s_read_lot) (Z : Ev K mg) (T : Bl mg) (x_BadText : MakX P w K mg base 1 "BadText" Z.BadText (spX1 K Z.BadText "line")) (c_lines_of : CalX P w K mg base 3 "lines_of" (spLO K Z.BadText)) (c_read_tables : CalX P w K mg base 7 "read_tables" (spRTs K Z.Table Z.BadText)) (c_Lot : Mak P w K mg base 6 "Lot" Z.Lot (spLot K Z.Table Z.Lot) []) : CalX P w K mg base 8 "read_lot" (spRL K Z.Table Z.Lot Z.BadText) := by
  refine calOfX D sc_read_lot (fun _ _ _ _ _ _ us hl => match us, hl with | [_], _ => rfl) (fun vs H Q E h => ?_) (fun f cdv A outer s H vs Q E hr h => ?_)
  · obtain ⟨v, rfl, _⟩ := h
    rfl
  · obtain ⟨v, rfl, h⟩ := h
    have nd := sc_read_lot.nd
    refine ⟨_, (pss_cons (ps_set (i := 1) nd rfl (by first | exact Or.inl rfl | exact Or.inr rfl) (pe_cx c_lines_of hr (by decide) (by rfl) (takes_of rfl rfl rfl rfl) (pa_cons (pv 0) pa_nil)))
      (pss_cons (ps_set (i := 2) nd rfl (by first | exact Or.inl rfl | exact Or.inr rfl) (pe_cx c_read_tables hr (by decide) (by rfl) (takes_of rfl rfl rfl rfl) (pa_cons (pv 1) pa_nil)))
      (pss_cons (ps_if (pt_cmpR op_ne (pe_callB (crLen K) (by rfl) T.b_len (by decide +kernel) (pa_cons (pv 1) pa_nil)) (pe_callB (crLen K) (by rfl) T.b_len (by decide +kernel) (pa_cons (pv 2) pa_nil)) (nomark _))
        (pss_one (ps_rx x_BadText hr (by decide) (by rfl) rfl (takes_of rfl rfl rfl rfl) (pa_cons (pe_op op_addNN (pe_callB (crLen K) (by rfl) T.b_len (by decide +kernel) (pa_cons (pv 2) pa_nil)) pe_int) pa_nil)))
        pss_nil)
      (pss_one (ps_ret (pe_mk c_Lot hr (by decide) (by rfl) (pa_cons (pv 2) pa_nil))))))), ?_⟩
    rcases h with ⟨t, rfl, hz, h16, kQ, kE⟩ | ⟨rfl, kE⟩
    · unfold lotR at kQ kE
      refine ⟨_, rfl, tV t, rfl, .inl ⟨t, rfl, by omega, fun ls els p H1 s1 hp0 hp => ?_, fun n en => kE n (by rw [en])⟩⟩
      rw [els] at kQ kE
      dsimp only at kQ kE
      have l16 := h16 ls els
      have lle := lines_le els hz
      have wlen : (tL ls).length = ls.length := List.length_map ..
      refine ⟨_, rfl, p, ls, rfl, SqL.of hp, l16, lle, fun tbs et tne q ys H2 s2 hq pr => ?_, fun n en => OverV.pass (kE n (by rw [en])) s1, fun en => OverV.pass (kE 1 (by rw [en]; rfl)) s1⟩
      rw [et] at kQ kE
      dsimp only at kQ kE
      rw [if_neg tne] at kQ kE
      obtain ⟨i1, i2⟩ := tabsR_ok et
      have tl16 : tbs.length ≤ 16 := by
        have := congrArg List.length i1
        rw [List.length_map, List.length_take] at this
        omega
      have tl1 : 1 ≤ tbs.length := List.length_pos_iff.mpr tne
      obtain ⟨yl, _⟩ := paired_at pr
      have hp2 := s2 _ _ hp
      have s02 := s1.trans s2
      refine ⟨_, rfl, p, _, rfl, .inl (SqL.of hp2), _, rfl, q, ys, rfl, .inr (.inl (.inl hq)), rfl, _, rfl, ?_⟩
      have dl : decide (V.int (((tL ls).length : Nat) : Int) = V.int ((ys.length : Nat) : Int)) = decide (ls.length = tbs.length) := by
        rw [wlen, yl, Bool.eq_iff_iff, decide_eq_true_iff, decide_eq_true_iff]
        exact ⟨fun h => by have := V.int.inj h; omega, fun h => by rw [h]⟩
      show if (!decide (V.int (((tL ls).length : Nat) : Int) = V.int ((ys.length : Nat) : Int))) = true then _ else _
      rw [dl]
      refine ite2 (fun h => ?_) (fun h => ?_)
      · have hn : ¬ ls.length = tbs.length := fun z => by
          rw [decide_eq_true z] at h
          exact absurd h (by decide)
        rw [if_neg hn] at kE
        refine ⟨_, rfl, q, ys, rfl, .inr (.inl (.inl hq)), ys.length, 1, rfl, rfl, by show 1 ≤ 1000; decide, ?_⟩
        have := kE _ rfl
        rw [← yl] at this
        exact mkO_1 (OverV.pass this s02)
      · have he : ls.length = tbs.length := by
          apply Classical.byContradiction
          intro z
          exact h (by rw [decide_eq_false z]; rfl)
        rw [if_pos he] at kQ
        refine ⟨_, rfl, ?_⟩
        intro x4 dx4 hx4 hdx4 ne4
        have s5 : Same H2 (upd H2 dx4 (.own x4)) := same_new hdx4
        have hx5 : (upd H2 dx4 (.own x4)) x4 = none := by rw [upd_ne ne4.symm]; exact hx4
        have s6 : Same (upd H2 dx4 (.own x4)) (upd (upd H2 dx4 (.own x4)) x4 (.ins Z.Lot dx4 [])) := same_new hx5
        have pr5 : Paired (TabR K Z.Table (upd H2 dx4 (.own x4))) ys tbs := Paired.mapP pr fun _ _ z => z.grow s5
        have hq5 : SqT K (upd H2 dx4 (.own x4)) q ys := .inl (.inl (s5 _ _ hq))
        refine ⟨x4, dx4, q, ys, tbs, rfl, upd_same, same_seqT s6 hq5, Paired.mapP pr5 fun _ _ z => z.grow s6, tl1, tl16, i2, fun sw H6 kp6 e6 => ⟨rfl, ?_⟩⟩
        have s7 : Same (upd H2 dx4 (.own x4)) H6 := fun c o hc => kp6 _ _ (s6 _ _ hc) (ne_of_none hc hx5)
        exact kQ _ rfl x4 H6 ((s02.trans s5).trans s7) ⟨dx4, q, sw, ys, e6, same_seqT s7 hq5, Paired.mapP pr5 fun _ _ z => z.grow s7⟩
    · exact ⟨_, rfl, .non, rfl, .inr ⟨rfl, kE⟩⟩
end
end L2.KK
namespace L2.KK
open PySem PySem.Spec PyProof.Rows C8 SX MT
theorem sc_read_puzzle : FnScope ["text", "lines", "lot", "at", "words", "many", "uses", "line"] ["text"] (defScope s_read_puzzle) := ⟨rfl, rfl, rfl, by decide +kernel, rfl, by decide +kernel, by decide +kernel⟩
theorem usesR_cons (tbs : List Tb) (many : Nat) (l : Tx) (r : List Tx) (i : Nat) : usesR tbs many (l :: r) i = if (spC 32 l).getD 0 [] = useW then match useR (spC 32 l) tbs many with
    | none => .error (i + 1)
    | some u => (usesR tbs many r (i + 1)).map (u :: ·) else .error (i + 1) := rfl
theorem use_names {tbs : List Tb} {many : Nat} {u : Ui} (h : useB tbs many u = true) (ok : ∀ t ∈ tbs, TbG t) : u.names.length ≤ 4 := by
  unfold useB at h
  obtain ⟨h1, h⟩ := Bool.and_eq_true_iff.mp h
  obtain ⟨h2, h⟩ := Bool.and_eq_true_iff.mp h
  obtain ⟨h3, h4⟩ := Bool.and_eq_true_iff.mp h
  have a1 := of_decide_eq_true h1
  have a3 := of_decide_eq_true h3
  have hlt : u.at_.toNat < tbs.length := by omega
  have e : tbs.getD u.at_.toNat (0, []) = tbs[u.at_.toNat] := by
    rw [List.getD_eq_getElem?_getD, List.getElem?_eq_getElem hlt]
    rfl
  rw [e] at a3
  have := (ok _ (List.getElem_mem hlt)).2.1
  omega
/-- how far the uses are read -/
def Ru (tbs : List Tb) (many : Nat) (ls : List Tx) (k i : Nat) (us : List Ui) : Prop := usesR tbs many ls k = (usesR tbs many (ls.drop i) (k + i)).map fun r => us ++ r
theorem Ru.step {tbs : List Tb} {many : Nat} {ls : List Tx} {k i : Nat} {us : List Ui} {l : Tx} {u : Ui} (h : Ru tbs many ls k i us) (hl : ls[i]? = some l) (h0 : (spC 32 l).getD 0 [] = useW) (ht : useR (spC 32 l) tbs many = some u) : Ru tbs many ls k (i + 1) (us ++ [u]) := by
  obtain ⟨hi, e⟩ := List.getElem?_eq_some_iff.mp hl
  unfold Ru at h ⊢
  rw [List.drop_eq_getElem_cons hi, e, usesR_cons, if_pos h0, ht] at h
  rw [h]
  dsimp only
  rw [Nat.add_assoc]
  cases usesR tbs many (ls.drop (i + 1)) (k + (i + 1)) with
  | error e => rfl
  | ok r =>
    show Except.ok (us ++ (u :: r)) = Except.ok (us ++ [u] ++ r)
    rw [List.append_assoc]
    rfl
theorem Ru.fin {tbs : List Tb} {many : Nat} {ls : List Tx} {k : Nat} {us : List Ui} (h : Ru tbs many ls k ls.length us) : usesR tbs many ls k = .ok us := by
  unfold Ru at h
  rw [List.drop_length] at h
  rw [h]
  show Except.ok (us ++ []) = _
  rw [List.append_nil]
theorem Ru.bad {tbs : List Tb} {many : Nat} {ls : List Tx} {k i : Nat} {us : List Ui} {l : Tx} (h : Ru tbs many ls k i us) (hl : ls[i]? = some l) (h0 : ¬ (spC 32 l).getD 0 [] = useW ∨ useR (spC 32 l) tbs many = none) : usesR tbs many ls k = .error (k + i + 1) := by
  obtain ⟨hi, e⟩ := List.getElem?_eq_some_iff.mp hl
  unfold Ru at h
  rw [List.drop_eq_getElem_cons hi, e, usesR_cons] at h
  rw [h]
  by_cases c : (spC 32 l).getD 0 [] = useW
  · rw [if_pos c, h0.resolve_left fun z => z c]
    rfl
  · rw [if_neg c]
    rfl
theorem headW_some {ls : List Tx} {n : Nat} (h : n < ls.length) : headW ls n = spC 32 (ls.getD n []) := by
  unfold headW
  rw [getD_some h]
theorem headW_none {ls : List Tx} {n : Nat} (h : ¬ n < ls.length) : headW ls n = [] := by
  unfold headW
  rw [List.getElem?_eq_none (by omega)]
section
variable {P : Program} {w : World} {K : PySem.W.Frag} {mg : Str → Option Value} {base : Heap}
def spRZ (K : PySem.W.Frag) (CT CL CP CX : Addr) : Sp := fun vs H Q E => ∃ v : V, vs = [v] ∧ ((∃ t : Tx, v = tV t ∧ t.length ≤ 900000 ∧ (∀ ls, linesR t = .ok ls → ls.length ≤ 16) ∧ (∀ tbs m us, puzR t = .ok (tbs, m, us) → ∀ p H', Same H H' → PzAt K CT CL CP H' p tbs m us → Q (.ref p) H') ∧ ∀ n, puzR t = .error n → OverV CX "line" H E (nV n)) ∨ (v = .non ∧ OverV CX "line" H E (nV 0)))
theorem c_read_puzzle (D : FnAt K mg "read_puzzle" s_read_puzzle) (Z : Ev K mg) (T : Bl mg) (x_BadText : MakX P w K mg base 1 "BadText" Z.BadText (spX1 K Z.BadText "line")) (c_lines_of : CalX P w K mg base 3 "lines_of" (spLO K Z.BadText)) (c_read_tables : CalX P w K mg base 7 "read_tables" (spRTs K Z.Table Z.BadText)) (c_number_in : CalX P w K mg base 3 "number_in" (spNI Z.BadText)) (c_read_use : CalX P w K mg base 6 "read_use" (spRU K Z.Table Z.Lot Z.BadText))
    (c_Lot : Mak P w K mg base 6 "Lot" Z.Lot (spLot K Z.Table Z.Lot) []) (c_Puzzle : Mak P w K mg base 3 "Puzzle" Z.Puzzle (spPz K Z.Table Z.Lot Z.Puzzle) []) : CalX P w K mg base 8 "read_puzzle" (spRZ K Z.Table Z.Lot Z.Puzzle Z.BadText) := by
  refine calOfX D sc_read_puzzle (fun _ _ _ _ _ _ us hl => match us, hl with | [_], _ => rfl) (fun vs H Q E h => ?_) (fun f cdv A outer s H vs Q E hr h => ?_)
  · obtain ⟨v, rfl, _⟩ := h
    rfl
  · obtain ⟨v, rfl, h⟩ := h
    have nd := sc_read_puzzle.nd
    refine ⟨_, (pss_cons (ps_set (i := 1) nd rfl (by first | exact Or.inl rfl | exact Or.inr rfl) (pe_cx c_lines_of hr (by decide) (by rfl) (takes_of rfl rfl rfl rfl) (pa_cons (pv 0) pa_nil)))
      (pss_cons (ps_set (i := 2) nd rfl (by first | exact Or.inl rfl | exact Or.inr rfl) (pe_mk c_Lot hr (by decide) (by rfl) (pa_cons (pe_cx c_read_tables hr (by decide) (by rfl) (takes_of rfl rfl rfl rfl) (pa_cons (pv 1) pa_nil)) pa_nil)))
      (pss_cons (ps_set (i := 3) nd rfl (by first | exact Or.inl rfl | exact Or.inr rfl) (pe_callB (crLen K) (by rfl) T.b_len (by decide +kernel) (pa_cons (peFld K (pv 2)) pa_nil)))
      (pss_cut (ps_set (i := 4) nd rfl (by first | exact Or.inl rfl | exact Or.inr rfl) (pe_ifExp (pt_cmpR op_gt (pe_callB (crLen K) (by rfl) T.b_len (by decide +kernel) (pa_cons (pv 1) pa_nil)) (pv 3) (nomark _)) (pe_split (pe_ix (ixL K) (pv 1) (pv 3) (fun _ _ => rfl)) pe_str) (pe_lst pa_nil)))
      (pss_cons (ps_if (PW.pt (pw_or (pt_cmpR op_ne (pe_callB (crLen K) (by rfl) T.b_len (by decide +kernel) (pa_cons (pv 4) pa_nil)) pe_int (nomark _)) (pw_or1 (pt_cmpR op_ne (pe_ix (ixL K) (pv 4) pe_int (fun _ _ => rfl)) pe_str (nomark _)))))
        (pss_one (ps_rx x_BadText hr (by decide) (by rfl) rfl (takes_of rfl rfl rfl rfl) (pa_cons (pe_op op_addNN (pv 3) pe_int) pa_nil)))
        pss_nil)
      (pss_cons (ps_set (i := 5) nd rfl (by first | exact Or.inl rfl | exact Or.inr rfl) (pe_cx c_number_in hr (by decide) (by rfl) (takes_of rfl rfl rfl rfl) (pa_cons (pe_ix (ixL K) (pv 4) pe_int (fun _ _ => rfl)) (pa_cons pe_int (pa_cons (pe_gc (by rfl) T.g_NAMES) (pa_cons (pe_op op_addNN (pv 3) pe_int) pa_nil))))))
      (pss_cons (ps_set (i := 6) nd rfl (by first | exact Or.inl rfl | exact Or.inr rfl) (pe_lst pa_nil))
      (pss_cons (ps_for (passes_of rfl) rfl (piList K (pe_slice (slL K) (pv 1) (po_some (pe_op op_addNN (pv 3) pe_int)) po_none)) (pg_name (i := 7) nd rfl (by first | exact Or.inl rfl | exact Or.inr rfl))
        (pss_cons (ps_set (i := 3) nd rfl (by first | exact Or.inl rfl | exact Or.inr rfl) (pe_op op_addNN (pv 3) pe_int))
        (pss_cons (ps_set (i := 4) nd rfl (by first | exact Or.inl rfl | exact Or.inr rfl) (pe_split (pv 7) pe_str))
        (pss_cons (ps_if (PW.pt (pw_or (pt_cmpR op_ne (pe_ix (ixL K) (pv 4) pe_int (fun _ _ => rfl)) pe_str (nomark _)) (pw_or1 (pt_cmpR op_eq (pe_callB (crLen K) (by rfl) T.b_len (by decide +kernel) (pa_cons (pv 6) pa_nil)) (pe_gc (by rfl) T.g_USES) (nomark _)))))
          (pss_one (ps_rx x_BadText hr (by decide) (by rfl) rfl (takes_of rfl rfl rfl rfl) (pa_cons (pe_op op_addNN (pv 3) pe_int) pa_nil)))
          pss_nil)
        (pss_one (ps_expr (pe_bm PySem.F.plainAttrs_list PySem.F.slot_list_append PySem.F.type_list_append mt_append (pv 6) (pa_cons (pe_cx c_read_use hr (by decide) (by rfl) (takes_of rfl rfl rfl rfl) (pa_cons (pv 4) (pa_cons (pv 2) (pa_cons (pv 5) (pa_cons (pe_op op_addNN (pv 3) pe_int) pa_nil))))) pa_nil))))))))
      (pss_one (ps_ret (pe_mk c_Puzzle hr (by decide) (by rfl) (pa_cons (pv 2) (pa_cons (pv 5) (pa_cons (pe_callTy (crTup K) (by rfl) T.b_tuple (by decide +kernel) (pa_cons (pv 6) pa_nil)) pa_nil)))))))))))))), ?_⟩
    rcases h with ⟨t, rfl, hz, h16, kQ, kE⟩ | ⟨rfl, kE⟩
    rotate_left
    · exact ⟨_, rfl, .non, rfl, .inr ⟨rfl, kE⟩⟩
    unfold puzR at kQ kE
    refine ⟨_, rfl, tV t, rfl, .inl ⟨t, rfl, by omega, fun ls els p H1 s1 hp0 hp => ?_, fun n en => kE n (by rw [en])⟩⟩
    rw [els] at kQ kE
    dsimp only at kQ kE
    have l16 := h16 ls els
    have lle := lines_le els hz
    have wlen : (tL ls).length = ls.length := List.length_map ..
    refine ⟨_, rfl, p, ls, rfl, SqL.of hp, l16, lle, fun tbs et tne q ys H2 s2 hq pr => ?_, fun n en => OverV.pass (kE n (by rw [en])) s1, fun en => OverV.pass (kE 1 (by rw [en]; rfl)) s1⟩
    rw [et] at kQ kE
    dsimp only at kQ kE
    rw [if_neg tne] at kQ kE
    obtain ⟨i1, i2⟩ := tabsR_ok et
    have tll : tbs.length ≤ ls.length := by
      have := congrArg List.length i1
      rw [List.length_map, List.length_take] at this
      omega
    have tl1 : 1 ≤ tbs.length := List.length_pos_iff.mpr tne
    obtain ⟨yl, _⟩ := paired_at pr
    have hp2 := s2 _ _ hp
    have s02 := s1.trans s2
    -- the lot
    intro x4 dx4 hx4 hdx4 ne4
    have s5 : Same H2 (upd H2 dx4 (.own x4)) := same_new hdx4
    have hx5 : (upd H2 dx4 (.own x4)) x4 = none := by rw [upd_ne ne4.symm]; exact hx4
    have s6 : Same (upd H2 dx4 (.own x4)) (upd (upd H2 dx4 (.own x4)) x4 (.ins Z.Lot dx4 [])) := same_new hx5
    have pr5 : Paired (TabR K Z.Table (upd H2 dx4 (.own x4))) ys tbs := Paired.mapP pr fun _ _ z => z.grow s5
    have hq5 : SqT K (upd H2 dx4 (.own x4)) q ys := .inl (.inl (s5 _ _ hq))
    refine ⟨x4, dx4, q, ys, tbs, rfl, upd_same, same_seqT s6 hq5, Paired.mapP pr5 fun _ _ z => z.grow s6, tl1, by omega, i2, fun sw H6 kp6 e6 => ⟨rfl, ?_⟩⟩
    have s7 : Same (upd H2 dx4 (.own x4)) H6 := fun c o hc => kp6 _ _ (s6 _ _ hc) (ne_of_none hc hx5)
    have hL6 : LtAt K Z.Table Z.Lot H6 x4 tbs := ⟨dx4, q, sw, ys, e6, same_seqT s7 hq5, Paired.mapP pr5 fun _ _ z => z.grow s7⟩
    have S6 : Same H H6 := (s02.trans s5).trans s7
    have hp6 : H6 p = some (.lst (tL ls)) := s7 _ _ (s5 _ _ hp2)
    have hq6 : SqT K H6 q ys := same_seqT s7 hq5
    clear s7 kp6 pr5 hq5 s6 hx5 s5 hdx4 hx4 ne4 hp2 s02 s1 s2 pr hq hp hp0
    refine ⟨_, rfl, x4, Z.Lot, dx4, _, _, rfl, e6, Z.c_Lot.c, Z.n_Lot_tables, rfl, q, ys, rfl, .inr hq6, ?_⟩
    obtain ⟨n, en⟩ : ∃ n, tbs.length = n := ⟨_, rfl⟩
    rw [yl, en]
    rw [en] at kQ kE tll tl1
    refine ⟨fun σ' H' => ∃ wa : Addr, σ' = [some (tV t), some (.ref p), some (.ref x4), some (nV n), some (.ref wa), none, none, none] ∧ Same H6 H' ∧ H' wa = some (.lst (tL (headW ls n))), ?_, ?_⟩
    · refine ⟨_, rfl, p, _, rfl, .inl (SqL.of hp6), _, rfl, _, _, rfl, rfl, _, rfl, ite2 (fun h => ?_) (fun h => ?_)⟩
      · have hlt : n < ls.length := by
          have := of_decide_eq_true h
          omega
        have lln := lle _ (List.mem_of_getElem? (getD_some hlt))
        refine ⟨_, rfl, _, rfl, p, tL ls, (n : Int), tV (ls.getD n []), rfl, rfl, SqL.of hp6, atI_nat (tL_get (getD_some hlt)), ⟨_, rfl⟩, S (ls.getD n []), S [32], rfl, rfl, rfl, by rw [S_len]; exact lt_lineT (by omega), fun wa hwa => ?_⟩
        rw [split_C (by decide), ← tL_strs]
        exact ⟨wa, rfl, same_new hwa, by rw [upd_same, headW_some hlt]⟩
      · have hlt : ¬ n < ls.length := fun z => h (decide_eq_true (by omega))
        exact ⟨by show 0 ≤ sizeLine; decide, fun wa hwa => ⟨wa, rfl, same_new hwa, by rw [upd_same, headW_none hlt]; rfl⟩⟩
    rintro σ' H7 ⟨wa, rfl, s67, gwa⟩
    have S7 := S6.trans s67
    have hp7 := s67 _ _ hp6
    have hL7 := hL6.grow s67
    obtain ⟨hws, ehws⟩ : ∃ hws, headW ls n = hws := ⟨_, rfl⟩
    have hwsb : ∀ w ∈ hws, w.length ≤ 900000 := fun w hw => by
      by_cases hlt : n < ls.length
      · rw [← ehws, headW_some hlt] at hw
        exact (spC_words (lle _ (List.mem_of_getElem? (getD_some hlt)))).2.1 w hw
      · rw [← ehws, headW_none hlt] at hw
        cases hw
    rw [ehws] at gwa kQ kE
    refine ⟨_, rfl, wa, _, rfl, .inl (SqL.of gwa), rfl, _, rfl, ?_⟩
    have dl : decide (V.int (((tL hws).length : Nat) : Int) = V.int 2) = decide (hws.length = 2) := by
      rw [List.length_map, Bool.eq_iff_iff, decide_eq_true_iff, decide_eq_true_iff]
      exact ⟨fun h => by have := V.int.inj h; omega, fun h => by rw [h]; rfl⟩
    show if (!decide (V.int (((tL hws).length : Nat) : Int) = V.int 2)) = true then _ else _
    rw [dl]
    refine ite2 (fun h => ?_) (fun h => ?_)
    · have hn : ¬ hws.length = 2 := fun z => by
        rw [decide_eq_true z] at h
        exact absurd h (by decide)
      rw [if_neg fun z => hn z.1] at kE
      exact iteT ⟨_, rfl, n, 1, rfl, rfl, by show 1 ≤ 1000; decide, mkO_1 (OverV.pass (kE _ rfl) S7)⟩
    have h2 : hws.length = 2 := by
      apply Classical.byContradiction
      intro z
      exact h (by rw [decide_eq_false z]; rfl)
    have g0 : hws[0]? = some (hws.getD 0 []) := getD_some (by omega)
    have g1 : hws[1]? = some (hws.getD 1 []) := getD_some (by omega)
    refine ⟨_, rfl, wa, _, (0 : Int), tV (hws.getD 0 []), rfl, rfl, SqL.of gwa, atI_nat (j := 0) (tL_get g0), rfl, _, rfl, ?_⟩
    show if (!decide (tV (hws.getD 0 []) = V.str (Str.ofString "names"))) = true then _ else _
    rw [dec_lit (z := Str.ofString "names") (b := namesW) rfl]
    refine ite2 (fun h => ?_) (fun h => ?_)
    · have hn : ¬ hws.getD 0 [] = namesW := fun z => by
        rw [decide_eq_true z] at h
        exact absurd h (by decide)
      rw [if_neg fun z => hn z.2] at kE
      exact ⟨_, rfl, n, 1, rfl, rfl, by show 1 ≤ 1000; decide, mkO_1 (OverV.pass (kE _ rfl) S7)⟩
    have hna : hws.getD 0 [] = namesW := by
      apply Classical.byContradiction
      intro z
      exact h (by rw [decide_eq_false z]; rfl)
    rw [if_pos ⟨h2, hna⟩] at kQ kE
    have hnlt : n < ls.length := by
      apply Classical.byContradiction
      intro z
      rw [← ehws, headW_none z] at h2
      cases h2
    refine ⟨_, rfl, wa, _, (1 : Int), tV (hws.getD 1 []), rfl, rfl, SqL.of gwa, atI_nat (j := 1) (tL_get g1), _, rfl, n, 1, rfl, rfl, ?_⟩
    refine ⟨hws.getD 1 [], 0, 400, nV (n + 1), rfl, Nat.le_trans (hwsb _ (List.mem_of_getElem? g1)) (by decide), Int.le_refl 0, fun m hm H8 s8 => ?_, fun hm => OverV.pass (kE _ (by rw [hm])) S7⟩
    rw [hm] at kQ kE
    dsimp only at kQ kE
    obtain ⟨_, _, m4, _⟩ := numIn_some hm
    have S8 := S7.trans s8
    have hp8 := s8 _ _ hp7
    have hL8 := hL7.grow s8
    clear s8 s67 S7 gwa hp7 hL7 hp6 hL6 e6 hq6 S6
    -- the uses
    refine ⟨by show 0 ≤ sizeLine; decide, fun ul hul => ?_⟩
    obtain ⟨H9, e9, s9, g9⟩ := al (o := .lst []) hul
    rw [e9]
    clear e9
    have S9 := S8.trans s9
    have ulH : H ul = none := S8.free hul
    refine ⟨_, rfl, _, rfl, n, 1, rfl, rfl, ((n + 1 : Nat) : Int), rfl, p, tL ls, rfl, SqL.of (s9 _ _ hp8), fun q2 hq2 => ?_⟩
    rw [cutV_from, tL_drop]
    obtain ⟨HA, eA, sA, gA⟩ := al (o := .lst (tL (ls.drop (n + 1)))) hq2
    rw [eA]
    clear eA
    obtain ⟨ms, ems⟩ : ∃ ms, ls.drop (n + 1) = ms := ⟨_, rfl⟩
    have mll : ms.length ≤ 16 := by rw [← ems, List.length_drop]; omega
    have mle : ∀ l ∈ ms, l.length ≤ 900000 := fun l hl => lle l (List.mem_of_mem_drop (ems ▸ hl))
    rw [ems] at gA kQ kE
    have SA := S9.trans sA
    have hLA := (hL8.grow s9).grow sA
    have gul := sA _ _ g9
    have nuq : ul ≠ q2 := fun z => by rw [z, hq2] at g9; cases g9
    have q2H : H q2 = none := S9.free hq2
    refine ⟨q2, rfl, ⟨_, SqL.of gA⟩, ?_⟩
    refine for_list (xs := tL ms) (fun i σ' H' => ∃ (c7 : Option V) (wa : V) (ys : List V) (us : List Ui), σ' = [some (tV t), some (.ref p), some (.ref x4), some (nV (n + i)), some wa, some (nV m), some (.ref ul), c7] ∧ Same H H' ∧ H' ul = some (.lst ys) ∧ H' q2 = some (.lst (tL ms)) ∧ LtAt K Z.Table Z.Lot H' x4 tbs ∧ Paired (UiR K H') ys us ∧ us.length = i ∧ Ru tbs m ms (n + 1) i us)
      ⟨none, .ref wa, [], [], rfl, SA, gul, gA, hLA, .nil, rfl, emap_id _⟩ (fun i σ' H' _ ⟨_, _, _, _, _, _, _, e, _⟩ => SqL.of e) (fun i x σ' H' hx hp => ?_) (fun σ' H' hp => ?_)
    · obtain ⟨c7, wv, ys2, us, rfl, sm, gu, gq, hLB, prU, len, rd⟩ := hp
      obtain ⟨l, hi, rfl⟩ := map_get hx
      have ll := mle l (List.mem_of_getElem? hi)
      have ilt : i < ms.length := (List.getElem?_eq_some_iff.mp hi).1
      obtain ⟨ul2, _⟩ := paired_at prU
      refine ⟨_, rfl, n + i, 1, rfl, rfl, ?_⟩
      refine ⟨_, rfl, ⟨_, rfl⟩, S l, S [32], rfl, rfl, rfl, by rw [S_len]; exact lt_lineT (by omega), fun p3 hp3 => ?_⟩
      rw [split_C (by decide), ← tL_strs]
      obtain ⟨w1, w2, w3⟩ := spC_words ll
      obtain ⟨HB, eB, sB, gB⟩ := al (o := .lst (tL (spC 32 l))) hp3
      rw [eB]
      clear eB
      have smB := sm.trans sB
      have g00 : (spC 32 l)[0]? = some ((spC 32 l).getD 0 []) := getD_some w3
      refine ⟨_, rfl, p3, _, (0 : Int), tV ((spC 32 l).getD 0 []), rfl, rfl, SqL.of gB, atI_nat (j := 0) (tL_get g00), rfl, _, rfl, ?_⟩
      show if (!decide (tV ((spC 32 l).getD 0 []) = V.str (Str.ofString "use"))) = true then _ else _
      rw [dec_lit (z := Str.ofString "use") (b := useW) rfl]
      have errE : usesR tbs m ms (n + 1) = .error (n + 1 + i + 1) → OverV Z.BadText "line" HB E (nV (n + i + 1 + 1)) := fun e => by
        have := kE _ (by rw [e])
        rw [show n + 1 + i + 1 = n + i + 1 + 1 by omega] at this
        exact OverV.pass this smB
      refine ite2 (fun h => ?_) (fun h => ?_)
      · have hn : ¬ (spC 32 l).getD 0 [] = useW := fun z => by
          rw [decide_eq_true z] at h
          exact absurd h (by decide)
        exact iteT ⟨_, rfl, n + i + 1, 1, rfl, rfl, by show 1 ≤ 1000; decide, mkO_1 (errE (rd.bad hi (.inl hn)))⟩
      have h0 : (spC 32 l).getD 0 [] = useW := by
        apply Classical.byContradiction
        intro z
        exact h (by rw [decide_eq_false z]; rfl)
      have guB := sB _ _ gu
      have dl2 : decide (V.int ((ys2.length : Nat) : Int) = V.int 20000) = false := decide_eq_false fun e => by
        have := V.int.inj e
        omega
      refine ⟨_, rfl, ul, ys2, rfl, .inl (SqL.of guB), rfl, _, rfl, ?_⟩
      show if decide (V.int ((ys2.length : Nat) : Int) = V.int 20000) = true then _ else _
      rw [dl2]
      refine iteF ?_
      refine ⟨_, rfl, .inl ⟨rfl, _, SqL.of guB⟩, _, rfl, _, rfl, _, rfl, _, rfl, n + i + 1, 1, rfl, rfl, ?_⟩
      refine ⟨p3, x4, spC 32 l, tbs, m, nV (n + i + 1 + 1), rfl, ⟨SqL.of gB, fun w hw => Nat.le_trans (w2 w hw) (by decide)⟩, by omega, hLB.grow sB, by omega, by omega, i2, fun u hu y HC sC hy => ?_, fun hu => errE (rd.bad hi (.inr hu))⟩
      have guC := sC _ _ guB
      have s4 : Imm HC (upd HC ul (.lst (ys2 ++ [y]))) := imm_upd guC trivial
      have sBC := sB.trans sC
      refine ⟨ul, ys2, y, rfl, rfl, guC, Nat.lt_of_le_of_lt (show ys2.length ≤ 16 by omega) (by decide), _, _, ys2 ++ [y], us ++ [u], by rw [← Nat.add_assoc]; rfl, same_fresh (smB.trans sC) ulH, upd_same, ?_, (hLB.grow sBC).imm s4, paired_snoc (Paired.mapP prU fun _ _ z => (z.imm (Same.imm sBC)).imm s4) (hy.imm s4), by rw [List.length_append, len]; rfl, rd.step hi h0 hu⟩
      rw [upd_ne nuq.symm]
      exact sBC _ _ gq
    · obtain ⟨c7, wv, ys2, us, rfl, sm, gu, gq, hLB, prU, len, rd⟩ := hp
      rw [List.length_map] at len rd
      have eu := rd.fin
      rw [eu] at kQ
      dsimp only at kQ
      obtain ⟨_, uok⟩ := usesR_ok eu
      refine ⟨_, rfl, _, rfl, _, rfl, ul, ys2, rfl, .inl ⟨SqL.of gu, fun tu htu => ?_⟩⟩
      obtain ⟨HC, eC, sC, gC⟩ := al (o := .tup ys2) htu
      rw [eC]
      clear eC
      have smC := sm.trans sC
      have hLC := hLB.grow sC
      have prC : Paired (UiR K HC) ys2 us := Paired.mapP prU fun _ _ z => z.imm (Same.imm sC)
      intro x dx hx hdx ne
      have s1' : Same HC (upd HC dx (.own x)) := same_new hdx
      have hx2 : (upd HC dx (.own x)) x = none := by rw [upd_ne ne.symm]; exact hx
      have s2' : Same (upd HC dx (.own x)) (upd (upd HC dx (.own x)) x (.ins Z.Puzzle dx [])) := same_new hx2
      refine ⟨x, dx, x4, tu, m, tbs, ys2, us, rfl, upd_same, (hLC.grow s1').grow s2', by omega, .inl (.inl (s2' _ _ (s1' _ _ gC))), Paired.mapP prC fun _ _ z => z.imm (Same.imm (s1'.trans s2')), by omega, by omega, fun u hu => ⟨uok u hu, Nat.le_trans (use_names (uok u hu) i2) (by decide)⟩, fun H' kp e => ⟨rfl, ?_⟩⟩
      have s3' : Same (upd HC dx (.own x)) H' := fun c o hc => kp _ _ (s2' _ _ hc) (ne_of_none hc hx2)
      exact kQ tbs m us rfl x H' ((smC.trans s1').trans s3') ⟨dx, x4, tu, ys2, e, (hLC.grow s1').grow s3', .inl (.inl (s3' _ _ (s1' _ _ gC))), Paired.mapP prC fun _ _ z => z.imm (Same.imm (s1'.trans s3'))⟩
end
end L2.KK
namespace L2.KK
open PySem PySem.Spec PyProof.Rows C8 SX MT
theorem sc_law_number_in : FnScope ["word", "low", "high", "sign"] ["word", "low", "high"] (defScope s_law_number_in) := ⟨rfl, rfl, rfl, by decide +kernel, rfl, by decide +kernel, by decide +kernel⟩
theorem sc_law_table_of : FnScope ["words", "places", "prices", "word", "price"] ["words"] (defScope s_law_table_of) := ⟨rfl, rfl, rfl, by decide +kernel, rfl, by decide +kernel, by decide +kernel⟩
theorem ends_sg (z : List Nat) (c : Nat) : Txt.endswith (S z) (S [c]) = decide (z.getLast? = some c) := by
  unfold Txt.endswith
  rw [StrLaws.subAt_eq, S_len, S_len]
  rcases Classical.em (z = []) with e | e
  · subst e
    rfl
  · obtain ⟨a, b, rfl⟩ : ∃ a b, z = a ++ [b] := ⟨_, _, (List.dropLast_concat_getLast e).symm⟩
    have h1 : decide (0 + [c].length ≤ (a ++ [b]).length) = true := decide_eq_true (by rw [List.length_append]; show 0 + 1 ≤ _ + 1; omega)
    have h2 : (a ++ [b]).length - [c].length = a.length := by rw [List.length_append]; show _ + 1 - 1 = _; omega
    rw [h1, h2, Bool.true_and, List.getLast?_concat]
    show ((List.drop a.length (a ++ [b])).take 1 == [c]) = _
    rw [List.drop_left]
    show ([b] == [c]) = _
    rw [Bool.eq_iff_iff, beq_iff_eq, decide_eq_true_iff]
    exact ⟨fun h => by rw [(List.cons.inj h).1], fun h => by rw [Option.some.inj h]⟩
/-- what the law reads of a word -/
def prL (w : Tx) : Option Nat := if w = xW then none else numIn w 0 1000
def badW (w : Tx) : Prop := w ≠ xW ∧ prL w = none
theorem pV_non2 {p : Option Nat} (h : pV p = .non) : p = none := by
  cases p with
  | none => rfl
  | some _ => cases h
theorem seq_bad {ps : List Tx} {w : Tx} (hw : w ∈ ps) (h : badW w) : seqO (ps.map prR) = none := by
  refine seqO_none (List.mem_map.mpr ⟨w, hw, ?_⟩)
  obtain ⟨h1, h2⟩ := h
  unfold prL at h2
  rw [if_neg h1] at h2
  unfold prR
  rw [if_neg h1, h2]
  rfl
theorem seq_good {ps : List Tx} (h : ∀ w ∈ ps, ¬ badW w) : seqO (ps.map prR) = some (ps.map prL) := by
  refine seqO_some.mpr ?_
  rw [List.map_map]
  refine List.map_congr_left fun w hw => ?_
  have n := h w hw
  show prR w = some (prL w)
  unfold prR prL
  by_cases c : w = xW
  · rw [if_pos c, if_pos c]
  · rw [if_neg c, if_neg c]
    cases e : numIn w 0 1000 with
    | none => exact absurd ⟨c, by unfold prL; rw [if_neg c]; exact e⟩ n
    | some k => rfl
section
variable {P : Program} {w : World} {K : PySem.W.Frag} {mg : Str → Option Value} {base : Heap}
def spLN : Sp := fun vs H Q _ => ∃ (t : Tx) (lo hi : Int), vs = [tV t, .int lo, .int hi] ∧ t.length ≤ 1000000 ∧ ∀ H', Same H H' → Q (pV (numIn t lo hi)) H'
theorem c_law_number_in (D : FnAt K mg "_law_number_in" s_law_number_in) (T : Bl mg) : Cal P w K mg base 1 "_law_number_in" spLN [] := by
  refine calOf D sc_law_number_in (fun _ _ _ _ _ _ us hl => match us, hl with | [_, _, _], _ => rfl) (fun vs H Q E h => ?_) (fun f cdv A outer s H vs Q E hr h => ?_)
  · obtain ⟨t, lo, hi, rfl, _⟩ := h
    rfl
  · obtain ⟨t, lo, hi, rfl, hz, k⟩ := h
    have nd := sc_law_number_in.nd
    have hz' : (S t).length ≤ sizeLine := by rw [S_len]; exact lt_lineT (Nat.le_trans hz (by decide))
    refine ⟨_, (pss_cons (ps_if (PW.pt (pw_or (pt_cmpR op_eq (pv 0) pe_str (nomark _)) (pw_or (pt_not (pt_val (pe_callB (crAll K) (by rfl) T.b_all (by decide +kernel) (pa_cons (pe_lc (own := [("sign", 3)]) (g := gName 3) (tt := tYes) rfl nd (pi_str (pv 0)) (blkOk_by (N := ["word", "low", "high", "sign"]) (sc := defScope s_law_number_in) (own := [("sign", 3)]) (by decide +kernel)) (fun _ _ _ _ _ => (pg_name (i := 3) nd rfl (by first | exact Or.inl rfl | exact Or.inr rfl))) (fun _ _ _ _ _ => pts_nil) (fun _ _ _ _ _ => (pe_cmpR op_in_sign (pv 3) pe_str (by rfl)))) pa_nil)))) (pw_or1 (pt_cmpR op_gt (pe_callB call_len_str (by rfl) T.b_len (by decide +kernel) (pa_cons (pv 0) pa_nil)) pe_int (nomark _))))))
        (pss_one (ps_ret pe_non))
        pss_nil)
      (pss_cons (ps_if (PW.pt (pw_and (pt_cmpR op_eq (pe_ix ix_str (pv 0) pe_int (fun _ _ => rfl)) pe_str (nomark _)) (pw_and1 (pt_cmpR op_ne (pv 0) pe_str (nomark _)))))
        (pss_one (ps_ret pe_non))
        pss_nil)
      (pss_one (ps_ret (pe_ifExp (pt_chain op_le op_le (pv 1) (pe_callTy call_int_str (by rfl) T.b_int (by decide +kernel) (pa_cons (pv 0) pa_nil)) (pv 2)) (pe_callTy call_int_str (by rfl) T.b_int (by decide +kernel) (pa_cons (pv 0) pa_nil)) pe_non))))), ?_⟩
    have no : ¬ posB t → ∀ H', Same H H' → Q .non H' := fun n H' sm => by
      have := k H' sm
      unfold numIn at this
      rw [if_neg fun z => n z.1] at this
      exact this
    refine ⟨_, rfl, rfl, _, rfl, ?_⟩
    show if decide (tV t = V.str (Str.ofString "")) = true then _ else _
    rw [dec_lit (z := Str.ofString "") (b := []) rfl]
    refine ite2 (fun h => iteT (no (fun q => q.1 (of_decide_eq_true h)) _ (Same.refl _))) (fun h1 => ?_)
    have t0 : t ≠ [] := fun e => h1 (decide_eq_true e)
    refine ⟨_, rfl, S t, rfl, fun D hD => lc_strT (sel := fun _ => true) (P := fun i y _ => y = V.bl (decide (t.getD i 0 ∈ (Str.ofString "0123456789").cps.toList))) ⟨fun _ _ _ _ _ h => h, fun i H2 _ _ R r => r H2 (Same.refl H2), fun i H2 hi _ _ R r => ⟨_, rfl, t.getD i 0, _, rfl, rfl, r _ H2 (Same.refl H2) rfl⟩⟩ hD (lt_lineT (by omega)) (fun H2 bs sm hb _ pb => ?_)⟩
    rw [filter_yes] at pb
    rw [bl_signs (p := fun c => decide (c ∈ (Str.ofString "0123456789").cps.toList)) pb] at hb
    refine ⟨D, _, rfl, SqL.of hb, _, rfl, ?_⟩
    rw [all_id]
    have e : (t.all fun c => decide (c ∈ (Str.ofString "0123456789").cps.toList)) = decide (∀ c ∈ t, 48 ≤ c ∧ c ≤ 57) := by
      rw [Bool.eq_iff_iff, decide_eq_true_iff, List.all_eq_true]
      constructor
      · exact fun h c hc => (digit_mem c).mp (of_decide_eq_true (h c hc))
      · exact fun h c hc => decide_eq_true ((digit_mem c).mpr (h c hc))
    rw [e]
    refine ite2 (fun h => iteT (no (fun q => ?_) H2 sm)) (fun h3 => ?_)
    · rw [decide_eq_true q.2.1] at h
      cases h
    have d3 : ∀ c ∈ t, 48 ≤ c ∧ c ≤ 57 := Classical.byContradiction fun e => h3 (by rw [decide_eq_false e]; rfl)
    refine ⟨_, rfl, S t, rfl, hz', _, 100, rfl, rfl, _, rfl, ?_⟩
    rw [S_len]
    refine ite2 (fun h => no (fun q => absurd (of_decide_eq_true h) (by have := q.2.2.1; omega)) H2 sm) (fun h2 => ?_)
    have d100 : t.length ≤ 100 := Classical.byContradiction fun e => h2 (decide_eq_true (by omega))
    obtain ⟨c, r, et⟩ : ∃ c r, t = c :: r := by
      cases t with
      | nil => exact absurd rfl t0
      | cons c r => exact ⟨c, r, rfl⟩
    have hat : atI t 0 = some c := by rw [et]; exact atI_nat (j := 0) rfl
    refine ⟨_, rfl, S t, 0, c, rfl, rfl, hz', hat, rfl, _, rfl, ?_⟩
    show if decide (tV [c] = tV [48]) = true then _ else _
    rw [dec_t]
    have goN : (c ≠ 48 ∨ t = [48]) → posB t := fun hc => ⟨t0, d3, d100, hc.imp (fun n e => n (by rw [et] at e; exact Option.some.inj e)) id⟩
    have it : PySem.intText? (S t) = some (dv t : Int) := intText_digits (x := S t) (fun x hx => d3 x hx) t0 (by rw [S_len]; omega)
    have hl4 : (S t).length ≤ 100 := by rw [S_len]; exact d100
    refine (fun (rest : posB t → _) => ite2 (fun h4 => ?_) (fun h4 => rest (goN (.inl fun e => h4 (decide_eq_true (by rw [e])))))) (fun hp => ?_)
    · refine ⟨_, rfl, rfl, _, rfl, ?_⟩
      show if (!decide (tV t = V.str (Str.ofString "0"))) = true then _ else _
      rw [dec_lit (z := Str.ofString "0") (b := [48]) rfl]
      have c48 : c = 48 := (List.cons.inj (of_decide_eq_true h4)).1
      refine ite2 (fun h5 => no (fun q => ?_) H2 sm) (fun h5 => ?_)
      · rcases q.2.2.2 with z | z
        · exact z (by rw [et, c48]; rfl)
        · rw [decide_eq_true z] at h5
          exact absurd h5 (by decide)
      · have z48 : t = [48] := by
          apply Classical.byContradiction
          intro z
          exact h5 (by rw [decide_eq_false z]; rfl)
        exact rest (goN (.inr z48))
    · refine ⟨_, rfl, _, rfl, S t, (dv t : Int), rfl, it, by omega, lo, (dv t : Int), rfl, rfl, _, rfl, ?_⟩
      have k2 := k H2 sm
      unfold numIn at k2
      refine ite2 (fun h => ?_) (fun h => ?_)
      · refine ⟨_, rfl, (dv t : Int), hi, rfl, rfl, _, rfl, ?_⟩
        refine ite2 (fun h6 => ?_) (fun h6 => ?_)
        · rw [if_pos ⟨hp, of_decide_eq_true h, of_decide_eq_true h6⟩] at k2
          exact ⟨_, rfl, S t, (dv t : Int), rfl, it, by omega, k2⟩
        · rw [if_neg fun z => h6 (decide_eq_true z.2.2)] at k2
          exact k2
      · rw [if_neg fun z => h (decide_eq_true z.2.1)] at k2
        exact ⟨_, rfl, iteF k2⟩
def spLTo (K : PySem.W.Frag) : Sp := fun vs H Q _ => ∃ (a : Addr) (ws : List Tx), vs = [.ref a] ∧ WdAt K H a ws ∧ ws.length ≤ 1000000 ∧ ws.getD 0 [] = tableW ∧ (tabR ws = none → ∀ H', Same H H' → Q .non H') ∧ ∀ t, tabR ws = some t → ∀ y H', Same H H' → LTR K H' y t → Q y H'
theorem c_law_table_of (D : FnAt K mg "_law_table_of" s_law_table_of) (T : Bl mg) (c_law_number_in : Cal P w K mg base 1 "_law_number_in" spLN []) (c_law_low : Cal P w K mg base 1 "_law_low" (spLow K) []) : Cal P w K mg base 2 "_law_table_of" (spLTo K) [] := by
  refine calOf D sc_law_table_of (fun _ _ _ _ _ _ us hl => match us, hl with | [_], _ => rfl) (fun vs H Q E h => ?_) (fun f cdv A outer s H vs Q E hr h => ?_)
  · obtain ⟨a, ws, rfl, _⟩ := h
    rfl
  · obtain ⟨a, ws, rfl, ⟨hS, hw⟩, hlen, h0, kN, kQ⟩ := h
    have nd := sc_law_table_of.nd
    have wlen : (tL ws).length = ws.length := List.length_map ..
    refine ⟨_, (pss_cons (ps_if (PW.pt (pw_or (pt_cmpR op_lt (pe_callB (crLen K) (by rfl) T.b_len (by decide +kernel) (pa_cons (pv 0) pa_nil)) pe_int (nomark _)) (pw_or (pt_cmpR op_ne (pe_ix (ixL K) (pv 0) pe_int (fun _ _ => rfl)) pe_str (nomark _)) (pw_or1 (pt_not (pt_val (pe_m1 PySem.F.slot_str_endswith PySem.F.type_str_endswith mt_endswith (pe_ix (ixL K) (pv 0) pe_int (fun _ _ => rfl)) pe_str)))))))
        (pss_one (ps_ret pe_non))
        pss_nil)
      (pss_cons (ps_set (i := 1) nd rfl (by first | exact Or.inl rfl | exact Or.inr rfl) (pe_c c_law_number_in hr (by decide) (by rfl) (pa_cons (pe_slice sl_txt (pe_ix (ixL K) (pv 0) pe_int (fun _ _ => rfl)) po_none (po_some (pe_op op_subNN (pe_callB call_len_str (by rfl) T.b_len (by decide +kernel) (pa_cons (pe_ix (ixL K) (pv 0) pe_int (fun _ _ => rfl)) pa_nil)) pe_int))) (pa_cons pe_int (pa_cons pe_int pa_nil)))))
      (pss_cons (ps_if (PW.pt (pw_or (pt_cmpR op_isN (pv 1) pe_non (nomark _)) (pw_or1 (pt_cmpR op_ne (pe_callB (crLen K) (by rfl) T.b_len (by decide +kernel) (pa_cons (pv 0) pa_nil)) (pe_op op_addNN pe_int (pe_op op_shlNN pe_int (pv 1))) (nomark _)))))
        (pss_one (ps_ret pe_non))
        pss_nil)
      (pss_cons (ps_setLc (i := 2) (own := [("word", 3)]) (g := gName 3) (tt := tYes) rfl nd rfl rfl (sw_true rfl rfl rfl (by decide +kernel)) (piList K (pe_slice (slL K) (pv 0) (po_some pe_int) po_none)) (blkOk_by (N := ["words", "places", "prices", "word", "price"]) (sc := defScope s_law_table_of) (own := [("word", 3)]) (by decide +kernel)) (fun _ _ _ _ _ => (pg_name (i := 3) nd rfl (by first | exact Or.inl rfl | exact Or.inr rfl))) (fun _ _ _ _ _ => pts_nil) (fun _ _ _ _ _ => (pe_ifExp (pt_cmpR op_eq (pv 3) pe_str (nomark _)) pe_non (pe_c c_law_number_in hr (by decide) (by rfl) (pa_cons (pv 3) (pa_cons pe_int (pa_cons pe_int pa_nil)))))))
      (pss_cons (ps_for PassesOwn.never rfl (pi_zip (by rfl) T.b_zip (pa_cons (pe_slice (slL K) (pv 0) (po_some pe_int) po_none) (pa_cons (pv 2) pa_nil))) (pgTup K rfl (pgs_cons (pg_name (i := 3) nd rfl (by first | exact Or.inl rfl | exact Or.inr rfl)) (pgs_cons (pg_name (i := 4) nd rfl (by first | exact Or.inl rfl | exact Or.inr rfl)) pgs_nil)))
        (pss_one (ps_if (PW.pt (pw_and (pt_cmpR op_ne (pv 3) pe_str (nomark _)) (pw_and1 (pt_cmpR op_isN (pv 4) pe_non (nomark _)))))
          (pss_one (ps_ret pe_non))
          pss_nil)))
      (pss_one (ps_ret (pe_ifExp (pt_cmpR op_isN (pe_c c_law_low hr (by decide) (by rfl) (pa_cons (pv 2) pa_nil)) pe_non (nomark _)) pe_non (pe_tup (pa_cons (pv 1) (pa_cons (pe_callTy (crTup K) (by rfl) T.b_tuple (by decide +kernel) (pa_cons (pv 2) pa_nil)) pa_nil))))))))))), ?_⟩
    refine ⟨_, rfl, a, _, rfl, .inl hS, _, 2, rfl, rfl, _, rfl, ite2 (fun h => ?_) (fun h => ?_)⟩
    · have hl : ¬ 2 ≤ ws.length := fun z => by
        have := of_decide_eq_true h
        omega
      refine iteT (kN ?_ _ (Same.refl _))
      unfold tabR
      rw [if_neg fun z => hl z.1]
    have hl : 2 ≤ ws.length := by
      apply Classical.byContradiction
      intro z
      exact h (decide_eq_true (by omega))
    have g0 : ws[0]? = some (ws.getD 0 []) := getD_some (by omega)
    refine ⟨_, rfl, a, _, (0 : Int), tV (ws.getD 0 []), rfl, rfl, hS, atI_nat (j := 0) (tL_get g0), rfl, _, rfl, ?_⟩
    show if (!decide (tV (ws.getD 0 []) = V.str (Str.ofString "table"))) = true then _ else _
    rw [dec_lit (z := Str.ofString "table") (b := tableW) rfl, decide_eq_true h0]
    refine iteF ?_
    have e1 : ws[1]? = some (ws.getD 1 []) := getD_some (by omega)
    have w1l : (ws.getD 1 []).length ≤ 1000000 := hw _ (List.mem_of_getElem? e1)
    obtain ⟨w1, ew1⟩ : ∃ w1, ws.getD 1 [] = w1 := ⟨_, rfl⟩
    have tabE : tabR ws = if 2 ≤ ws.length ∧ w1.getLast? = some 58 then match numIn w1.dropLast 1 4 with
      | none => none
      | some k => match seqO ((ws.drop 2).map prR) with
        | none => none
        | some ps => if ps.length = 2 ^ k ∧ ps.any Option.isSome = true then some (k, ps) else none
      else none := by
      unfold tabR
      rw [ew1]
      try rfl
    rw [ew1] at e1 w1l
    rw [tabE] at kN kQ
    have hw1 : (S w1).length ≤ sizeLine := by rw [S_len]; exact lt_lineT (Nat.le_trans w1l (by decide))
    refine ⟨_, rfl, a, _, (1 : Int), tV w1, rfl, rfl, hS, atI_nat (j := 1) (tL_get e1), ⟨_, rfl⟩, S w1, S [58], rfl, rfl, _, rfl, ?_⟩
    rw [ends_sg]
    refine ite2 (fun h => ?_) (fun h => ?_)
    · have hn : ¬ w1.getLast? = some 58 := fun z => by
        rw [decide_eq_true z] at h
        exact absurd h (by decide)
      refine kN ?_ _ (Same.refl _)
      rw [if_neg fun z => hn z.2]
    have h58 : w1.getLast? = some 58 := by
      apply Classical.byContradiction
      intro z
      exact h (by rw [decide_eq_false z]; rfl)
    rw [if_pos ⟨hl, h58⟩] at kN kQ
    have w1ne := ne_58 h58
    have w1p : 1 ≤ w1.length := List.length_pos_iff.mpr w1ne
    refine ⟨_, rfl, a, _, (1 : Int), tV w1, rfl, rfl, hS, atI_nat (j := 1) (tL_get e1), _, rfl, a, _, (1 : Int), tV w1, rfl, rfl, hS, atI_nat (j := 1) (tL_get e1), S w1, rfl, hw1, w1.length, 1, by rw [S_len], rfl, w1p, ((w1.length - 1 : Nat) : Int), rfl, S w1, rfl, hw1, ?_⟩
    rw [slice_to (Int.natCast_nonneg _), Int.toNat_natCast, tk_last]
    refine ⟨w1.dropLast, 1, 4, rfl, by rw [List.length_dropLast]; omega, fun H1 s1 => ?_⟩
    have hS1 := s1.seq hS
    cases hk : numIn w1.dropLast 1 4 with
    | none =>
      rw [hk] at kN
      exact ⟨_, rfl, rfl, _, rfl, iteT (iteT (kN rfl _ s1))⟩
    | some k =>
    rw [hk] at kN kQ
    dsimp only at kN kQ
    obtain ⟨_, k1, k4, _⟩ := numIn_some hk
    refine ⟨_, rfl, rfl, _, rfl, iteF ?_⟩
    refine ⟨_, rfl, a, _, rfl, .inl hS1, _, rfl, 1, k, rfl, rfl, ⟨by omega, by decide⟩, 2, _, rfl, rfl, rfl, _, rfl, ?_⟩
    have dl : decide (V.int (((tL ws).length : Nat) : Int) = nV (2 + 1 * 2 ^ k)) = decide (ws.length = 2 + 2 ^ k) := by
      rw [List.length_map, Nat.one_mul, Bool.eq_iff_iff, decide_eq_true_iff, decide_eq_true_iff]
      exact ⟨fun h => by have := V.int.inj h; omega, fun h => by rw [h]⟩
    show if (!decide (V.int (((tL ws).length : Nat) : Int) = nV (2 + 1 * 2 ^ k))) = true then _ else _
    rw [dl]
    have lenD : (ws.drop 2).length = ws.length - 2 := List.length_drop
    obtain ⟨ps, hd⟩ : ∃ ps, ws.drop 2 = ps := ⟨_, rfl⟩
    rw [hd] at kN kQ lenD
    have noN : (¬ ps.length = 2 ^ k) → ∀ H', Same H H' → Q .non H' := fun n => kN (by
      cases e : seqO (ps.map prR) with
      | none => rfl
      | some qs =>
        have z := congrArg List.length (seqO_some.mp e)
        rw [List.length_map, List.length_map] at z
        exact if_neg fun q => n (z.trans q.1))
    refine ite2 (fun h => noN (fun z => ?_) _ s1) (fun h => ?_)
    · have hn : ¬ ws.length = 2 + 2 ^ k := fun z => by
        rw [decide_eq_true z] at h
        exact absurd h (by decide)
      omega
    have h2k : ps.length = 2 ^ k := by
      have : ws.length = 2 + 2 ^ k := by
        apply Classical.byContradiction
        intro z
        exact h (by rw [decide_eq_false z]; rfl)
      omega
    have k16 : 2 ^ k ≤ 2 ^ 4 := Nat.pow_le_pow_right (by decide) (by omega)
    have p16 : ps.length ≤ 16 := by rw [h2k]; exact k16
    have pw : ∀ w ∈ ps, w.length ≤ 1000000 := fun w h => hw w (List.mem_of_mem_drop (hd ▸ h))
    refine ⟨_, rfl, 2, rfl, a, tL ws, rfl, hS1, fun q hq => ?_⟩
    rw [show (some (2 : Int)) = some ((2 : Nat) : Int) from rfl, cutV_from, tL_drop, hd]
    obtain ⟨H2, e2, s2, g2⟩ := al (o := .lst (tL ps)) hq
    rw [e2]
    clear e2
    have s02 := s1.trans s2
    refine ⟨q, rfl, ⟨_, SqL.of g2⟩, fun W hW => lc_listT (SqL.of g2) (sel := fun _ => true) (P := fun i y _ => y = pV (prL (ps.getD i []))) ⟨fun _ _ _ _ _ h => h, fun i H2 _ _ R r => r H2 (Same.refl H2), fun i H3 hi _ sm3 R r => ?_⟩ hW (lt_lineT (by rw [List.length_map]; omega)) (fun H3 bs sm3 hb _ pb => ?_)⟩
    · rw [List.length_map] at hi
      have hm : ps.getD i [] ∈ ps := List.mem_of_getElem? (getD_some hi)
      have e : (tL ps).getD i .non = tV (ps.getD i []) := map_getD [] hi
      refine ⟨_, rfl, ?_⟩
      rw [e]
      refine ⟨rfl, _, rfl, ?_⟩
      show if decide (tV (ps.getD i []) = V.str (Str.ofString "x")) = true then _ else _
      rw [dec_lit (z := Str.ofString "x") (b := xW) rfl]
      refine ite2 (fun h => ?_) (fun h => ?_)
      · refine r _ H3 (Same.refl H3) ?_
        unfold prL
        rw [if_pos (of_decide_eq_true h)]
        rfl
      · refine ⟨_, rfl, ps.getD i [], 0, 1000, rfl, pw _ hm, fun H4 s4 => r _ H4 s4 ?_⟩
        unfold prL
        rw [if_neg fun z => h (decide_eq_true z)]
    rw [filter_yes, List.length_map] at pb
    have e5 : bs = (ps.map prL).map pV := by
      rw [paired_map_eq pb]
      have z := congrArg (List.map fun w : Tx => pV (prL w)) (map_range_get ps [])
      rw [List.map_map] at z
      rw [List.map_map]
      exact z
    rw [e5] at hb
    clear pb e5
    have s03 := s02.trans sm3
    have hS3 := (s2.trans sm3).seq hS1
    refine ⟨_, rfl, 2, rfl, a, tL ws, rfl, hS3, fun q2 hq2 => ?_⟩
    rw [show (some (2 : Int)) = some ((2 : Nat) : Int) from rfl, cutV_from, tL_drop, hd]
    obtain ⟨H4, e4, s4, g4⟩ := al (o := .lst (tL ps)) hq2
    rw [e4]
    clear e4
    have s04 := s03.trans s4
    have hb4 := s4 _ _ hb
    refine ⟨_, rfl, q2, W, _, _, rfl, SqL.of g4, SqL.of hb4, ?_⟩
    have wne : some (V.ref a) = some (V.ref a) := rfl
    refine RZ.for_zipL (by rw [List.length_map, List.length_map, List.length_map]) (fun i σ' H' => (∃ c3 c4 : Option V, σ' = [some (.ref a), some (nV k), some (.ref W), c3, c4]) ∧ Same H4 H' ∧ ∀ w ∈ ps.take i, ¬ badW w)
      ⟨⟨none, none, rfl⟩, Same.refl H4, fun w hw => by rw [List.take_zero] at hw; cases hw⟩ (fun i σ' H' ⟨_, e, _⟩ => ⟨e.seq (SqL.of g4), e.seq (SqL.of hb4)⟩) (fun i x y Tq σ' H' hx hy hp hT => ?_) (fun σ' H' hp => ?_)
    · obtain ⟨⟨c3, c4, rfl⟩, sm, gd⟩ := hp
      obtain ⟨l, hi, rfl⟩ := map_get hx
      rw [List.map_map] at hy
      obtain ⟨l2, hi2, rfl⟩ := map_get hy
      rw [hi] at hi2
      cases hi2
      have smq := same_new (o := .tup [tV l, pV (prL l)]) hT
      refine ⟨Tq, _, rfl, .inl (.inl upd_same), rfl, _, _, rfl, _, _, rfl, rfl, ?_⟩
      refine ⟨_, rfl, rfl, _, rfl, ?_⟩
      show if (!decide (tV l = V.str (Str.ofString "x"))) = true then _ else _
      rw [dec_lit (z := Str.ofString "x") (b := xW) rfl]
      have nx2 : ¬ badW l → ∀ w ∈ ps.take (i + 1), ¬ badW w := fun nb w hw => by
        rw [tl_take_snoc hi] at hw
        rcases List.mem_append.mp hw with z | z
        · exact gd w z
        · rw [List.mem_singleton.mp z]
          exact nb
      refine ite2 (fun h => ?_) (fun h => ?_)
      · have hn : ¬ l = xW := fun z => by
          rw [decide_eq_true z] at h
          exact absurd h (by decide)
        refine ⟨_, rfl, rfl, _, rfl, ?_⟩
        refine ite2 (fun h9 => ?_) (fun h9 => ?_)
        · have ep : prL l = none := pV_non2 (of_decide_eq_true h9)
          exact kN (by rw [seq_bad (List.mem_of_getElem? hi) ⟨hn, ep⟩]) _ ((s04.trans sm).trans smq)
        · exact ⟨⟨_, _, rfl⟩, sm.trans smq, nx2 fun z => h9 (decide_eq_true (by show pV (prL l) = _; rw [z.2]; rfl))⟩
      · have hx : l = xW := by
          apply Classical.byContradiction
          intro z
          exact h (by rw [decide_eq_false z]; rfl)
        exact ⟨⟨_, _, rfl⟩, sm.trans smq, nx2 fun z => z.1 hx⟩
    · obtain ⟨⟨c3, c4, rfl⟩, sm, gd⟩ := hp
      rw [List.length_map, List.take_length] at gd
      rw [seq_good gd] at kN kQ
      dsimp only at kN kQ
      have s05 := s04.trans sm
      have hb5 := sm _ _ hb4
      refine ⟨_, rfl, W, ps.map prL, rfl, SqL.of hb5, ?_⟩
      have lw : (ps.map prL).any Option.isSome = (MK.lowS (ps.map prL)).isSome := by
        rw [Bool.eq_iff_iff, MK.lowS_some, List.any_eq_true]
      cases el : MK.lowS (ps.map prL) with
      | none =>
        rw [el] at lw
        refine ⟨rfl, _, rfl, iteT (kN ?_ _ s05)⟩
        rw [if_neg fun z => by rw [lw] at z; cases z.2]
      | some m =>
        rw [el] at lw
        refine ⟨rfl, _, rfl, iteF ?_⟩
        rw [if_pos ⟨by rw [List.length_map]; exact h2k, lw⟩] at kQ
        refine ⟨_, rfl, _, rfl, W, _, rfl, .inl ⟨SqL.of hb5, fun tp htp => ?_⟩⟩
        obtain ⟨H6, e6, s6, g6⟩ := al (o := .tup ((ps.map prL).map pV)) htp
        rw [e6]
        refine ⟨by show 2 ≤ sizeLine; decide, fun r hr6 => ?_⟩
        have s7 := same_new (o := .tup [nV k, .ref tp]) hr6
        exact kQ _ rfl (.ref r) _ ((s05.trans s6).trans s7) ⟨r, tp, rfl, .inl (.inl upd_same), .inl (.inl (s7 _ _ g6))⟩
end
end L2.KK
namespace L2.KK
open PySem PySem.Spec PyProof.Rows C8 SX MT
theorem sc_law_use_of : FnScope ["words", "tables", "many", "at", "size", "names", "word", "times"] ["words", "tables", "many"] (defScope s_law_use_of) := ⟨rfl, rfl, rfl, by decide +kernel, rfl, by decide +kernel, by decide +kernel⟩
theorem LTs.at {K : PySem.W.Frag} {H : Hp} {tl : Addr} {tbs : List Tb} (h : LTs K H tl tbs) {i : Nat} (hi : i < tbs.length) : ∃ ys p q, H tl = some (.lst ys) ∧ ys.length = tbs.length ∧ ys[i]? = some (.ref p) ∧ SqT K H p [nV (tbs.getD i (0, [])).1, .ref q] ∧ SqT K H q ((tbs.getD i (0, [])).2.map pV) := by
  obtain ⟨ys, e, pr⟩ := h
  obtain ⟨yl, ya⟩ := paired_at pr
  have hy : ys[i]? = some ys[i] := List.getElem?_eq_getElem (by omega)
  obtain ⟨t, ht, p, q, ep, h1, h2⟩ := ya i _ hy
  have et : tbs.getD i (0, []) = t := by rw [List.getD_eq_getElem?_getD, ht]; rfl
  rw [et]
  exact ⟨ys, p, q, e, yl, by rw [hy, ep], h1, h2⟩
theorem in_none (l : List (Option Nat)) : inV .non (l.map pV) = decide (none ∈ l) := by
  unfold inV
  rw [Bool.eq_iff_iff, decide_eq_true_iff, List.any_eq_true]
  constructor
  · rintro ⟨y, hy, e⟩
    obtain ⟨p, hp, rfl⟩ := List.mem_map.mp hy
    cases p with
    | none => exact hp
    | some n => cases e
  · exact fun h => ⟨.non, List.mem_map.mpr ⟨none, h, rfl⟩, rfl⟩
theorem in_two (x a b : Nat) : inV (nV x) [nV a, nV b] = decide (x = a ∨ x = b) := by
  unfold inV
  rw [Bool.eq_iff_iff, decide_eq_true_iff, List.any_eq_true]
  constructor
  · rintro ⟨y, hy, e⟩
    rcases List.mem_cons.mp hy with rfl | hy
    · have : (a : Int) = x := of_decide_eq_true e
      omega
    · rw [List.mem_singleton.mp hy] at e
      have : (b : Int) = x := of_decide_eq_true e
      omega
  · rintro (rfl | rfl)
    · exact ⟨nV x, List.mem_cons_self, decide_eq_true rfl⟩
    · exact ⟨nV x, List.mem_cons_of_mem _ List.mem_cons_self, decide_eq_true rfl⟩
section
variable {P : Program} {w : World} {K : PySem.W.Frag} {mg : Str → Option Value} {base : Heap}
def spLU (K : PySem.W.Frag) : Sp := fun vs H Q _ => ∃ (a tl : Addr) (ws : List Tx) (tbs : List Tb) (many : Nat), vs = [.ref a, .ref tl, nV many] ∧ WdAt K H a ws ∧ ws.length ≤ 1000000 ∧ LTs K H tl tbs ∧ 1 ≤ tbs.length ∧ tbs.length ≤ 1000 ∧ (∀ t ∈ tbs, TbG t) ∧
  ((¬ ws.getD 0 [] = useW ∨ useR ws tbs many = none) → ∀ H', Same H H' → Q .non H') ∧ ∀ u, ws.getD 0 [] = useW → useR ws tbs many = some u → ∀ y H', Same H H' → UiR K H' y u → Q y H'
theorem c_law_use_of (D : FnAt K mg "_law_use_of" s_law_use_of) (T : Bl mg) (c_law_number_in : Cal P w K mg base 1 "_law_number_in" spLN []) : Cal P w K mg base 2 "_law_use_of" (spLU K) [] := by
  refine calOf D sc_law_use_of (fun _ _ _ _ _ _ us hl => match us, hl with | [_, _, _], _ => rfl) (fun vs H Q E h => ?_) (fun f cdv A outer s H vs Q E hr h => ?_)
  · obtain ⟨a, tl, ws, tbs, many, rfl, _⟩ := h
    rfl
  · obtain ⟨a, tl, ws, tbs, many, rfl, ⟨hS, hw⟩, hlen, hL, l1, l1000, tok, kN, kQ⟩ := h
    have nd := sc_law_use_of.nd
    have wlen : (tL ws).length = ws.length := List.length_map ..
    refine ⟨_, (pss_cons (ps_if (PW.pt (pw_or (pt_cmpR op_lt (pe_callB (crLen K) (by rfl) T.b_len (by decide +kernel) (pa_cons (pv 0) pa_nil)) pe_int (nomark _)) (pw_or (pt_cmpR op_ne (pe_ix (ixL K) (pv 0) pe_int (fun _ _ => rfl)) pe_str (nomark _)) (pw_or1 (pt_cmpR op_ne (pe_ix (ixL K) (pv 0) pe_int (fun _ _ => rfl)) pe_str (nomark _))))))
        (pss_one (ps_ret pe_non))
        pss_nil)
      (pss_cons (ps_set (i := 3) nd rfl (by first | exact Or.inl rfl | exact Or.inr rfl) (pe_c c_law_number_in hr (by decide) (by rfl) (pa_cons (pe_ix (ixL K) (pv 0) pe_int (fun _ _ => rfl)) (pa_cons pe_int (pa_cons (pe_op op_subNN (pe_callB (crLen K) (by rfl) T.b_len (by decide +kernel) (pa_cons (pv 1) pa_nil)) pe_int) pa_nil)))))
      (pss_cons (ps_if (pt_cmpR op_isN (pv 3) pe_non (nomark _))
        (pss_one (ps_ret pe_non))
        pss_nil)
      (pss_cons (ps_set (i := 4) nd rfl (by first | exact Or.inl rfl | exact Or.inr rfl) (pe_ix (ixT K) (pe_ix (ixL K) (pv 1) (pv 3) (fun _ _ => rfl)) pe_int (fun _ _ => rfl)))
      (pss_cons (ps_if (pt_cmpR (notInSeq K) (pe_callB (crLen K) (by rfl) T.b_len (by decide +kernel) (pa_cons (pv 0) pa_nil)) (pe_tup (pa_cons (pe_op op_addNN pe_int (pv 4)) (pa_cons (pe_op op_addNN pe_int (pv 4)) pa_nil))) (by rfl))
        (pss_one (ps_ret pe_non))
        pss_nil)
      (pss_cons (ps_setLc (i := 5) (own := [("word", 6)]) (g := gName 6) (tt := tYes) rfl nd rfl rfl (sw_true rfl rfl rfl (by decide +kernel)) (piList K (pe_slice (slL K) (pv 0) (po_some pe_int) (po_some (pe_op op_addNN pe_int (pv 4))))) (blkOk_by (N := ["words", "tables", "many", "at", "size", "names", "word", "times"]) (sc := defScope s_law_use_of) (own := [("word", 6)]) (by decide +kernel)) (fun _ _ _ _ _ => (pg_name (i := 6) nd rfl (by first | exact Or.inl rfl | exact Or.inr rfl))) (fun _ _ _ _ _ => pts_nil) (fun _ _ _ _ _ => (pe_c c_law_number_in hr (by decide) (by rfl) (pa_cons (pv 6) (pa_cons pe_int (pa_cons (pe_op op_sub (pv 2) pe_int) pa_nil))))))
      (pss_cons (ps_if (pt_cmpR (inSeq K) pe_non (pv 5) (by rfl))
        (pss_one (ps_ret pe_non))
        pss_nil)
      (pss_cons (ps_if (pt_cmpR op_eq (pe_callB (crLen K) (by rfl) T.b_len (by decide +kernel) (pa_cons (pv 0) pa_nil)) (pe_op op_addNN pe_int (pv 4)) (nomark _))
        (pss_one (ps_ret (pe_tup (pa_cons (pv 3) (pa_cons (pe_callTy (crTup K) (by rfl) T.b_tuple (by decide +kernel) (pa_cons (pv 5) pa_nil)) (pa_cons pe_int pa_nil))))))
        pss_nil)
      (pss_cons (ps_set (i := 7) nd rfl (by first | exact Or.inl rfl | exact Or.inr rfl) (pe_c c_law_number_in hr (by decide) (by rfl) (pa_cons (pe_ix (ixL K) (pv 0) (pe_op op_addNN pe_int (pv 4)) (fun _ _ => rfl)) (pa_cons pe_int (pa_cons (pe_op op_pow pe_int pe_int) pa_nil)))))
      (pss_one (ps_ret (pe_ifExp (PW.pt (pw_or (pt_cmpR op_ne (pe_ix (ixL K) (pv 0) (pe_op op_addNN pe_int (pv 4)) (fun _ _ => rfl)) pe_str (nomark _)) (pw_or1 (pt_cmpR op_isN (pv 7) pe_non (nomark _))))) pe_non (pe_tup (pa_cons (pv 3) (pa_cons (pe_callTy (crTup K) (by rfl) T.b_tuple (by decide +kernel) (pa_cons (pv 5) pa_nil)) (pa_cons (pv 7) pa_nil)))))))))))))))), ?_⟩
    refine ⟨_, rfl, a, _, rfl, .inl hS, _, 3, rfl, rfl, _, rfl, ite2 (fun h => ?_) (fun h => ?_)⟩
    · have hl : ¬ 3 ≤ ws.length := fun z => by
        have := of_decide_eq_true h
        omega
      refine iteT (kN (.inr ?_) _ (Same.refl _))
      rw [useR_eq, if_neg fun z => hl z.1]
    have hl : 3 ≤ ws.length := by
      apply Classical.byContradiction
      intro z
      exact h (decide_eq_true (by omega))
    have g0 : ws[0]? = some (ws.getD 0 []) := getD_some (by omega)
    refine ⟨_, rfl, a, _, (0 : Int), tV (ws.getD 0 []), rfl, rfl, hS, atI_nat (j := 0) (tL_get g0), rfl, _, rfl, ?_⟩
    show if (!decide (tV (ws.getD 0 []) = V.str (Str.ofString "use"))) = true then _ else _
    rw [dec_lit (z := Str.ofString "use") (b := useW) rfl]
    refine ite2 (fun h => ?_) (fun h => ?_)
    · have hn : ¬ ws.getD 0 [] = useW := fun z => by
        rw [decide_eq_true z] at h
        exact absurd h (by decide)
      exact iteT (kN (.inl hn) _ (Same.refl _))
    have h0 : ws.getD 0 [] = useW := by
      apply Classical.byContradiction
      intro z
      exact h (by rw [decide_eq_false z]; rfl)
    replace kN : useR ws tbs many = none → ∀ H', Same H H' → Q .non H' := fun e => kN (.inr e)
    replace kQ : ∀ u, useR ws tbs many = some u → ∀ y H', Same H H' → UiR K H' y u → Q y H' := fun u => kQ u h0
    rw [useR_eq] at kN kQ
    have e2 : ws[2]? = some (ws.getD 2 []) := getD_some (by omega)
    refine ⟨_, rfl, a, _, (2 : Int), tV (ws.getD 2 []), rfl, rfl, hS, atI_nat (j := 2) (tL_get e2), rfl, _, rfl, ?_⟩
    show if (!decide (tV (ws.getD 2 []) = V.str (Str.ofString "on"))) = true then _ else _
    rw [dec_lit (z := Str.ofString "on") (b := onW) rfl]
    refine ite2 (fun h => ?_) (fun h => ?_)
    · have hn : ¬ ws.getD 2 [] = onW := fun z => by
        rw [decide_eq_true z] at h
        exact absurd h (by decide)
      refine kN ?_ _ (Same.refl _)
      rw [if_neg fun z => hn z.2]
    have hon : ws.getD 2 [] = onW := by
      apply Classical.byContradiction
      intro z
      exact h (by rw [decide_eq_false z]; rfl)
    rw [if_pos ⟨hl, hon⟩] at kQ kN
    have e1 : ws[1]? = some (ws.getD 1 []) := getD_some (by omega)
    have w1l : (ws.getD 1 []).length ≤ 1000000 := hw _ (List.mem_of_getElem? e1)
    obtain ⟨ys0, _, _, hl0, yl0, _⟩ := hL.at (show 0 < tbs.length by omega)
    refine ⟨_, rfl, a, _, (1 : Int), tV (ws.getD 1 []), rfl, rfl, hS, atI_nat (j := 1) (tL_get e1), _, rfl, tl, ys0, rfl, .inl (SqL.of hl0), tbs.length, 1, by rw [yl0], rfl, l1, ?_⟩
    have ehi : ((tbs.length - 1 : Nat) : Int) = (tbs.length : Int) - 1 := by omega
    refine ⟨ws.getD 1 [], 0, (tbs.length : Int) - 1, by rw [← ehi]; rfl, w1l, fun H1 s1 => ?_⟩
    have hS1 := s1.seq hS
    have hL1 := hL.grow s1
    cases hat : numIn (ws.getD 1 []) 0 ((tbs.length : Int) - 1) with
    | none =>
      rw [hat] at kN
      exact ⟨_, rfl, rfl, _, rfl, iteT (kN rfl _ s1)⟩
    | some at_ =>
    rw [hat] at kQ kN
    dsimp only at kQ kN
    obtain ⟨_, _, a3, _⟩ := numIn_some hat
    have alt : at_ < tbs.length := by omega
    refine ⟨_, rfl, rfl, _, rfl, iteF ?_⟩
    obtain ⟨ys1, p1, q1, hl1, yl1, hy1, hp1, hq1⟩ := hL1.at alt
    obtain ⟨t, et⟩ : ∃ t, tbs.getD at_ (0, []) = t := ⟨_, rfl⟩
    have tg : TbG t := tok t (by rw [← et, List.getD_eq_getElem?_getD, List.getElem?_eq_getElem alt]; exact List.getElem_mem alt)
    rw [et] at hp1 hq1 kQ kN
    obtain ⟨size, es⟩ : ∃ size, t.1 = size := ⟨_, rfl⟩
    have s4 : size ≤ 4 := by rw [← es]; exact tg.2.1
    rw [es] at hp1 kQ kN
    refine ⟨_, rfl, _, rfl, tl, ys1, (at_ : Int), .ref p1, rfl, rfl, SqL.of hl1, atI_nat hy1, p1, _, (0 : Int), nV size, rfl, rfl, hp1, atI_nat (j := 0) rfl, ?_⟩
    -- how many words
    refine ⟨_, rfl, a, _, rfl, .inl hS1, _, rfl, 3, size, rfl, rfl, _, rfl, 5, size, rfl, rfl, by show 2 ≤ sizeLine; decide, fun r hr1 => ?_⟩
    obtain ⟨H2, e2', s2, g2⟩ := al (o := .tup [nV (3 + size), nV (5 + size)]) hr1
    rw [e2']
    clear e2'
    have s02 := s1.trans s2
    refine ⟨r, _, rfl, .inr (.inl (.inl g2)), rfl, rfl, _, rfl, ?_⟩
    rw [show V.int (((tL ws).length : Nat) : Int) = nV ws.length by rw [wlen], in_two]
    refine ite2 (fun h => ?_) (fun h => ?_)
    · have hn : ¬ (ws.length = 3 + size ∨ ws.length = 5 + size) := fun z => by
        rw [decide_eq_true z] at h
        exact absurd h (by decide)
      refine kN ?_ _ s02
      rw [if_neg fun z => hn (z.imp id fun q => q.1)]
    have hC : ws.length = 3 + size ∨ ws.length = 5 + size := by
      apply Classical.byContradiction
      intro z
      exact h (by show (!decide _) = true; rw [decide_eq_false z]; rfl)
    have hS2 := s2.seq hS1
    have hge : 3 + size ≤ ws.length := by rcases hC with z | z <;> omega
    -- the names
    refine ⟨_, rfl, 3, rfl, _, rfl, 3, size, rfl, rfl, ((3 + size : Nat) : Int), rfl, a, tL ws, rfl, hS2, fun q3 hq3 => ?_⟩
    rw [show (some (3 : Int)) = some ((3 : Nat) : Int) from rfl, cutV_two (by omega), tL_drop, tL_take, show 3 + size - 3 = size by omega]
    obtain ⟨H3, e3', s3, g3⟩ := al (o := .lst (tL ((ws.drop 3).take size))) hq3
    rw [e3']
    clear e3'
    have s03 := s02.trans s3
    obtain ⟨ps, eps⟩ : ∃ ps, (ws.drop 3).take size = ps := ⟨_, rfl⟩
    rw [eps] at g3 kQ kN
    have pw : ∀ w ∈ ps, w.length ≤ 1000000 := fun w h => hw w (List.mem_of_mem_drop (List.mem_of_mem_take (eps ▸ h)))
    have pl : ps.length ≤ size := by rw [← eps, List.length_take]; omega
    refine ⟨q3, rfl, ⟨_, SqL.of g3⟩, fun W hW => lc_listT (SqL.of g3) (sel := fun _ => true) (P := fun i y _ => y = pV (numIn (ps.getD i []) 0 ((many : Int) - 1))) ⟨fun _ _ _ _ _ h => h, fun i H2 _ _ R r => r H2 (Same.refl H2), fun i H4 hi _ sm4 R r => ?_⟩ hW (lt_lineT (by rw [List.length_map]; omega)) (fun H4 bs sm4 hb _ pb => ?_)⟩
    · rw [List.length_map] at hi
      have hm : ps.getD i [] ∈ ps := List.mem_of_getElem? (getD_some hi)
      have e : (tL ps).getD i .non = tV (ps.getD i []) := map_getD [] hi
      refine ⟨_, rfl, _, rfl, (many : Int), 1, rfl, rfl, ?_⟩
      rw [e]
      exact ⟨ps.getD i [], 0, (many : Int) - 1, rfl, pw _ hm, fun H5 s5 => r _ H5 s5 rfl⟩
    rw [filter_yes, List.length_map] at pb
    obtain ⟨ms, ems⟩ : ∃ ms, (ps.map fun w => numIn w 0 ((many : Int) - 1)) = ms := ⟨_, rfl⟩
    have e5 : bs = ms.map pV := by
      rw [paired_map_eq pb, ← ems]
      have z := congrArg (List.map fun w : Tx => pV (numIn w 0 ((many : Int) - 1))) (map_range_get ps [])
      rw [List.map_map] at z
      rw [List.map_map]
      exact z
    rw [e5] at hb
    clear pb e5
    rw [ems] at kQ kN
    have s04 := s03.trans sm4
    have hS4 := (s3.trans sm4).seq hS2
    have afl : (ms.map pV).all flatV = true := List.all_eq_true.mpr fun y hy => by
      obtain ⟨p, _, rfl⟩ := List.mem_map.mp hy
      cases p <;> rfl
    refine ⟨_, rfl, W, _, rfl, .inl (SqL.of hb), rfl, afl, _, rfl, ?_⟩
    show if inV V.non (ms.map pV) = true then _ else _
    rw [in_none]
    refine ite2 (fun h => ?_) (fun h => ?_)
    · refine kN ?_ _ s04
      rw [seqO_none (of_decide_eq_true h)]
      exact ite_self _
    obtain ⟨ns, hns⟩ := seqO_ok fun z => h (decide_eq_true z)
    have ems2 := seqO_some.mp hns
    rw [hns] at kQ kN
    dsimp only at kQ kN
    have hbn : H4 W = some (.lst (ns.map nV)) := by
      rw [hb, ems2, List.map_map]
      rfl
    refine ⟨_, rfl, a, _, rfl, .inl hS4, _, rfl, 3, size, rfl, rfl, rfl, _, rfl, ?_⟩
    have dl : decide (V.int (((tL ws).length : Nat) : Int) = nV (3 + size)) = decide (ws.length = 3 + size) := by
      rw [List.length_map, Bool.eq_iff_iff, decide_eq_true_iff, decide_eq_true_iff]
      exact ⟨fun h => by have := V.int.inj h; omega, fun h => by rw [h]⟩
    show if decide (V.int (((tL ws).length : Nat) : Int) = nV (3 + size)) = true then _ else _
    rw [dl]
    have fin : ∀ (t : Int) (H6 : Hp), Same H4 H6 → (∀ y H', Same H6 H' → UiR K H' y ⟨(at_ : Int), ns.map (fun n : Nat => (n : Int)), t⟩ → Q y H') → ∀ tp, H6 tp = none → 3 ≤ sizeLine ∧ ∀ r, upd H6 tp (.tup (ns.map nV)) r = none → Q (.ref r) (upd (upd H6 tp (.tup (ns.map nV))) r (.tup [nV at_, .ref tp, .int t])) := fun t H6 s6 g tp htp => ⟨by decide, fun r hr0 => by
      have s7 := same_new (o := .tup [nV at_, .ref tp, .int t]) hr0
      have s8 := same_new (o := .tup (ns.map nV)) htp
      refine g _ _ (s8.trans s7) ⟨r, tp, rfl, .inl (.inl upd_same), same_seqT s7 (.inl (.inl ?_))⟩
      rw [upd_same, List.map_map]
      rfl⟩
    refine ite2 (fun h => ?_) (fun h => ?_)
    · have elen := of_decide_eq_true h
      rw [if_pos elen] at kQ
      rw [if_pos (Or.inl elen)] at kQ
      refine ⟨_, rfl, _, rfl, W, _, rfl, .inl ⟨SqL.of hbn, fun tp htp => ?_⟩⟩
      exact fin 1 H4 (Same.refl H4) (fun y H' s6 hu => kQ _ rfl y H' (s04.trans s6) hu) tp htp
    have nlen : ¬ ws.length = 3 + size := fun z => h (decide_eq_true z)
    have l5 := hC.resolve_left nlen
    rw [if_neg nlen] at kQ kN
    have g4 : ws[4 + size]? = some (ws.getD (4 + size) []) := getD_some (by omega)
    have hwl : (ws.getD (4 + size) []).length ≤ 1000000 := hw _ (List.mem_of_getElem? g4)
    have g3w : ws[3 + size]? = some (ws.getD (3 + size) []) := getD_some (by omega)
    refine ⟨_, rfl, _, rfl, 4, size, rfl, rfl, a, _, ((4 + size : Nat) : Int), tV (ws.getD (4 + size) []), rfl, rfl, hS4, atI_nat (tL_get g4), 10, 40, rfl, rfl, ⟨by decide, by decide⟩, ?_⟩
    refine ⟨ws.getD (4 + size) [], 2, 10 ^ 40, rfl, hwl, fun H5 s5 => ?_⟩
    have hS5 := s5.seq hS4
    have hb5 := s5 _ _ hbn
    refine ⟨_, rfl, _, rfl, 3, size, rfl, rfl, a, _, ((3 + size : Nat) : Int), tV (ws.getD (3 + size) []), rfl, rfl, hS5, atI_nat (tL_get g3w), rfl, _, rfl, ?_⟩
    show if (!decide (tV (ws.getD (3 + size) []) = V.str (Str.ofString "times"))) = true then _ else _
    rw [dec_lit (z := Str.ofString "times") (b := timesW) rfl]
    refine ite2 (fun h => ?_) (fun h => ?_)
    · have hn : ¬ ws.getD (3 + size) [] = timesW := fun z => by
        rw [decide_eq_true z] at h
        exact absurd h (by decide)
      refine kN ?_ _ (s04.trans s5)
      rw [if_neg fun z => z.elim nlen fun q => hn q.2]
    have htm : ws.getD (3 + size) [] = timesW := by
      apply Classical.byContradiction
      intro z
      exact h (by rw [decide_eq_false z]; rfl)
    rw [if_pos (Or.inr ⟨l5, htm⟩)] at kN kQ
    refine ⟨_, rfl, rfl, _, rfl, ite2 (fun h9 => ?_) (fun h9 => ?_)⟩
    · have ep := pV_non2 (of_decide_eq_true h9)
      exact kN (by rw [ep]; rfl) _ (s04.trans s5)
    · cases et2 : numIn (ws.getD (4 + size) []) 2 (10 ^ 40) with
      | none => exact absurd (decide_eq_true (by rw [et2]; rfl)) h9
      | some tm =>
        rw [et2] at kQ
        refine ⟨_, rfl, _, rfl, W, _, rfl, .inl ⟨SqL.of hb5, fun tp htp => ?_⟩⟩
        refine ⟨_, rfl, ?_⟩
        exact fin (tm : Int) H5 s5 (fun y H' s6 hu => kQ _ rfl y H' ((s04.trans s5).trans s6) hu) tp htp
end
end L2.KK
namespace L2.KK
open PySem PySem.Spec PyProof.Rows C8 SX MT
theorem sc_law_tables_of : FnScope ["lines", "tables", "line", "words", "table"] ["lines"] (defScope s_law_tables_of) := ⟨rfl, rfl, rfl, by decide +kernel, rfl, by decide +kernel, by decide +kernel⟩
abbrev badV : V := .str (Str.ofString "bad")
abbrev toldV : V := .str (Str.ofString "told")
section
variable {P : Program} {w : World} {K : PySem.W.Frag} {mg : Str → Option Value} {base : Heap}
/-- a bad line is answered -/
def BadA (H : Hp) (Q : VK) (n : Nat) : Prop := ∀ p H', Same H H' → H p = none → H' p = some (.tup [badV, nV n]) → Q (.ref p) H'
theorem BadA.pass {H H' : Hp} {Q : VK} {n : Nat} (h : BadA H Q n) (s : Same H H') : BadA H' Q n := fun p H2 s2 hp e => h p H2 (s.trans s2) (s.free hp) e
theorem BadA.now {H : Hp} {Q : VK} {n : Nat} (h : BadA H Q n) : 2 ≤ sizeLine ∧ ∀ p, H p = none → Q (.ref p) (upd H p (.tup [badV, nV n])) := ⟨by decide, fun p hp => h p _ (same_new hp) hp upd_same⟩
def spLTs (K : PySem.W.Frag) : Sp := fun vs H Q _ => ∃ (a : Addr) (ls : List Tx), vs = [.ref a] ∧ SqL K H a (tL ls) ∧ ls.length ≤ 1000 ∧ (∀ l ∈ ls, l.length ≤ 900000) ∧
  (∀ tbs, tabsR ls 0 = .ok tbs → tbs ≠ [] → ∀ p tl H', Same H H' → H' p = some (.tup [toldV, .ref tl]) → LTs K H' tl tbs → Q (.ref p) H') ∧ (∀ n, tabsR ls 0 = .error n → BadA H Q n) ∧ (tabsR ls 0 = .ok [] → BadA H Q 1)
theorem c_law_tables_of (D : FnAt K mg "_law_tables_of" s_law_tables_of) (T : Bl mg) (c_law_table_of : Cal P w K mg base 2 "_law_table_of" (spLTo K) []) : Cal P w K mg base 3 "_law_tables_of" (spLTs K) [] := by
  refine calOf D sc_law_tables_of (fun _ _ _ _ _ _ us hl => match us, hl with | [_], _ => rfl) (fun vs H Q E h => ?_) (fun f cdv A outer s H vs Q E hr h => ?_)
  · obtain ⟨a, ls, rfl, _⟩ := h
    rfl
  · obtain ⟨a, ls, rfl, hS, hlen, hl, kQ, kE, kE1⟩ := h
    have nd := sc_law_tables_of.nd
    have wlen : (tL ls).length = ls.length := List.length_map ..
    refine ⟨_, (pss_cons (ps_set (i := 1) nd rfl (by first | exact Or.inl rfl | exact Or.inr rfl) (pe_lst pa_nil))
      (pss_cut (ps_for PassesOwn.never rfl (piList K (pv 0)) (pg_name (i := 2) nd rfl (by first | exact Or.inl rfl | exact Or.inr rfl))
        (pss_cons (ps_set (i := 3) nd rfl (by first | exact Or.inl rfl | exact Or.inr rfl) (pe_split (pv 2) pe_str))
        (pss_cons (ps_if (pt_cmpR op_ne (pe_ix (ixL K) (pv 3) pe_int (fun _ _ => rfl)) pe_str (nomark _))
          (pss_one ps_break)
          pss_nil)
        (pss_cons (ps_set (i := 4) nd rfl (by first | exact Or.inl rfl | exact Or.inr rfl) (pe_c c_law_table_of hr (by decide) (by rfl) (pa_cons (pv 3) pa_nil)))
        (pss_cons (ps_if (pt_cmpR op_isN (pv 4) pe_non (nomark _))
          (pss_one (ps_ret (pe_tup (pa_cons pe_str (pa_cons (pe_op op_addNN (pe_callB (crLen K) (by rfl) T.b_len (by decide +kernel) (pa_cons (pv 1) pa_nil)) pe_int) pa_nil)))))
          pss_nil)
        (pss_one (ps_expr (pe_bm PySem.F.plainAttrs_list PySem.F.slot_list_append PySem.F.type_list_append mt_append (pv 1) (pa_cons (pv 4) pa_nil)))))))))
      (pss_one (ps_ret (pe_ifExp (pt_cmpR op_eq (pe_callB (crLen K) (by rfl) T.b_len (by decide +kernel) (pa_cons (pv 1) pa_nil)) pe_int (nomark _)) (pe_tup (pa_cons pe_str (pa_cons pe_int pa_nil))) (pe_tup (pa_cons pe_str (pa_cons (pv 1) pa_nil)))))))), ?_⟩
    refine ⟨by show 0 ≤ sizeLine; decide, fun tl htl => ?_⟩
    obtain ⟨H1, e1, s1, g1⟩ := al (o := .lst []) htl
    rw [e1]
    clear e1
    refine ⟨fun σ' H' => ∃ (c2 c3 c4 : Option V) (ys : List V) (tbs : List Tb), σ' = [some (.ref a), some (.ref tl), c2, c3, c4] ∧ Same H H' ∧ H' tl = some (.lst ys) ∧ Paired (LTR K H') ys tbs ∧ tabsR ls 0 = .ok tbs, ?_, ?_⟩
    · refine ⟨_, rfl, a, rfl, ⟨_, s1.seq hS⟩, ?_⟩
      refine for_list (xs := tL ls) (fun i σ' H' => ∃ (c2 c3 c4 : Option V) (ys : List V) (tbs : List Tb), σ' = [some (.ref a), some (.ref tl), c2, c3, c4] ∧ Same H H' ∧ H' tl = some (.lst ys) ∧ Paired (LTR K H') ys tbs ∧ tbs.length = i ∧ Rd0 ls i tbs) ⟨none, none, none, [], [], rfl, s1, g1, .nil, rfl, emap_id _⟩ (fun i σ' H' _ ⟨_, _, _, _, _, _, e, _⟩ => e.seq hS) (fun i x σ' H' hx hp => ?_) (fun σ' H' hp => ?_)
      · obtain ⟨c2, c3, c4, ys, tbs, rfl, sm, g, pr, len, rd⟩ := hp
        obtain ⟨l, hi, rfl⟩ := map_get hx
        have ll := hl l (List.mem_of_getElem? hi)
        have ilt : i < ls.length := (List.getElem?_eq_some_iff.mp hi).1
        obtain ⟨yl, _⟩ := paired_at pr
        refine ⟨_, rfl, ⟨_, rfl⟩, S l, S [32], rfl, rfl, rfl, by rw [S_len]; exact lt_lineT (by omega), fun p hp => ?_⟩
        rw [split_C (by decide), ← tL_strs]
        obtain ⟨w1, w2, w3⟩ := spC_words ll
        obtain ⟨H2, e2, s2, g2⟩ := al (o := .lst (tL (spC 32 l))) hp
        rw [e2]
        clear e2
        have sm2 := sm.trans s2
        have g0 : (spC 32 l)[0]? = some ((spC 32 l).getD 0 []) := getD_some w3
        refine ⟨_, rfl, p, _, (0 : Int), tV ((spC 32 l).getD 0 []), rfl, rfl, SqL.of g2, atI_nat (j := 0) (tL_get g0), rfl, _, rfl, ?_⟩
        show if (!decide (tV ((spC 32 l).getD 0 []) = V.str (Str.ofString "table"))) = true then _ else _
        rw [dec_lit (z := Str.ofString "table") (b := tableW) rfl]
        have gt2 := s2 _ _ g
        have pr2 : Paired (LTR K H2) ys tbs := Paired.mapP pr fun _ _ q => q.imm (Same.imm s2)
        refine ite2 (fun h => ?_) (fun h => ?_)
        · have hn : ¬ (spC 32 l).getD 0 [] = tableW := fun z => by
            rw [decide_eq_true z] at h
            exact absurd h (by decide)
          exact ⟨_, _, _, ys, tbs, rfl, sm2, gt2, pr2, rd.stop hi hn⟩
        have h0 : (spC 32 l).getD 0 [] = tableW := by
          apply Classical.byContradiction
          intro z
          exact h (by rw [decide_eq_false z]; rfl)
        refine ⟨_, rfl, p, spC 32 l, rfl, ⟨SqL.of g2, fun w hw => Nat.le_trans (w2 w hw) (by decide)⟩, by omega, h0, fun ht H3 s3 => ?_, fun t ht y H3 s3 hT => ?_⟩
        · refine ⟨_, rfl, rfl, _, rfl, iteT ?_⟩
          refine ⟨_, rfl, tl, ys, rfl, .inl (SqL.of (s3 _ _ gt2)), ys.length, 1, rfl, rfl, ?_⟩
          have := (kE _ (rd.bad hi h0 ht)).pass (sm2.trans s3)
          rw [← len, ← yl] at this
          exact this.now
        · obtain ⟨q, q2, rfl, _⟩ := id hT
          refine ⟨_, rfl, rfl, _, rfl, iteF ?_⟩
          have gt3 := s3 _ _ gt2
          have s4 : Imm H3 (upd H3 tl (.lst (ys ++ [.ref q]))) := imm_upd gt3 trivial
          have tlH : H tl = none := htl
          refine ⟨_, rfl, .inl ⟨rfl, _, SqL.of gt3⟩, _, rfl, ?_⟩
          refine ⟨tl, ys, .ref q, rfl, rfl, gt3, Nat.lt_of_le_of_lt (show ys.length ≤ 1000 by omega) (by decide), _, _, _, ys ++ [.ref q], tbs ++ [t], rfl, ?_, upd_same, paired_snoc (Paired.mapP pr2 fun _ _ z => (z.imm (Same.imm s3)).imm s4) (hT.imm s4), by rw [List.length_append, len]; rfl, rd.step hi h0 ht⟩
          exact same_fresh (sm2.trans s3) tlH
      · obtain ⟨c2, c3, c4, ys, tbs, rfl, sm, g, pr, len, rd⟩ := hp
        rw [wlen] at len rd
        exact ⟨c2, c3, c4, ys, tbs, rfl, sm, g, pr, rd.fin⟩
    rintro σ' H2 ⟨c2, c3, c4, ys, tbs, rfl, sm, g, pr, et⟩
    obtain ⟨yl, _⟩ := paired_at pr
    refine ⟨_, rfl, tl, ys, rfl, .inl (SqL.of g), rfl, _, rfl, ite2 (fun h => ?_) (fun h => ?_)⟩
    · have t0 : tbs = [] := List.length_eq_zero_iff.mp (by
        have := V.int.inj (of_decide_eq_true h)
        omega)
      rw [t0] at et
      exact ((kE1 et).pass sm).now
    · have tne : tbs ≠ [] := fun z => h (decide_eq_true (by rw [yl, z]; rfl))
      exact ⟨_, rfl, by show 2 ≤ sizeLine; decide, fun p hp => kQ _ et tne p tl _ (sm.trans (same_new hp)) upd_same ⟨ys, same_new hp _ _ g, Paired.mapP pr fun _ _ z => z.imm (Same.imm (same_new hp))⟩⟩
end
end L2.KK
namespace L2.KK
open PySem PySem.Spec PyProof.Rows C8 SX MT
theorem sc_law_reading : FnScope ["text", "is_lot", "lines", "told", "at", "words", "many", "uses", "k", "use"] ["text", "is_lot"] (defScope s_law_reading) := ⟨rfl, rfl, rfl, by decide +kernel, rfl, by decide +kernel, by decide +kernel⟩
/-- what a text tells, a lot or a puzzle -/
def dueR (b : Bool) (t : Tx) : Except Nat (List Tb × Nat × List Ui) := if b = true then (lotR t).map fun tbs => (tbs, 0, []) else puzR t
theorem due_line {b : Bool} {t : Tx} {n : Nat} (e : linesR t = .error n) : dueR b t = .error n := by
  unfold dueR lotR puzR
  rw [e]
  cases b <;> rfl
theorem due_tab {b : Bool} {t : Tx} {ls : List Tx} {n : Nat} (e : linesR t = .ok ls) (h : tabsR ls 0 = .error n) : dueR b t = .error n := by
  unfold dueR lotR puzR
  rw [e]
  dsimp only
  rw [h]
  cases b <;> rfl
theorem due_nil {b : Bool} {t : Tx} {ls : List Tx} (e : linesR t = .ok ls) (h : tabsR ls 0 = .ok []) : dueR b t = .error 1 := by
  unfold dueR lotR puzR
  rw [e]
  dsimp only
  rw [h]
  cases b <;> rfl
theorem due_lot {t : Tx} {ls : List Tx} {tbs : List Tb} (e : linesR t = .ok ls) (h : tabsR ls 0 = .ok tbs) (ne : tbs ≠ []) : dueR true t = if ls.length = tbs.length then .ok (tbs, 0, []) else .error (tbs.length + 1) := by
  unfold dueR lotR
  rw [e]
  dsimp only
  rw [h]
  dsimp only
  rw [if_pos rfl, if_neg ne]
  by_cases c : ls.length = tbs.length
  · rw [if_pos c, if_pos c]; rfl
  · rw [if_neg c, if_neg c]; rfl
theorem due_puz {t : Tx} {ls : List Tx} {tbs : List Tb} (e : linesR t = .ok ls) (h : tabsR ls 0 = .ok tbs) (ne : tbs ≠ []) : dueR false t = match (if (headW ls tbs.length).length = 2 ∧ (headW ls tbs.length).getD 0 [] = namesW then numIn ((headW ls tbs.length).getD 1 []) 0 400 else none) with
    | none => .error (tbs.length + 1)
    | some m => match usesR tbs m (ls.drop (tbs.length + 1)) (tbs.length + 1) with
      | .error e => .error e
      | .ok us => .ok (tbs, m, us) := by
  unfold dueR puzR
  rw [e]
  dsimp only
  rw [h]
  dsimp only
  rw [if_neg (by decide), if_neg ne]
  by_cases c : (headW ls tbs.length).length = 2 ∧ (headW ls tbs.length).getD 0 [] = namesW
  · rw [if_pos c, if_pos c]
    try
      cases numIn ((headW ls tbs.length).getD 1 []) 0 400 with
      | none => rfl
      | some m =>
        dsimp only
        cases usesR tbs m (List.drop (tbs.length + 1) ls) (tbs.length + 1) <;> rfl
  · rw [if_neg c, if_neg c]
theorem tab_split {ls : List Tx} {tbs : List Tb} (h : tabsR ls 0 = .ok tbs) : tbs.length ≤ ls.length := by
  obtain ⟨i1, _⟩ := tabsR_ok h
  have := congrArg List.length i1
  rw [List.length_map, List.length_take] at this
  omega
section
variable {P : Program} {w : World} {K : PySem.W.Frag} {mg : Str → Option Value} {base : Heap}
def DueA (K : PySem.W.Frag) (H : Hp) (Q : VK) (tbs : List Tb) (m : Nat) (us : List Ui) : Prop := ∀ p tl q ys H', Same H H' → H' p = some (.tup [toldV, .ref tl, nV m, .ref q]) → SqT K H' q ys → Paired (UiR K H') ys us → LTs K H' tl tbs → Q (.ref p) H'
def spLRd (K : PySem.W.Frag) : Sp := fun vs H Q _ => ∃ (t : Tx) (b : Bool), vs = [tV t, .bl b] ∧ t.length ≤ 900000 ∧ (∀ ls, linesR t = .ok ls → ls.length ≤ 16) ∧
  (∀ tbs m us, dueR b t = .ok (tbs, m, us) → DueA K H Q tbs m us) ∧ ∀ n, dueR b t = .error n → BadA H Q n
theorem c_law_reading (D : FnAt K mg "_law_reading" s_law_reading) (T : Bl mg) (c_law_tables_of : Cal P w K mg base 3 "_law_tables_of" (spLTs K) []) (c_law_number_in : Cal P w K mg base 1 "_law_number_in" spLN []) (c_law_use_of : Cal P w K mg base 2 "_law_use_of" (spLU K) []) : Cal P w K mg base 4 "_law_reading" (spLRd K) [] := by
  refine calOf D sc_law_reading (fun _ _ _ _ _ _ us hl => match us, hl with | [_, _], _ => rfl) (fun vs H Q E h => ?_) (fun f cdv A outer s H vs Q E hr h => ?_)
  · obtain ⟨t, b, rfl, _⟩ := h
    rfl
  · obtain ⟨t, b, rfl, hz, h16, kQ, kE⟩ := h
    have nd := sc_law_reading.nd
    have hz' : (S t).length ≤ sizeLine := by rw [S_len]; exact lt_lineT (Nat.le_trans hz (by decide))
    refine ⟨_, (pss_cons (ps_if (pt_cmpR op_gt (pe_callB call_len_str (by rfl) T.b_len (by decide +kernel) (pa_cons (pv 0) pa_nil)) pe_int (nomark _))
        (pss_one (ps_ret (pe_tup (pa_cons pe_str (pa_cons pe_int pa_nil)))))
        pss_nil)
      (pss_cons (ps_set (i := 2) nd rfl (by first | exact Or.inl rfl | exact Or.inr rfl) (pe_split (pv 0) pe_str))
      (pss_cons (ps_if (pt_cmpR op_ne (pe_ix (ixL K) (pv 2) (pe_op op_subNN (pe_callB (crLen K) (by rfl) T.b_len (by decide +kernel) (pa_cons (pv 2) pa_nil)) pe_int) (fun _ _ => rfl)) pe_str (nomark _))
        (pss_one (ps_ret (pe_tup (pa_cons pe_str (pa_cons (pe_callB (crLen K) (by rfl) T.b_len (by decide +kernel) (pa_cons (pv 2) pa_nil)) pa_nil)))))
        pss_nil)
      (pss_cons (ps_set (i := 2) nd rfl (by first | exact Or.inl rfl | exact Or.inr rfl) (pe_slice (slL K) (pv 2) po_none (po_some (pe_op op_subNN (pe_callB (crLen K) (by rfl) T.b_len (by decide +kernel) (pa_cons (pv 2) pa_nil)) pe_int))))
      (pss_cons (ps_set (i := 3) nd rfl (by first | exact Or.inl rfl | exact Or.inr rfl) (pe_c c_law_tables_of hr (by decide) (by rfl) (pa_cons (pv 2) pa_nil)))
      (pss_cons (ps_if (pt_cmpR op_eq (pe_ix (ixT K) (pv 3) pe_int (fun _ _ => rfl)) pe_str (nomark _))
        (pss_one (ps_ret (pv 3)))
        pss_nil)
      (pss_cons (ps_set (i := 4) nd rfl (by first | exact Or.inl rfl | exact Or.inr rfl) (pe_callB (crLen K) (by rfl) T.b_len (by decide +kernel) (pa_cons (pe_ix (ixT K) (pv 3) pe_int (fun _ _ => rfl)) pa_nil)))
      (pss_cons (ps_if (pt_val (pv 1))
        (pss_one (ps_ret (pe_ifExp (pt_cmpR op_eq (pv 4) (pe_callB (crLen K) (by rfl) T.b_len (by decide +kernel) (pa_cons (pv 2) pa_nil)) (nomark _)) (pe_tup (pa_cons pe_str (pa_cons (pe_ix (ixT K) (pv 3) pe_int (fun _ _ => rfl)) (pa_cons pe_int (pa_cons (pe_tup pa_nil) pa_nil))))) (pe_tup (pa_cons pe_str (pa_cons (pe_op op_addNN (pv 4) pe_int) pa_nil))))))
        pss_nil)
      (pss_cut (ps_set (i := 5) nd rfl (by first | exact Or.inl rfl | exact Or.inr rfl) (pe_ifExp (pt_cmpR op_lt (pv 4) (pe_callB (crLen K) (by rfl) T.b_len (by decide +kernel) (pa_cons (pv 2) pa_nil)) (nomark _)) (pe_split (pe_ix (ixL K) (pv 2) (pv 4) (fun _ _ => rfl)) pe_str) (pe_lst pa_nil)))
      (pss_cut (ps_set (i := 6) nd rfl (by first | exact Or.inl rfl | exact Or.inr rfl) (pe_ifExp (PW.pt (pw_and (pt_cmpR op_eq (pe_callB (crLen K) (by rfl) T.b_len (by decide +kernel) (pa_cons (pv 5) pa_nil)) pe_int (nomark _)) (pw_and1 (pt_cmpR op_eq (pe_ix (ixL K) (pv 5) pe_int (fun _ _ => rfl)) pe_str (nomark _))))) (pe_c c_law_number_in hr (by decide) (by rfl) (pa_cons (pe_ix (ixL K) (pv 5) pe_int (fun _ _ => rfl)) (pa_cons pe_int (pa_cons pe_int pa_nil)))) pe_non))
      (pss_cons (ps_if (pt_cmpR op_isN (pv 6) pe_non (nomark _))
        (pss_one (ps_ret (pe_tup (pa_cons pe_str (pa_cons (pe_op op_addNN (pv 4) pe_int) pa_nil)))))
        pss_nil)
      (pss_cons (ps_set (i := 7) nd rfl (by first | exact Or.inl rfl | exact Or.inr rfl) (pe_lst pa_nil))
      (pss_cons (ps_for PassesOwn.never rfl (pi_range2 (by rfl) T.b_range (pa_cons (pe_op op_addNN (pv 4) pe_int) (pa_cons (pe_callB (crLen K) (by rfl) T.b_len (by decide +kernel) (pa_cons (pv 2) pa_nil)) pa_nil))) (pg_name (i := 8) nd rfl (by first | exact Or.inl rfl | exact Or.inr rfl))
        (pss_cons (ps_set (i := 9) nd rfl (by first | exact Or.inl rfl | exact Or.inr rfl) (pe_c c_law_use_of hr (by decide) (by rfl) (pa_cons (pe_split (pe_ix (ixL K) (pv 2) (pv 8) (fun _ _ => rfl)) pe_str) (pa_cons (pe_ix (ixT K) (pv 3) pe_int (fun _ _ => rfl)) (pa_cons (pv 6) pa_nil)))))
        (pss_cons (ps_if (pt_cmpR op_isN (pv 9) pe_non (nomark _))
          (pss_one (ps_ret (pe_tup (pa_cons pe_str (pa_cons (pe_op op_add (pv 8) pe_int) pa_nil)))))
          pss_nil)
        (pss_one (ps_expr (pe_bm PySem.F.plainAttrs_list PySem.F.slot_list_append PySem.F.type_list_append mt_append (pv 7) (pa_cons (pv 9) pa_nil)))))))
      (pss_one (ps_ret (pe_tup (pa_cons pe_str (pa_cons (pe_ix (ixT K) (pv 3) pe_int (fun _ _ => rfl)) (pa_cons (pv 6) (pa_cons (pe_callTy (crTup K) (by rfl) T.b_tuple (by decide +kernel) (pa_cons (pv 7) pa_nil)) pa_nil)))))))))))))))))))), ?_⟩
    refine ⟨_, rfl, S t, rfl, hz', _, 100000, rfl, rfl, _, rfl, ?_⟩
    rw [S_len]
    refine ite2 (fun h => ?_) (fun h => ?_)
    · have hl : 100000 < t.length := by
        have := of_decide_eq_true h
        omega
      exact (kE 0 (due_line (by unfold linesR; rw [if_pos hl]))).now
    have hl : ¬ 100000 < t.length := fun z => h (decide_eq_true (by omega))
    refine ⟨_, rfl, ⟨_, rfl⟩, S t, S [10], rfl, rfl, rfl, by rw [S_len]; exact lt_lineT (by omega), fun p hp => ?_⟩
    rw [split_C (by decide)]
    have ne := spC_ne (c := 10) (by decide) t
    have len0 : 0 < (spC 10 t).length := List.length_pos_iff.mpr ne
    have spl : linesR t = if (spC 10 t).getLast? = some [] then .ok (spC 10 t).dropLast else .error (spC 10 t).length := by
      unfold linesR
      rw [if_neg hl]
    generalize spC 10 t = ws at *
    obtain ⟨H1, e1, s1, g1⟩ : ∃ H1, upd H p (.lst ((ws.map S).map V.str)) = H1 ∧ Same H H1 ∧ H1 p = some (.lst (tL ws)) := ⟨_, rfl, same_new hp, by rw [upd_same, tL_strs]⟩
    rw [e1]
    clear e1
    have elast : ws[ws.length - 1]? = some (ws.getD (ws.length - 1) []) := getD_some (by omega)
    have egl : ws.getLast? = some (ws.getD (ws.length - 1) []) := by rw [List.getLast?_eq_getElem?, elast]
    refine ⟨_, rfl, _, rfl, p, _, rfl, .inl (SqL.of g1), ws.length, 1, by rw [List.length_map], rfl, by omega, ?_⟩
    refine ⟨p, tL ws, ((ws.length - 1 : Nat) : Int), tV (ws.getD (ws.length - 1) []), rfl, rfl, SqL.of g1, atI_nat (tL_get elast), rfl, _, rfl, ?_⟩
    show if (!decide (tV (ws.getD (ws.length - 1) []) = V.str (Str.ofString ""))) = true then _ else _
    rw [dec_lit (z := Str.ofString "") (b := []) rfl]
    refine ite2 (fun h => ?_) (fun h => ?_)
    · have hne : ws.getD (ws.length - 1) [] ≠ [] := fun e => by
        rw [decide_eq_true e] at h
        exact absurd h (by decide)
      have ee : linesR t = .error ws.length := by
        rw [spl, if_neg (fun e => hne (Option.some.inj (egl.symm.trans e)))]
      refine ⟨_, rfl, p, _, rfl, .inl (SqL.of g1), ?_⟩
      have el : V.int ((tL ws).length : Nat) = nV ws.length := by rw [List.length_map]
      rw [el]
      exact ((kE _ (due_line ee)).pass s1).now
    have hee : ws.getD (ws.length - 1) [] = [] := by
      apply Classical.byContradiction
      intro e
      exact h (by rw [decide_eq_false e]; rfl)
    have els : linesR t = .ok ws.dropLast := by
      rw [spl, if_pos (by rw [egl, hee])]
    refine ⟨_, rfl, _, rfl, p, _, rfl, .inl (SqL.of g1), ws.length, 1, by rw [List.length_map], rfl, by omega, ?_⟩
    refine ⟨((ws.length - 1 : Nat) : Int), rfl, p, tL ws, rfl, SqL.of g1, fun q hq => ?_⟩
    rw [cutV_to, tL_take, ← List.dropLast_eq_take]
    generalize ws.dropLast = ls at *
    obtain ⟨H2, e2, s2, g2⟩ := al (o := .lst (tL ls)) hq
    rw [e2]
    clear e2
    have s02 := s1.trans s2
    have l16 := h16 ls els
    have lle := lines_le els hz
    have wlen : (tL ls).length = ls.length := List.length_map ..
    have dtb : decide (toldV = badV) = false := by decide
    have bad : ∀ n, dueR b t = .error n → BadA H2 Q n := fun n e => (kE n e).pass s02
    refine ⟨_, rfl, q, ls, rfl, SqL.of g2, by omega, lle, fun tbs et tne p3 tl H3 s3 hp3 hL => ?_, fun n en p3 H3 s3 f3 hp3 => ?_, fun en p3 H3 s3 f3 hp3 => ?_⟩
    rotate_left
    · exact ⟨_, rfl, p3, _, (0 : Int), badV, rfl, rfl, .inl (.inl hp3), atI_nat (j := 0) rfl, rfl, _, rfl, iteT ⟨_, rfl, bad n (due_tab els en) p3 H3 s3 f3 hp3⟩⟩
    · exact ⟨_, rfl, p3, _, (0 : Int), badV, rfl, rfl, .inl (.inl hp3), atI_nat (j := 0) rfl, rfl, _, rfl, iteT ⟨_, rfl, bad 1 (due_nil els en) p3 H3 s3 f3 hp3⟩⟩
    have tll := tab_split et
    have tl1 : 1 ≤ tbs.length := List.length_pos_iff.mpr tne
    obtain ⟨_, i2⟩ := tabsR_ok et
    have hT3 : SqT K H3 p3 [toldV, .ref tl] := .inl (.inl hp3)
    obtain ⟨ys, _, _, hl3, yl, _⟩ := hL.at (show 0 < tbs.length by omega)
    refine ⟨_, rfl, p3, _, (0 : Int), toldV, rfl, rfl, hT3, atI_nat (j := 0) rfl, rfl, _, rfl, ?_⟩
    show if decide (toldV = badV) = true then _ else _
    rw [dtb]
    refine iteF ?_
    refine ⟨_, rfl, p3, _, (1 : Int), .ref tl, rfl, rfl, hT3, atI_nat (j := 1) rfl, tl, ys, rfl, .inl (SqL.of hl3), ?_⟩
    have hp4 := s3 _ _ g2
    have S3 := s02.trans s3
    obtain ⟨n, en⟩ : ∃ n, tbs.length = n := ⟨_, rfl⟩
    rw [yl, en]
    replace bad : ∀ n, dueR b t = .error n → BadA H3 Q n := fun n e => (kE n e).pass S3
    refine ⟨_, rfl, b, rfl, ?_⟩
    cases b with
    | true =>
      refine iteT ?_
      have dl := due_lot els et tne
      refine ⟨_, rfl, _, rfl, q, _, rfl, .inl (SqL.of hp4), rfl, _, rfl, ite2 (fun h => ?_) (fun h => ?_)⟩
      · have he : ls.length = tbs.length := by
          have := V.int.inj (of_decide_eq_true h)
          rw [wlen] at this
          omega
        rw [if_pos he] at dl
        refine ⟨_, rfl, p3, _, (1 : Int), .ref tl, rfl, rfl, hT3, atI_nat (j := 1) rfl, by show 0 ≤ sizeLine; decide, fun q5 hq5 => ?_⟩
        obtain ⟨H5, e5, s5, g5⟩ := al (o := .tup []) hq5
        rw [e5]
        clear e5
        refine ⟨by show 4 ≤ sizeLine; decide, fun r hr6 => ?_⟩
        have s7 := same_new (o := .tup [toldV, .ref tl, nV 0, .ref q5]) hr6
        exact kQ _ _ _ dl r tl q5 [] _ ((S3.trans s5).trans s7) upd_same (.inl (.inl (s7 _ _ g5))) .nil (hL.grow (s5.trans s7))
      · have hn : ¬ ls.length = tbs.length := fun z => h (decide_eq_true (by rw [wlen, z, en]))
        rw [if_neg hn, en] at dl
        exact ⟨_, rfl, n, 1, rfl, rfl, (bad _ dl).now⟩
    | false =>
    refine iteF ?_
    have dp := due_puz els et tne
    rw [en] at dp
    refine ⟨fun σ' H' => ∃ wa : Addr, σ' = [some (tV t), some (.bl false), some (.ref q), some (.ref p3), some (nV n), some (.ref wa), none, none, none, none] ∧ Same H3 H' ∧ H' wa = some (.lst (tL (headW ls n))), ?_, ?_⟩
    · refine ⟨_, rfl, _, rfl, q, _, rfl, .inl (SqL.of hp4), _, _, rfl, rfl, _, rfl, ite2 (fun h => ?_) (fun h => ?_)⟩
      · have hlt : n < ls.length := by
          have := of_decide_eq_true h
          rw [wlen] at this
          omega
        have lln := lle _ (List.mem_of_getElem? (getD_some hlt))
        refine ⟨_, rfl, _, rfl, q, tL ls, (n : Int), tV (ls.getD n []), rfl, rfl, SqL.of hp4, atI_nat (tL_get (getD_some hlt)), ⟨_, rfl⟩, S (ls.getD n []), S [32], rfl, rfl, rfl, by rw [S_len]; exact lt_lineT (by omega), fun wa hwa => ?_⟩
        rw [split_C (by decide), ← tL_strs]
        exact ⟨wa, rfl, same_new hwa, by rw [upd_same, headW_some hlt]⟩
      · have hlt : ¬ n < ls.length := fun z => h (decide_eq_true (by rw [wlen]; omega))
        exact ⟨by show 0 ≤ sizeLine; decide, fun wa hwa => ⟨wa, rfl, same_new hwa, by rw [upd_same, headW_none hlt]; rfl⟩⟩
    rintro σ' H7 ⟨wa, rfl, s37, gwa⟩
    obtain ⟨hws, ehws⟩ : ∃ hws, headW ls n = hws := ⟨_, rfl⟩
    have hwsb : ∀ w ∈ hws, w.length ≤ 900000 := fun w hw => by
      by_cases hlt : n < ls.length
      · rw [← ehws, headW_some hlt] at hw
        exact (spC_words (lle _ (List.mem_of_getElem? (getD_some hlt)))).2.1 w hw
      · rw [← ehws, headW_none hlt] at hw
        cases hw
    rw [ehws] at gwa dp
    obtain ⟨mo, emo⟩ : ∃ mo, (if hws.length = 2 ∧ hws.getD 0 [] = namesW then numIn (hws.getD 1 []) 0 400 else none) = mo := ⟨_, rfl⟩
    rw [emo] at dp
    refine ⟨fun σ' H' => σ' = [some (tV t), some (.bl false), some (.ref q), some (.ref p3), some (nV n), some (.ref wa), some (pV mo), none, none, none] ∧ Same H7 H', ?_, ?_⟩
    · refine ⟨_, rfl, wa, _, rfl, .inl (SqL.of gwa), rfl, _, rfl, ?_⟩
      have dl : decide (V.int (((tL hws).length : Nat) : Int) = V.int 2) = decide (hws.length = 2) := by
        rw [List.length_map, Bool.eq_iff_iff, decide_eq_true_iff, decide_eq_true_iff]
        exact ⟨fun h => by have := V.int.inj h; omega, fun h => by rw [h]; rfl⟩
      show if decide (V.int (((tL hws).length : Nat) : Int) = V.int 2) = true then _ else _
      rw [dl]
      refine ite2 (fun h => ?_) (fun h => ?_)
      · have h2 := of_decide_eq_true h
        have g0 : hws[0]? = some (hws.getD 0 []) := getD_some (by omega)
        have g1 : hws[1]? = some (hws.getD 1 []) := getD_some (by omega)
        refine ⟨_, rfl, wa, _, (0 : Int), tV (hws.getD 0 []), rfl, rfl, SqL.of gwa, atI_nat (j := 0) (tL_get g0), rfl, _, rfl, ?_⟩
        show if decide (tV (hws.getD 0 []) = V.str (Str.ofString "names")) = true then _ else _
        rw [dec_lit (z := Str.ofString "names") (b := namesW) rfl]
        refine ite2 (fun h => ?_) (fun h => ?_)
        · rw [if_pos ⟨h2, of_decide_eq_true h⟩] at emo
          refine ⟨_, rfl, wa, _, (1 : Int), tV (hws.getD 1 []), rfl, rfl, SqL.of gwa, atI_nat (j := 1) (tL_get g1), ?_⟩
          refine ⟨hws.getD 1 [], 0, 400, rfl, Nat.le_trans (hwsb _ (List.mem_of_getElem? g1)) (by decide), fun H8 s8 => ⟨?_, s8⟩⟩
          rw [emo]
          rfl
        · rw [if_neg fun z => h (decide_eq_true z.2)] at emo
          rw [← emo]
          exact ⟨rfl, Same.refl _⟩
      · rw [if_neg fun z => h (decide_eq_true z.1)] at emo
        rw [← emo]
        exact ⟨rfl, Same.refl _⟩
    rintro σ' H8 ⟨rfl, s78⟩
    have s38 := s37.trans s78
    have S8 := S3.trans s38
    have hT8 := same_seqT s38 hT3
    have hL8 := hL.grow s38
    have hp8 := s38 _ _ hp4
    replace bad : ∀ n, dueR false t = .error n → BadA H8 Q n := fun n e => (kE n e).pass S8
    refine ⟨_, rfl, rfl, _, rfl, ite2 (fun h9 => ?_) (fun h9 => ?_)⟩
    · have ep := pV_non2 (of_decide_eq_true h9)
      rw [ep] at dp
      exact ⟨_, rfl, n, 1, rfl, rfl, (bad _ dp).now⟩
    cases mo with
    | none => exact absurd (decide_eq_true rfl) h9
    | some m =>
    dsimp only at dp
    have hnlt : n < ls.length := by
      apply Classical.byContradiction
      intro z
      rw [headW_none z] at ehws
      rw [← ehws] at emo
      cases emo
    refine ⟨by show 0 ≤ sizeLine; decide, fun ul hul => ?_⟩
    obtain ⟨H9, e9, s9, g9⟩ := al (o := .lst []) hul
    rw [e9]
    clear e9
    have S9 := S8.trans s9
    have ulH : H ul = none := S8.free hul
    obtain ⟨ms, ems⟩ : ∃ ms, ls.drop (n + 1) = ms := ⟨_, rfl⟩
    have mll : ms.length = ls.length - (n + 1) := by rw [← ems, List.length_drop]
    have mget : ∀ i, ms[i]? = ls[n + 1 + i]? := fun i => by rw [← ems, List.getElem?_drop]
    have mle : ∀ l ∈ ms, l.length ≤ 900000 := fun l hl => lle l (List.mem_of_mem_drop (ems ▸ hl))
    rw [ems] at dp
    have hp9 := s9 _ _ hp8
    have hT9 := same_seqT s9 hT8
    have hL9 := hL8.grow s9
    have nultl : tl ≠ ul := fun z => by
      obtain ⟨_, e, _⟩ := hL8
      rw [z, hul] at e
      cases e
    have nup3 : p3 ≠ ul := fun z => by
      have := s38 _ _ hp3
      rw [z, hul] at this
      cases this
    have nuq : q ≠ ul := fun z => by rw [z, hul] at hp8; cases hp8
    refine ⟨_, rfl, n, 1, rfl, rfl, _, rfl, q, _, rfl, .inl (SqL.of hp9), ((n + 1 : Nat) : Int), _, rfl, ⟨by omega, by omega, by omega, by omega⟩, ?_⟩
    have e1 : (((tL ls).length : Int) - ((n + 1 : Nat) : Int)).toNat = ms.length := by omega
    rw [e1]
    refine for_range (lo := ((n + 1 : Nat) : Int)) (n := ms.length) (fun i σ' H' => ∃ (c8 c9 : Option V) (ys : List V) (us : List Ui), σ' = [some (tV t), some (.bl false), some (.ref q), some (.ref p3), some (nV n), some (.ref wa), some (nV m), some (.ref ul), c8, c9] ∧ Same H H' ∧ H' ul = some (.lst ys) ∧ H' q = some (.lst (tL ls)) ∧ H' p3 = some (.tup [toldV, .ref tl]) ∧ LTs K H' tl tbs ∧ Paired (UiR K H') ys us ∧ us.length = i ∧ Ru tbs m ms (n + 1) i us)
      ⟨none, none, [], [], rfl, S9, g9, hp9, s9 _ _ (s38 _ _ hp3), hL9, .nil, rfl, emap_id _⟩ (fun i σ' H' hi hp => ?_) (fun σ' H' hp => ?_)
    · obtain ⟨c8, c9, ys2, us, rfl, sm, gu, gq, gp3, hLB, prU, len, rd⟩ := hp
      obtain ⟨l, hl⟩ : ∃ l, ms[i]? = some l := ⟨_, List.getElem?_eq_getElem hi⟩
      have ll := mle l (List.mem_of_getElem? hl)
      have hll : ls[n + 1 + i]? = some l := by rw [← mget, hl]
      obtain ⟨ul2, _⟩ := paired_at prU
      have ek : ((n + 1 : Nat) : Int) + (i : Int) = ((n + 1 + i : Nat) : Int) := by omega
      rw [ek]
      refine ⟨_, rfl, _, rfl, q, tL ls, ((n + 1 + i : Nat) : Int), tV l, rfl, rfl, SqL.of gq, atI_nat (tL_get hll), ⟨_, rfl⟩, S l, S [32], rfl, rfl, rfl, by rw [S_len]; exact lt_lineT (by omega), fun pw hpw => ?_⟩
      rw [split_C (by decide), ← tL_strs]
      obtain ⟨w1, w2, w3⟩ := spC_words ll
      obtain ⟨HB, eB, sB, gB⟩ := al (o := .lst (tL (spC 32 l))) hpw
      rw [eB]
      clear eB
      have smB := sm.trans sB
      have gp3B := sB _ _ gp3
      refine ⟨_, rfl, p3, _, (1 : Int), .ref tl, rfl, rfl, .inl (.inl gp3B), atI_nat (j := 1) rfl, _, rfl, ?_⟩
      refine ⟨pw, tl, spC 32 l, tbs, m, rfl, ⟨SqL.of gB, fun w hw => Nat.le_trans (w2 w hw) (by decide)⟩, by omega, hLB.grow sB, by omega, by omega, i2, fun hno HC sC => ?_, fun u h0 hu y HC sC hy => ?_⟩
      · have eb := rd.bad hl hno
        rw [eb] at dp
        refine ⟨_, rfl, rfl, _, rfl, iteT ?_⟩
        refine ⟨_, rfl, ((n + 1 + i : Nat) : Int), 1, rfl, rfl, ?_⟩
        have := ((kE _ dp).pass (smB.trans sC)).now
        exact this
      · have guC := sC _ _ (sB _ _ gu)
        have s4 : Imm HC (upd HC ul (.lst (ys2 ++ [y]))) := imm_upd guC trivial
        have sBC := sB.trans sC
        obtain ⟨qr, qn, rfl, _⟩ := id hy
        refine ⟨_, rfl, rfl, _, rfl, iteF ?_⟩
        refine ⟨_, rfl, .inl ⟨rfl, _, SqL.of guC⟩, _, rfl, ?_⟩
        refine ⟨ul, ys2, .ref qr, rfl, rfl, guC, Nat.lt_of_le_of_lt (show ys2.length ≤ 16 by omega) (by decide), _, _, ys2 ++ [.ref qr], us ++ [u], rfl, same_fresh (smB.trans sC) ulH, upd_same, ?_, ?_, ?_, paired_snoc (Paired.mapP prU fun _ _ z => (z.imm (Same.imm sBC)).imm s4) (hy.imm s4), by rw [List.length_append, len]; rfl, rd.step hl h0 hu⟩
        · rw [upd_ne nuq]
          exact sBC _ _ gq
        · rw [upd_ne nup3]
          exact sBC _ _ gp3
        · exact (hLB.grow sBC).imm s4 fun o ho => by rw [upd_ne nultl]; exact ho
    · obtain ⟨c8, c9, ys2, us, rfl, sm, gu, gq, gp3, hLB, prU, len, rd⟩ := hp
      rw [rd.fin] at dp
      dsimp only at dp
      refine ⟨_, rfl, p3, _, (1 : Int), .ref tl, rfl, rfl, .inl (.inl gp3), atI_nat (j := 1) rfl, _, rfl, _, rfl, ul, ys2, rfl, .inl ⟨SqL.of gu, fun tu htu => ?_⟩⟩
      obtain ⟨HC, eC, sC, gC⟩ := al (o := .tup ys2) htu
      rw [eC]
      clear eC
      refine ⟨by show 4 ≤ sizeLine; decide, fun r hr6 => ?_⟩
      have s7 := same_new (o := .tup [toldV, .ref tl, nV m, .ref tu]) hr6
      exact kQ _ _ _ dp r tl tu ys2 _ ((sm.trans sC).trans s7) upd_same (.inl (.inl (s7 _ _ gC))) (Paired.mapP prU fun _ _ z => z.imm (Same.imm (sC.trans s7))) (hLB.grow (sC.trans s7))
end
end L2.KK
namespace L2.KK
open PySem PySem.Spec PyProof.Rows C8 SX MT
theorem sc_Puzzle_eq : FnScope ["self", "other"] ["self", "other"] (defScope s_Puzzle_eq) := ⟨rfl, rfl, rfl, by decide +kernel, rfl, by decide +kernel, by decide +kernel⟩
theorem sc_law_told : FnScope ["text", "is_lot", "error"] ["text", "is_lot"] (defScope s_law_told) := ⟨rfl, rfl, rfl, by decide +kernel, rfl, by decide +kernel, by decide +kernel⟩
theorem paired_rangeD {α : Type} {F : V → α → Prop} (d : α) : ∀ {us : List α} {ys : List V}, Paired (fun y i => F y (us.getD i d)) ys (List.range us.length) → Paired F ys us := by
  intro us ys h
  have q := paired_mapR (fun i => us.getD i d) h
  rw [map_range_get] at q
  exact q
theorem pair_depth {w : Str} {xd : PyData} (h : xd.depth ≤ 1) : (PyData.tuple [.str w, xd]).depth ≤ 64 := Nat.le_trans (depth_tup (n := 1) fun y hy => by
  rcases List.mem_cons.mp hy with z | hy
  · rw [z]; show (0 : Nat) ≤ 1; decide
  rcases List.mem_cons.mp hy with z | hy
  · rw [z]; exact h
  · cases hy) (by decide)
theorem pair_pln {w : Str} {xd : PyData} (hw : PyData.strOk w = true) (h : pln xd = true) : pln (.tuple [.str w, xd]) = true := pln_tup fun y hy => by
  rcases List.mem_cons.mp hy with z | hy
  · rw [z]; exact hw
  rcases List.mem_cons.mp hy with z | hy
  · rw [z]; exact h
  · cases hy
/-- a use as data -/
def uD (u : Ui) : PyData := .tuple [.int u.at_, .tuple (u.names.map PyData.int), .int u.times]
theorem uD_pln (u : Ui) : pln (uD u) = true := pln_tup fun y hy => by
  rcases List.mem_cons.mp hy with z | hy
  · rw [z]; rfl
  rcases List.mem_cons.mp hy with z | hy
  · rw [z]
    exact pln_tup fun y hy => by
      obtain ⟨_, _, rfl⟩ := List.mem_map.mp hy
      rfl
  rcases List.mem_cons.mp hy with z | hy
  · rw [z]; rfl
  · cases hy
theorem depth_int0 (i : Int) : (PyData.int i).depth ≤ 1 := by
  show (0 : Nat) ≤ 1
  decide
theorem uD_depth (u : Ui) : (uD u).depth ≤ 2 := depth_tup (n := 1) fun y hy => by
  rcases List.mem_cons.mp hy with z | hy
  · rw [z]; exact depth_int0 _
  rcases List.mem_cons.mp hy with z | hy
  · rw [z]
    exact depth_tup (n := 0) fun y hy => by
      obtain ⟨_, _, rfl⟩ := List.mem_map.mp hy
      exact Nat.le_refl 0
  rcases List.mem_cons.mp hy with z | hy
  · rw [z]; exact depth_int0 _
  · cases hy
section
variable {K : PySem.W.Frag} {H : Hp}
theorem dp_use {y : V} {u : Ui} (h : UiR K H y u) : Dp K H y (uD u) := by
  obtain ⟨r, nr, rfl, h1, h2⟩ := h
  exact .tup h1 (.cons (.int _) (.cons (.tup h2 (dpAll_ints _)) (.cons (.int _) .nil)))
theorem dp_uses : ∀ {ys : List V} {us : List Ui}, Paired (UiR K H) ys us → DpAll K H ys (us.map uD)
  | _, _, .nil => .nil
  | _, _, .cons r t => .cons (dp_use r) (dp_uses t)

theorem eqd_uses {a b : Addr} {ys zs : List V} {us : List Ui} {Q : VK} (ha : SqT K H a ys) (pa : Paired (UiR K H) ys us) (hb : SqT K H b zs) (pb : Paired (UiR K H) zs us) (q : Q (.bl true) H) : rEqD K (.ref a) (.ref b) H Q := by
  have dep : (PyData.tuple (us.map uD)).depth ≤ 64 := Nat.le_trans (depth_tup (n := 2) fun y hy => by
    obtain ⟨u, _, rfl⟩ := List.mem_map.mp hy
    exact uD_depth u) (by decide)
  have pl : pln (.tuple (us.map uD)) = true := pln_tup fun y hy => by
    obtain ⟨u, _, rfl⟩ := List.mem_map.mp hy
    exact uD_pln u
  refine eqd_pln (.tup ha (dp_uses pa)) (.tup hb (dp_uses pb)) pl pl dep dep fun k hk => ?_
  rw [hk.mpr rfl]
  exact q
theorem eqd_pair {a b : Addr} {w : Str} {x : V} {xd : PyData} {Q : VK} (ha : SqT K H a [.str w, x]) (hb : SqT K H b [.str w, x]) (hw : PyData.strOk w = true) (d : Dp K H x xd) (p : pln xd = true) (l : xd.depth ≤ 1) (q : Q (.bl true) H) : rEqD K (.ref a) (.ref b) H Q :=
  eqd_pln (.tup ha (.cons (.str _) (.cons d .nil))) (.tup hb (.cons (.str _) (.cons d .nil))) (pair_pln hw p) (pair_pln hw p) (pair_depth l) (pair_depth l) fun k hk => by
    rw [hk.mpr rfl]
    exact q
end
theorem due_len {b : Bool} {t : Tx} {tbs : List Tb} {m : Nat} {us : List Ui} (e : dueR b t = .ok (tbs, m, us)) (h16 : ∀ ls, linesR t = .ok ls → ls.length ≤ 16) : tbs.length ≤ 16 ∧ us.length ≤ 16 := by
  cases el : linesR t with
  | error n =>
    rw [due_line el] at e
    cases e
  | ok ls =>
    have l16 := h16 ls el
    cases et : tabsR ls 0 with
    | error n =>
      rw [due_tab el et] at e
      cases e
    | ok tbs2 =>
      have tl := tab_split et
      by_cases c : tbs2 = []
      · rw [c] at et
        rw [due_nil el et] at e
        cases e
      cases b with
      | true =>
        rw [due_lot el et c] at e
        by_cases c2 : ls.length = tbs2.length
        · rw [if_pos c2] at e
          cases e
          exact ⟨by omega, by show 0 ≤ 16; decide⟩
        · rw [if_neg c2] at e
          cases e
      | false =>
        rw [due_puz el et c] at e
        generalize (if (headW ls tbs2.length).length = 2 ∧ (headW ls tbs2.length).getD 0 [] = namesW then numIn ((headW ls tbs2.length).getD 1 []) 0 400 else none) = mo at e
        cases mo with
        | none => cases e
        | some m2 =>
          dsimp only at e
          cases eu : usesR tbs2 m2 (ls.drop (tbs2.length + 1)) (tbs2.length + 1) with
          | error n =>
            rw [eu] at e
            cases e
          | ok us2 =>
            rw [eu] at e
            cases e
            obtain ⟨u1, _⟩ := usesR_ok eu
            have := congrArg List.length u1
            rw [List.length_map, List.length_drop] at this
            exact ⟨by omega, by omega⟩
theorem PzAt.grow {K : PySem.W.Frag} {CT CL CP : Addr} {H H' : Hp} {a : Addr} {tbs : List Tb} {many : Nat} {us : List Ui} (h : PzAt K CT CL CP H a tbs many us) (e : Same H H') : PzAt K CT CL CP H' a tbs many us := by
  obtain ⟨dx, l, tu, ys, h1, h2, h3, h4⟩ := h
  exact ⟨dx, l, tu, ys, e _ _ h1, h2.grow e, same_seqT e h3, Paired.mapP h4 fun _ _ q => q.imm (Same.imm e)⟩
theorem due_lotR {t : Tx} {tbs : List Tb} (e : lotR t = .ok tbs) : dueR true t = .ok (tbs, 0, []) := by
  unfold dueR
  rw [if_pos rfl, e]
  rfl
theorem due_lotE {t : Tx} {n : Nat} (e : lotR t = .error n) : dueR true t = .error n := by
  unfold dueR
  rw [if_pos rfl, e]
  rfl
theorem due_puzE (t : Tx) : dueR false t = puzR t := rfl
theorem use_small {tbs : List Tb} {m : Nat} {u : Ui} (h : useB tbs m u = true) (ok : ∀ t ∈ tbs, TbG t) (l : tbs.length ≤ 16) (hm : m ≤ 400) : UiS u := by
  have h4 := use_names h ok
  unfold useB at h
  obtain ⟨h1, h⟩ := Bool.and_eq_true_iff.mp h
  obtain ⟨h2, h⟩ := Bool.and_eq_true_iff.mp h
  obtain ⟨h3, h5⟩ := Bool.and_eq_true_iff.mp h
  have a1 := of_decide_eq_true h1
  have a2 := of_decide_eq_true h2
  refine ⟨Nat.lt_of_le_of_lt (show u.at_.natAbs ≤ 16 by omega) (by decide), Nat.lt_of_le_of_lt (show u.times.natAbs ≤ 10 ^ 40 by omega) (Nat.pow_lt_pow_right (by decide) (by decide)), fun n hn => ?_, by omega⟩
  have a3 := of_decide_eq_true (List.all_eq_true.mp h5 n hn)
  exact Nat.lt_of_le_of_lt (show n.natAbs ≤ 400 by omega) (by decide)
section
variable {P : Program} {w : World} {K : PySem.W.Frag} {mg : Str → Option Value} {base : Heap}
def spPzE (K : PySem.W.Frag) (CT CL CP : Addr) : Sp := fun vs H Q _ => ∃ (a b : Addr) (tbs : List Tb) (m : Nat) (us : List Ui), vs = [.ref a, .ref b] ∧ PzAt K CT CL CP H a tbs m us ∧ PzAt K CT CL CP H b tbs m us ∧ Q (.bl true) H
theorem c_Puzzle_eq (Z : Ev K mg) (T : Bl mg) (c_Lot_eq : Met P w K mg base 3 Z.Lot "__eq__" (spLotEq K Z.Table Z.Lot) []) : Met P w K mg base 5 Z.Puzzle "__eq__" (spPzE K Z.Table Z.Lot Z.Puzzle) [] := by
  obtain ⟨f_Lot_eq, fd_eq, ps_eq, me_Lot_eq, F_Lot_eq, b_Lot_eq⟩ := met_parts c_Lot_eq
  refine metOf Z.c_Puzzle.c Z.m_Puzzle_eq sc_Puzzle_eq (fun _ _ _ _ _ _ us hl => match us, hl with | [_, _], _ => rfl) (fun vs H Q E h => ?_) (fun f cdv A outer s H vs Q E hr h => ?_)
  · obtain ⟨a, b, tbs, m, us, rfl, _⟩ := h
    rfl
  · obtain ⟨a, b, tbs, m, us, rfl, ⟨dx, l, tu, ys, ha, hL, hS, pr⟩, ⟨dx', l', tu', ys', hb, hL', hS', pr'⟩, q⟩ := h
    have hu := hr.units
    obtain ⟨d1, _, _, _, e1, _, _⟩ := id hL
    obtain ⟨d2, _, _, _, e2, _, _⟩ := id hL'
    refine ⟨_, (pss_cons (ps_if (pt_not (pt_val (pe_callB (crIsi K) (by rfl) T.b_isinstance (by decide +kernel) (pa_cons (pv 1) (pa_cons (pe_glob (v := .ref Z.Puzzle) (by rfl) Z.k_Puzzle (by rfl)) pa_nil)))))
        (pss_one (ps_ret pe_bl))
        pss_nil)
      (pss_one (ps_ret (pe_and (pe_cmpR (op_eqOwn F_Lot_eq me_Lot_eq b_Lot_eq (hr.mono (by decide)) (units0 hu)) (peFld K (pv 0)) (peFld K (pv 1)) (nomark _)) (pe_and (pe_cmpR op_eq (peFld K (pv 0)) (peFld K (pv 1)) (nomark _)) (pe_one (pe_cmpR (eqD K hu) (peFld K (pv 0)) (peFld K (pv 1)) (nomark _)))))))), ?_⟩
    refine ⟨_, rfl, _, _, _, _, true, rfl, .own Z.Puzzle, Z.c_Puzzle.ty hb, Z.s_Puzzle_Puzzle, true, rfl, ?_⟩
    refine iteT (B := True) ?_
    refine ⟨_, rfl, a, Z.Puzzle, dx, _, _, rfl, ha, Z.c_Puzzle.c, Z.n_Puzzle_lot, rfl, _, rfl, b, Z.Puzzle, dx', _, _, rfl, hb, Z.c_Puzzle.c, Z.n_Puzzle_lot, rfl, ?_⟩
    refine ⟨l, l', d1, d2, _, _, rfl, rfl, e1, e2, l, l', tbs, tbs, rfl, hL, hL', rfl, fun r hr0 => ⟨r, rfl, r, rfl, ?_⟩⟩
    rw [hr0 rfl]
    refine iteT (B := True) ?_
    refine ⟨_, rfl, a, Z.Puzzle, dx, _, _, rfl, ha, Z.c_Puzzle.c, Z.n_Puzzle_many, rfl, _, rfl, b, Z.Puzzle, dx', _, _, rfl, hb, Z.c_Puzzle.c, Z.n_Puzzle_many, rfl, rfl, _, rfl, ite2 (fun h => ?_) (fun h => absurd (decide_eq_true rfl) h)⟩
    refine ⟨_, rfl, a, Z.Puzzle, dx, _, _, rfl, ha, Z.c_Puzzle.c, Z.n_Puzzle_uses, rfl, _, rfl, b, Z.Puzzle, dx', _, _, rfl, hb, Z.c_Puzzle.c, Z.n_Puzzle_uses, rfl, ?_⟩
    exact eqd_uses hS pr hS' pr' q
def ObjAt (K : PySem.W.Frag) (CT CL CP : Addr) (b : Bool) (H : Hp) (o : Addr) (tbs : List Tb) (m : Nat) (us : List Ui) : Prop := (b = true ∧ LtAt K CT CL H o tbs) ∨ (b = false ∧ PzAt K CT CL CP H o tbs m us)
def spLTd (K : PySem.W.Frag) (CT CL CP : Addr) : Sp := fun vs H Q _ => ∃ (v : V) (b : Bool), vs = [v, .bl b] ∧ ((∃ t : Tx, v = tV t ∧ t.length ≤ 900000 ∧ (∀ ls, linesR t = .ok ls → ls.length ≤ 16) ∧
  (∀ tbs m us, dueR b t = .ok (tbs, m, us) → ∀ p o H', Same H H' → H' p = some (.tup [toldV, .ref o]) → ObjAt K CT CL CP b H' o tbs m us → Q (.ref p) H') ∧ ∀ n, dueR b t = .error n → BadA H Q n) ∨ (v = .non ∧ BadA H Q 0))
theorem c_law_told (D : FnAt K mg "_law_told" s_law_told) (Z : Ev K mg) (T : Bl mg) (c_read_lot : CalX P w K mg base 8 "read_lot" (spRL K Z.Table Z.Lot Z.BadText)) (c_read_puzzle : CalX P w K mg base 8 "read_puzzle" (spRZ K Z.Table Z.Lot Z.Puzzle Z.BadText)) : Cal P w K mg base 9 "_law_told" (spLTd K Z.Table Z.Lot Z.Puzzle) [] := by
  refine calOf D sc_law_told (fun _ _ _ _ _ _ us hl => match us, hl with | [_, _], _ => rfl) (fun vs H Q E h => ?_) (fun f cdv A outer s H vs Q E hr h => ?_)
  · obtain ⟨v, b, rfl, _⟩ := h
    rfl
  · obtain ⟨v, b, rfl, h⟩ := h
    have nd := sc_law_told.nd
    refine ⟨_, (pss_one (ps_try_as (i := 2) (Wout := fun _ _ _ _ => False) rfl rfl nd rfl rfl ⟨by rfl, by decide, Or.inl Z.k_BadText⟩ takes0 (fun W pn xe tk _ =>
        (pss_one (ps_ret (pe_tup (pa_cons pe_str (pa_cons (pe_ifExp (pt_val (pv 1)) (pe_cx c_read_lot hr (by decide) (by rfl) tk (pa_cons (pv 0) pa_nil)) (pe_cx c_read_puzzle hr (by decide) (by rfl) tk (pa_cons (pv 0) pa_nil))) pa_nil))))))
        (fun a oe cls d pn hz hf => (pss_one (ps_ret (pe_tup (pa_cons pe_str (pa_cons (pe_xf Z.o_BadText.xf Z.n_BadText_line hz hf (pv 2)) pa_nil)))))))), ?_⟩
    refine ⟨_, rfl, b, rfl, ?_⟩
    rcases h with ⟨t, rfl, hz, h16, k1, kE⟩ | ⟨rfl, kE⟩
    · cases b with
      | true =>
        refine iteT (B := True) ?_
        refine ⟨_, rfl, tV t, rfl, .inl ⟨t, rfl, hz, h16, fun tbs et o H1 s1 hL => ⟨by show 2 ≤ sizeLine; decide, fun p hp => ?_⟩, fun n en d H1 sm1 hd e => ?_⟩⟩
        · exact k1 tbs 0 [] (due_lotR et) p o _ (s1.trans (same_new hp)) upd_same (.inl ⟨rfl, hL.grow (same_new hp)⟩)
        · refine ⟨true, Z.e_BadText_BadText, fun _ a0 _ => ?_, fun q => Bool.noConfusion q⟩
          refine ⟨_, rfl, rfl, rfl, d, _, _, rfl, e, rfl, ?_⟩
          exact ((kE n (due_lotE en)).pass sm1).now
      | false =>
        refine iteF ?_
        refine ⟨_, rfl, tV t, rfl, .inl ⟨t, rfl, hz, h16, fun tbs m us et o H1 s1 hL => ⟨by show 2 ≤ sizeLine; decide, fun p hp => ?_⟩, fun n en d H1 sm1 hd e => ?_⟩⟩
        · exact k1 tbs m us et p o _ (s1.trans (same_new hp)) upd_same (.inr ⟨rfl, hL.grow (same_new hp)⟩)
        · refine ⟨true, Z.e_BadText_BadText, fun _ a0 _ => ?_, fun q => Bool.noConfusion q⟩
          refine ⟨_, rfl, rfl, rfl, d, _, _, rfl, e, rfl, ?_⟩
          exact ((kE n en).pass sm1).now
    · cases b with
      | true =>
        refine iteT (B := True) ?_
        refine ⟨_, rfl, .non, rfl, .inr ⟨rfl, fun d H1 sm1 hd e => ?_⟩⟩
        refine ⟨true, Z.e_BadText_BadText, fun _ a0 _ => ?_, fun q => Bool.noConfusion q⟩
        refine ⟨_, rfl, rfl, rfl, d, _, _, rfl, e, rfl, ?_⟩
        exact (kE.pass sm1).now
      | false =>
        refine iteF ?_
        refine ⟨_, rfl, .non, rfl, .inr ⟨rfl, fun d H1 sm1 hd e => ?_⟩⟩
        refine ⟨true, Z.e_BadText_BadText, fun _ a0 _ => ?_, fun q => Bool.noConfusion q⟩
        refine ⟨_, rfl, rfl, rfl, d, _, _, rfl, e, rfl, ?_⟩
        exact (kE.pass sm1).now
end
end L2.KK
namespace L2.KK
open PySem PySem.Spec PyProof.Rows C8 SX MT
theorem sc_law_right : FnScope ["text", "is_lot", "due", "told", "lot", "table"] ["text", "is_lot"] (defScope s_law_right) := ⟨rfl, rfl, rfl, by decide +kernel, rfl, by decide +kernel, by decide +kernel⟩
section
variable {P : Program} {w : World} {K : PySem.W.Frag} {mg : Str → Option Value} {base : Heap}
def spLRt (K : PySem.W.Frag) : Sp := fun vs H Q _ => ∃ (t : Tx) (b : Bool), vs = [tV t, .bl b] ∧ t.length ≤ 900000 ∧ (∀ ls, linesR t = .ok ls → ls.length ≤ 16) ∧ ∀ H', Same H H' → Q (.bl true) H'
theorem c_law_right (D : FnAt K mg "_law_right" s_law_right) (Z : Ev K mg) (T : Bl mg) (c_law_reading : Cal P w K mg base 4 "_law_reading" (spLRd K) []) (c_law_told : Cal P w K mg base 9 "_law_told" (spLTd K Z.Table Z.Lot Z.Puzzle) []) (c_Lot : Mak P w K mg base 6 "Lot" Z.Lot (spLot K Z.Table Z.Lot) []) (c_Table : Mak P w K mg base 3 "Table" Z.Table (spTab K Z.Table) [])
    (c_Puzzle : Mak P w K mg base 3 "Puzzle" Z.Puzzle (spPz K Z.Table Z.Lot Z.Puzzle) []) (c_lot_text : Cal P w K mg base 3 "lot_text" (spLT K Z.Table Z.Lot) []) (c_puzzle_text : Cal P w K mg base 4 "puzzle_text" (spZT K Z.Table Z.Lot Z.Puzzle) []) (c_Lot_eq : Met P w K mg base 3 Z.Lot "__eq__" (spLotEq K Z.Table Z.Lot) []) (c_Puzzle_eq : Met P w K mg base 5 Z.Puzzle "__eq__" (spPzE K Z.Table Z.Lot Z.Puzzle) []) : Cal P w K mg base 10 "_law_right" (spLRt K) [] := by
  obtain ⟨f_Lot_eq, fd_eq, ps_eq, me_Lot_eq, F_Lot_eq, b_Lot_eq⟩ := met_parts c_Lot_eq
  obtain ⟨f_Puzzle_eq, fd_eq2, ps_eq2, me_Puzzle_eq, F_Puzzle_eq, b_Puzzle_eq⟩ := met_parts c_Puzzle_eq
  refine calOf D sc_law_right (fun _ _ _ _ _ _ us hl => match us, hl with | [_, _], _ => rfl) (fun vs H Q E h => ?_) (fun f cdv A outer s H vs Q E hr h => ?_)
  · obtain ⟨t, b, rfl, _⟩ := h
    rfl
  · obtain ⟨t, b, rfl, hz, h16, k⟩ := h
    have nd := sc_law_right.nd
    have hu := hr.units
    refine ⟨_, (pss_cons (ps_set (i := 2) nd rfl (by first | exact Or.inl rfl | exact Or.inr rfl) (pe_c c_law_reading hr (by decide) (by rfl) (pa_cons (pv 0) (pa_cons (pv 1) pa_nil))))
      (pss_cons (ps_set (i := 3) nd rfl (by first | exact Or.inl rfl | exact Or.inr rfl) (pe_c c_law_told hr (by decide) (by rfl) (pa_cons (pv 0) (pa_cons (pv 1) pa_nil))))
      (pss_cons (ps_if (pt_cmpR op_eq (pe_ix (ixT K) (pv 2) pe_int (fun _ _ => rfl)) pe_str (nomark _))
        (pss_one (ps_ret (pe_cmpR (eqD K hu) (pv 3) (pv 2) (nomark _))))
        pss_nil)
      (pss_cons (ps_if (pt_cmpR op_ne (pe_ix (ixT K) (pv 3) pe_int (fun _ _ => rfl)) pe_str (nomark _))
        (pss_one (ps_ret pe_bl))
        pss_nil)
      (pss_cons (ps_set (i := 4) nd rfl (by first | exact Or.inl rfl | exact Or.inr rfl) (pe_mk c_Lot hr (by decide) (by rfl) (pa_cons (pe_callTy (crTup K) (by rfl) T.b_tuple (by decide +kernel) (pa_cons (pe_lc (own := [("table", 5)]) (g := gName 5) (tt := tYes) rfl nd (piList K (pe_ix (ixT K) (pv 2) pe_int (fun _ _ => rfl))) (blkOk_by (N := ["text", "is_lot", "due", "told", "lot", "table"]) (sc := defScope s_law_right) (own := [("table", 5)]) (by decide +kernel)) (fun _ _ _ _ _ => (pg_name (i := 5) nd rfl (by first | exact Or.inl rfl | exact Or.inr rfl))) (fun _ _ _ _ _ => pts_nil) (fun _ _ _ _ _ => (pe_mk c_Table hr (by decide) (by rfl) (pa_cons (pe_ix (ixT K) (pv 5) pe_int (fun _ _ => rfl)) (pa_cons (pe_ix (ixT K) (pv 5) pe_int (fun _ _ => rfl)) pa_nil))))) pa_nil)) pa_nil)))
      (pss_cons (ps_if (pt_val (pv 1))
        (pss_one (ps_ret (pe_and (pe_cmpR (op_eqOwn F_Lot_eq me_Lot_eq b_Lot_eq (hr.mono (by decide)) (units0 hu)) (pe_ix (ixT K) (pv 3) pe_int (fun _ _ => rfl)) (pv 4) (nomark _)) (pe_one (pe_cmpR op_eq (pe_c c_lot_text hr (by decide) (by rfl) (pa_cons (pe_ix (ixT K) (pv 3) pe_int (fun _ _ => rfl)) pa_nil)) (pv 0) (nomark _))))))
        pss_nil)
      (pss_one (ps_ret (pe_and (pe_cmpR (op_eqOwn F_Puzzle_eq me_Puzzle_eq b_Puzzle_eq (hr.mono (by decide)) (units0 hu)) (pe_ix (ixT K) (pv 3) pe_int (fun _ _ => rfl)) (pe_mk c_Puzzle hr (by decide) (by rfl) (pa_cons (pv 4) (pa_cons (pe_ix (ixT K) (pv 2) pe_int (fun _ _ => rfl)) (pa_cons (pe_ix (ixT K) (pv 2) pe_int (fun _ _ => rfl)) pa_nil)))) (nomark _)) (pe_one (pe_cmpR op_eq (pe_c c_puzzle_text hr (by decide) (by rfl) (pa_cons (pe_ix (ixT K) (pv 3) pe_int (fun _ _ => rfl)) pa_nil)) (pv 0) (nomark _)))))))))))), ?_⟩
    have dtb : decide (toldV = badV) = false := by decide
    refine ⟨_, rfl, _, rfl, t, b, rfl, hz, h16, fun tbs m us ed p2 tl q ys H1 s1 hp2 hq hU hL => ?_, fun n ed p2 H1 s1 f2 hp2 => ?_⟩
    rotate_left
    · refine ⟨_, rfl, _, rfl, tV t, b, rfl, .inl ⟨t, rfl, hz, h16, fun tbs m us et => (by rw [ed] at et; cases et), fun n' en' p3 H3 s3 _ hp3 => ?_⟩⟩
      rw [ed] at en'
      cases en'
      refine ⟨_, rfl, p2, _, (0 : Int), badV, rfl, rfl, .inl (.inl (s3 _ _ hp2)), atI_nat (j := 0) rfl, rfl, _, rfl, iteT (B := True) ?_⟩
      exact ⟨_, rfl, _, rfl, eqd_pair (.inl (.inl hp3)) (.inl (.inl (s3 _ _ hp2))) (by decide +kernel) (.int _) rfl (by show (0 : Nat) ≤ 1; decide) (k H3 (s1.trans s3))⟩
    obtain ⟨t16, u16⟩ := due_len ed h16
    have tok : (∀ q ∈ tbs, TbG q) ∧ tbs ≠ [] := by
      cases b with
      | true =>
        cases el : lotR t with
        | error n => rw [due_lotE el] at ed; cases ed
        | ok tbs2 =>
          rw [due_lotR el] at ed
          cases ed
          exact (lotR_ok el).2
      | false =>
        obtain ⟨_, p1, p2, _⟩ := puzR_ok (show puzR t = _ from ed)
        exact ⟨p1, p2⟩
    obtain ⟨ok, tne⟩ := tok
    have t1 : 1 ≤ tbs.length := List.length_pos_iff.mpr tne
    refine ⟨_, rfl, _, rfl, tV t, b, rfl, .inl ⟨t, rfl, hz, h16, fun tbs2 m2 us2 et p3 o H3 s3 hp3 hO => ?_, fun n en => (by rw [ed] at en; cases en)⟩⟩
    rw [ed] at et
    cases et
    have hp2' := s3 _ _ hp2
    have hq3 := same_seqT s3 hq
    have hL3 := hL.grow s3
    have hU3 : Paired (UiR K H3) ys us := Paired.mapP hU fun _ _ z => z.imm (Same.imm s3)
    have hT2 : SqT K H3 p2 [toldV, .ref tl, nV m, .ref q] := .inl (.inl hp2')
    have hT3 : SqT K H3 p3 [toldV, .ref o] := .inl (.inl hp3)
    have S3 := s1.trans s3
    refine ⟨_, rfl, p2, _, (0 : Int), toldV, rfl, rfl, hT2, atI_nat (j := 0) rfl, rfl, _, rfl, ?_⟩
    show if decide (toldV = badV) = true then _ else _
    rw [dtb]
    refine iteF ?_
    refine ⟨_, rfl, p3, _, (0 : Int), toldV, rfl, rfl, hT3, atI_nat (j := 0) rfl, rfl, _, rfl, ?_⟩
    show if (!decide (toldV = toldV)) = true then _ else _
    rw [decide_eq_true rfl]
    refine iteF ?_
    -- the lot, made anew
    obtain ⟨ts, hT, pr⟩ := id hL3
    obtain ⟨yl, ya⟩ := paired_at pr
    refine ⟨_, rfl, p2, _, (1 : Int), .ref tl, rfl, rfl, hT2, atI_nat (j := 1) rfl, tl, rfl, ⟨_, SqL.of hT⟩, fun W hW => lc_listT (SqL.of hT) (sel := fun _ => true) (P := fun i y H => TabR K Z.Table H y (tbs.getD i (0, []))) ⟨fun _ _ _ _ sm h => h.imm (SameT.imm sm), fun i H2 _ _ R r => r H2 (Same.refl H2), fun i H2 hi _ sm R r => ?_⟩ hW (lt_lineT (by omega)) (fun H2 bs sm2 hd _ pb => ?_)⟩
    · have hy : ts[i]? = some ts[i] := List.getElem?_eq_getElem hi
      obtain ⟨t0, ht, p5, q5, ep, h2, h3⟩ := ya i _ hy
      have o5 := ok t0 (List.mem_of_getElem? ht)
      have et : tbs.getD i (0, []) = t0 := by rw [List.getD_eq_getElem?_getD, ht]; rfl
      have eg : ts.getD i .non = .ref p5 := by rw [List.getD_eq_getElem?_getD, hy]; exact ep
      refine ⟨_, rfl, p5, _, (0 : Int), nV t0.1, eg, rfl, same_seqT sm h2, rfl, _, rfl, p5, _, (1 : Int), .ref q5, eg, rfl, same_seqT sm h2, rfl, ?_⟩
      intro x2 dx2 hx2 hdx2 ne2
      have z1 := same_new (o := .own x2) hdx2
      have hx3 : (upd H2 dx2 (.own x2)) x2 = none := by rw [upd_ne ne2.symm]; exact hx2
      have z2 : Same (upd H2 dx2 (.own x2)) (upd (upd H2 dx2 (.own x2)) x2 (.ins Z.Table dx2 [])) := same_new hx3
      refine ⟨x2, dx2, q5, t0.1, t0.2, rfl, upd_same, same_seqT ((sm.trans z1).trans z2) h3, o5.2.1, o5.2.2.1, fun o2 ho m hm => Nat.le_trans (o5.2.2.2.2 o2 ho m hm) (by decide), rfl, ?_⟩
      rw [upd_upd]
      have z3 : Same (upd H2 dx2 (.own x2)) (upd (upd H2 dx2 (.own x2)) x2 (.ins Z.Table dx2 (tabF t0.1 q5 t0.2))) := same_new hx3
      rw [et] at r
      exact r _ _ (z1.trans z3) ⟨x2, rfl, dx2, q5, upd_same, same_seqT ((sm.trans z1).trans z3) h3⟩
    rw [filter_yes, yl] at pb
    have pb2 : Paired (TabR K Z.Table H2) bs tbs := paired_rangeD (0, []) pb
    refine ⟨W, _, rfl, .inl ⟨SqL.of hd, fun q6 hq6 => ?_⟩⟩
    have sq : Same H2 (upd H2 q6 (.tup bs)) := same_new hq6
    intro x4 dx4 hx4 hdx4 ne4
    have s5 : Same (upd H2 q6 (.tup bs)) (upd (upd H2 q6 (.tup bs)) dx4 (.own x4)) := same_new hdx4
    have hx5 : (upd (upd H2 q6 (.tup bs)) dx4 (.own x4)) x4 = none := by rw [upd_ne ne4.symm]; exact hx4
    have s6 : Same (upd (upd H2 q6 (.tup bs)) dx4 (.own x4)) (upd (upd (upd H2 q6 (.tup bs)) dx4 (.own x4)) x4 (.ins Z.Lot dx4 [])) := same_new hx5
    have hq5 : SqT K (upd (upd H2 q6 (.tup bs)) dx4 (.own x4)) q6 bs := .inl (.inl (s5 _ _ upd_same))
    have pb5 : Paired (TabR K Z.Table (upd (upd H2 q6 (.tup bs)) dx4 (.own x4))) bs tbs := Paired.mapP pb2 fun _ _ z => z.grow (sq.trans s5)
    refine ⟨x4, dx4, q6, bs, tbs, rfl, upd_same, same_seqT s6 hq5, Paired.mapP pb5 fun _ _ z => z.grow s6, t1, t16, ok, fun sw H6 kp6 e6 => ⟨rfl, ?_⟩⟩
    have s7 : Same (upd (upd H2 q6 (.tup bs)) dx4 (.own x4)) H6 := fun c o hc => kp6 _ _ (s6 _ _ hc) (ne_of_none hc hx5)
    have sm6 : Same H3 H6 := ((sm2.trans sq).trans s5).trans s7
    have hL6 : LtAt K Z.Table Z.Lot H6 x4 tbs := ⟨dx4, q6, sw, bs, e6, same_seqT s7 hq5, Paired.mapP pb5 fun _ _ z => z.grow s7⟩
    have S6 := S3.trans sm6
    have hT26 := same_seqT sm6 hT2
    have hT36 := same_seqT sm6 hT3
    refine ⟨_, rfl, b, rfl, ?_⟩
    rcases hO with ⟨rfl, hO⟩ | ⟨rfl, hO⟩
    · have hO6 := hO.grow sm6
      obtain ⟨d7, _, _, _, h7, _, _⟩ := id hO6
      refine iteT (B := True) ?_
      refine ⟨_, rfl, p3, _, (1 : Int), .ref o, rfl, rfl, hT36, atI_nat (j := 1) rfl, _, rfl, o, x4, d7, dx4, _, _, rfl, rfl, h7, e6, o, x4, tbs, tbs, rfl, hO6, hL6, rfl, fun r hr0 => ⟨r, rfl, r, rfl, ?_⟩⟩
      rw [hr0 rfl]
      refine iteT (B := True) ?_
      refine ⟨_, rfl, p3, _, (1 : Int), .ref o, rfl, rfl, hT36, atI_nat (j := 1) rfl, o, tbs, rfl, hO6, ok, t16, fun H7 s7 => ?_⟩
      have elt : lotT tbs = t := by
        cases el : lotR t with
        | error n => rw [due_lotE el] at ed; cases ed
        | ok tbs2 =>
          rw [due_lotR el] at ed
          cases ed
          exact (lotR_ok el).1
      refine ⟨_, rfl, rfl, ?_⟩
      rw [elt]
      have e0 : decide (tV t = tV t) = true := decide_eq_true rfl
      show Q (.bl (decide (tV t = tV t))) H7
      rw [e0]
      exact k H7 (S6.trans s7)
    · have hO6 := hO.grow sm6
      obtain ⟨ept, _, _, m400, uok⟩ := puzR_ok (show puzR t = _ from ed)
      refine iteF ?_
      refine ⟨_, rfl, p3, _, (1 : Int), .ref o, rfl, rfl, hT36, atI_nat (j := 1) rfl, _, rfl, _, rfl, p2, _, (2 : Int), nV m, rfl, rfl, hT26, atI_nat (j := 2) rfl, _, rfl, p2, _, (3 : Int), .ref q, rfl, rfl, hT26, atI_nat (j := 3) rfl, ?_⟩
      have hq6' := same_seqT sm6 hq3
      have hU6 : Paired (UiR K H6) ys us := Paired.mapP hU3 fun _ _ z => z.imm (Same.imm sm6)
      have yl6 : ys.length = us.length := (paired_at hU6).1
      intro x8 dx8 hx8 hdx8 ne8
      have s81 : Same H6 (upd H6 dx8 (.own x8)) := same_new hdx8
      have hx82 : (upd H6 dx8 (.own x8)) x8 = none := by rw [upd_ne ne8.symm]; exact hx8
      have s82 : Same (upd H6 dx8 (.own x8)) (upd (upd H6 dx8 (.own x8)) x8 (.ins Z.Puzzle dx8 [])) := same_new hx82
      refine ⟨x8, dx8, x4, q, m, tbs, ys, us, rfl, upd_same, (hL6.grow s81).grow s82, t1, same_seqT (s81.trans s82) hq6', Paired.mapP hU6 fun _ _ z => z.imm (Same.imm (s81.trans s82)), by omega, by omega, fun u hu => ⟨uok u hu, Nat.le_trans (use_names (uok u hu) ok) (by decide)⟩, fun H8 kp8 e8 => ⟨rfl, ?_⟩⟩
      have s83 : Same (upd H6 dx8 (.own x8)) H8 := fun c o hc => kp8 _ _ (s82 _ _ hc) (ne_of_none hc hx82)
      have s68 := s81.trans s83
      have hP8 : PzAt K Z.Table Z.Lot Z.Puzzle H8 x8 tbs m us := ⟨dx8, x4, q, ys, e8, hL6.grow s68, same_seqT s68 hq6', Paired.mapP hU6 fun _ _ z => z.imm (Same.imm s68)⟩
      have hO8 := hO6.grow s68
      obtain ⟨d9, _, _, _, h9, _, _, _⟩ := id hO8
      refine ⟨o, x8, d9, dx8, _, _, rfl, rfl, h9, e8, o, x8, tbs, m, us, rfl, hO8, hP8, true, rfl, true, rfl, ?_⟩
      refine iteT (B := True) ?_
      refine ⟨_, rfl, p3, _, (1 : Int), .ref o, rfl, rfl, same_seqT s68 hT36, atI_nat (j := 1) rfl, o, tbs, m, us, rfl, hO8, ok, t16, m400, fun u hu => use_small (uok u hu) ok t16 m400, by omega, fun H9 s9 => ?_⟩
      refine ⟨_, rfl, rfl, ?_⟩
      rw [ept]
      have e0 : decide (tV t = tV t) = true := decide_eq_true rfl
      show Q (.bl (decide (tV t = tV t))) H9
      rw [e0]
      exact k H9 ((S6.trans s68).trans s9)
end
end L2.KK
namespace L2.KK
open PySem PySem.Spec PyProof.Rows C8 SX MT
theorem sc_law_uses : FnScope ["d", "tables", "many", "count", "found", "k", "at", "names", "place", "times"] ["d", "tables", "many", "count"] (defScope s_law_uses) := ⟨rfl, rfl, rfl, by decide +kernel, rfl, by decide +kernel, by decide +kernel⟩
structure Us where
  at_ : Nat
  names : List Nat
  times : Nat
def UseR (K : PySem.W.Frag) (H : Hp) (y : V) (u : Us) : Prop := ∃ r nr, y = .ref r ∧ SqT K H r [nV u.at_, .ref nr, nV u.times] ∧ SqT K H nr (nL u.names)
theorem UseR.grow {K : PySem.W.Frag} {H H' : Hp} {y : V} {u : Us} (h : UseR K H y u) (e : Same H H') : UseR K H' y u := by
  obtain ⟨r, nr, h1, h2, h3⟩ := h
  exact ⟨r, nr, h1, same_seqT e h2, same_seqT e h3⟩
def UseOk (tbs : List Tb) (many : Nat) (u : Us) : Prop := ∃ t, tbs[u.at_]? = some t ∧ 1 ≤ u.times ∧ u.times ≤ 1000 ∧ u.names.length = t.1 ∧ ∀ n ∈ u.names, n < many
theorem kpd_seqT {K : PySem.W.Frag} {H H' : Hp} {d c a : Addr} {xs : List V} (D : Dr H d c) (k : Kp d H H') (h : SqT K H a xs) : SqT K H' a xs := by
  obtain ⟨_, _, _, _, hd, _⟩ := D.ex
  rcases h with h | h
  · rcases h with h | ⟨o, h⟩
    · exact .inl (.inl (k _ _ h fun z => by rw [z, hd] at h; cases h))
    · exact .inl (.inr ⟨o, k _ _ h fun z => by rw [z, hd] at h; cases h⟩)
  · exact .inr h
theorem LTR.grow {K : PySem.W.Frag} {H H' : Hp} {y : V} {t : Tb} (h : LTR K H y t) (e : Same H H') : LTR K H' y t := by
  obtain ⟨p, q, h1, h2, h3⟩ := h
  exact ⟨p, q, h1, same_seqT e h2, same_seqT e h3⟩
theorem LTR.kpd {K : PySem.W.Frag} {H H' : Hp} {d c : Addr} {y : V} {t : Tb} (h : LTR K H y t) (D : Dr H d c) (e : Kp d H H') : LTR K H' y t := by
  obtain ⟨p, q, h1, h2, h3⟩ := h
  exact ⟨p, q, h1, kpd_seqT D e h2, kpd_seqT D e h3⟩
theorem UseR.kpd {K : PySem.W.Frag} {H H' : Hp} {d c : Addr} {y : V} {u : Us} (h : UseR K H y u) (D : Dr H d c) (e : Kp d H H') : UseR K H' y u := by
  obtain ⟨p, q, h1, h2, h3⟩ := h
  exact ⟨p, q, h1, kpd_seqT D e h2, kpd_seqT D e h3⟩
theorem kp_free {d : Addr} {H H' : Hp} (e : Kp d H H') {p : Addr} (hd : ∃ o, H' d = some o) (h : H' p = none) : H p = none := by
  cases q : H p with
  | none => rfl
  | some o =>
    by_cases z : p = d
    · obtain ⟨o, hd⟩ := hd
      rw [← z, h] at hd
      cases hd
    · have := e _ _ q z
      rw [h] at this
      cases this
theorem Dr.has {H : Hp} {d c : Addr} (D : Dr H d c) : ∃ o, H d = some o := by
  obtain ⟨_, _, _, _, hd, _⟩ := D.ex
  exact ⟨_, hd⟩
section
variable {P : Program} {w : World} {K : PySem.W.Frag} {mg : Str → Option Value} {base : Heap}
def spUses (K : PySem.W.Frag) : Sp := fun vs H Q _ => ∃ (d c tl : Addr) (many count : Nat) (tbs : List Tb), vs = [.ref d, .ref tl, nV many, nV count] ∧ Dr H d c ∧ tl ≠ d ∧ LTs K H tl tbs ∧ 1 ≤ tbs.length ∧ tbs.length ≤ 16 ∧ (∀ t ∈ tbs, TbOk t) ∧ 1 ≤ many ∧ many ≤ 400 ∧ count ≤ 100 ∧
  ∀ p ys us H', us.length = count → (∀ u ∈ us, UseOk tbs many u) → H p = none → H' p = some (.tup ys) → Paired (UseR K H') ys us → Dr H' d c → Kp d H H' → Q (.ref p) H'
theorem c_law_uses (D : FnAt K mg "_law_uses" s_law_uses) (T : Bl mg) (c_law_draw : Cal P w K mg base 1 "_law_draw" spDraw []) : Cal P w K mg base 2 "_law_uses" (spUses K) [] := by
  refine calOf D sc_law_uses (fun _ _ _ _ _ _ us hl => match us, hl with | [_, _, _, _], _ => rfl) (fun vs H Q E h => ?_) (fun f cdv A outer s H vs Q E hr h => ?_)
  · obtain ⟨d, c, tl, many, count, tbs, rfl, _⟩ := h
    rfl
  · obtain ⟨d, c, tl, many, count, tbs, rfl, D, ntd, hT, h1, h16, okT, m1, m400, c100, k⟩ := h
    have nd := sc_law_uses.nd
    refine ⟨_, (pss_cons (ps_set (i := 4) nd rfl (by first | exact Or.inl rfl | exact Or.inr rfl) (pe_lst pa_nil))
      (pss_cons (ps_for PassesOwn.never rfl (pi_range1 (by rfl) T.b_range (pa_cons (pv 3) pa_nil)) (pg_name (i := 5) nd rfl (by first | exact Or.inl rfl | exact Or.inr rfl))
        (pss_cons (ps_set (i := 6) nd rfl (by first | exact Or.inl rfl | exact Or.inr rfl) (pe_c c_law_draw hr (by decide) (by rfl) (pa_cons (pv 0) (pa_cons (pe_callB (crLen K) (by rfl) T.b_len (by decide +kernel) (pa_cons (pv 1) pa_nil)) pa_nil))))
        (pss_cons (ps_set (i := 7) nd rfl (by first | exact Or.inl rfl | exact Or.inr rfl) (pe_callTy (crTup K) (by rfl) T.b_tuple (by decide +kernel) (pa_cons (pe_lc (own := [("place", 8)]) (g := gName 8) (tt := tYes) rfl nd (pi_range1 (by rfl) T.b_range (pa_cons (pe_ix (ixT K) (pe_ix (ixL K) (pv 1) (pv 6) (fun _ _ => rfl)) pe_int (fun _ _ => rfl)) pa_nil)) (blkOk_by (N := ["d", "tables", "many", "count", "found", "k", "at", "names", "place", "times"]) (sc := defScope s_law_uses) (own := [("place", 8)]) (by decide +kernel)) (fun _ _ _ _ _ => (pg_name (i := 8) nd rfl (by first | exact Or.inl rfl | exact Or.inr rfl))) (fun _ _ _ _ _ => pts_nil) (fun _ _ _ _ _ => (pe_c c_law_draw hr (by decide) (by rfl) (pa_cons (pv 0) (pa_cons (pv 2) pa_nil))))) pa_nil)))
        (pss_cons (ps_set (i := 9) nd rfl (by first | exact Or.inl rfl | exact Or.inr rfl) (pe_ifExp (pt_cmpR op_gt (pe_c c_law_draw hr (by decide) (by rfl) (pa_cons (pv 0) (pa_cons pe_int pa_nil))) pe_int (nomark _)) pe_int (pe_op op_addNN pe_int (pe_c c_law_draw hr (by decide) (by rfl) (pa_cons (pv 0) (pa_cons pe_int pa_nil))))))
        (pss_one (ps_expr (pe_bm PySem.F.plainAttrs_list PySem.F.slot_list_append PySem.F.type_list_append mt_append (pv 4) (pa_cons (pe_tup (pa_cons (pv 6) (pa_cons (pv 7) (pa_cons (pv 9) pa_nil)))) pa_nil))))))))
      (pss_one (ps_ret (pe_callTy (crTup K) (by rfl) T.b_tuple (by decide +kernel) (pa_cons (pv 4) pa_nil)))))), ?_⟩
    refine ⟨Nat.zero_le _, fun fl hfl => ?_⟩
    obtain ⟨fld, flc⟩ := D.ne hfl
    refine ⟨_, rfl, _, rfl, by omega, by omega, ?_⟩
    rw [Int.toNat_natCast]
    refine for_range (lo := 0) (n := count) (fun i σ' H' => ∃ (ys : List V) (us : List Us) (c5 c6 c7 c9 : Option V), σ' = [some (.ref d), some (.ref tl), some (nV many), some (nV count), some (.ref fl), c5, c6, c7, none, c9] ∧ H' fl = some (.lst ys) ∧ Paired (UseR K H') ys us ∧ us.length = i ∧ (∀ u ∈ us, UseOk tbs many u) ∧ Dr H' d c ∧ Kp d H H')
      ⟨[], [], none, none, none, none, rfl, upd_same, .nil, rfl, fun u h => (nomatch h), D.put fld flc, (Kp.refl d H).new hfl⟩ ?_ ?_
    · rintro i σ' H0 hi ⟨ys, us, c5, c6, c7, c9, rfl, e0, p0, l0, ok0, D0, kp0⟩
      have hT0 := hT.kpd ntd D kp0
      obtain ⟨ts, hts, pts⟩ := hT0
      obtain ⟨tsl, tsa⟩ := paired_at pts
      refine ⟨_, rfl, _, rfl, tl, ts, rfl, .inl (SqL.of hts), d, c, (ts.length : Int), rfl, D0, by omega, by omega, fun at_ H1 hat D1 kp1 => ?_⟩
      have hat' : at_ < ts.length := by omega
      have hy : ts[at_]? = some ts[at_] := List.getElem?_eq_getElem hat'
      obtain ⟨t, ht, tp, tq, ety, htp, htq⟩ := tsa _ _ hy
      have ot := okT t (List.mem_of_getElem? ht)
      have hts1 := kp1 _ _ hts ntd
      refine ⟨_, rfl, _, rfl, tl, ts, (at_ : Int), ts[at_], rfl, rfl, SqL.of hts1, atI_nat hy, tp, _, (0 : Int), nV t.1, ety, rfl, kpd_seqT D0 kp1 htp, rfl, _, rfl, by omega, by have := ot.2.1; omega, ?_⟩
      rw [Int.toNat_natCast]
      intro N0 hN0
      obtain ⟨nd0, nc0⟩ := D1.ne hN0
      refine lc_range (lo := 0) (n := t.1) (fun j H3 => ∃ ns : List Nat, H3 N0 = some (.lst (nL ns)) ∧ ns.length = j ∧ (∀ n ∈ ns, n < many) ∧ Dr H3 d c ∧ Kp d H1 H3)
        ⟨[], upd_same, rfl, fun n h => (nomatch h), D1.put nd0 nc0, (Kp.refl d H1).new hN0⟩ ?_ ?_
      · rintro j H3 hj ⟨ns, g1, nl, nm, D3, kp3⟩
        refine ⟨rfl, ?_⟩
        refine ⟨_, rfl, _, rfl, d, c, (many : Int), rfl, D3, by omega, by omega, fun n H4 hn D4 kp4 => ?_⟩
        have t4 := ot.2.1
        refine ⟨nL ns, kp4 _ _ g1 nd0, Nat.lt_of_le_of_lt (show (nL ns).length ≤ 40 by rw [List.length_map]; omega) (by decide), ns ++ [n], by rw [upd_same, nL_snoc], by rw [List.length_append, nl]; rfl, fun x hx => ?_, D4.put nd0 nc0, (kp3.trans kp4).new hN0⟩
        rcases List.mem_append.mp hx with z | z
        · exact nm x z
        · rw [List.mem_singleton.mp z]; omega
      · rintro H3 ⟨ns, g1, nl, nm, D3, kp3⟩
        refine ⟨N0, _, rfl, .inl ⟨SqL.of g1, fun nr hnr => ?_⟩⟩
        have sm4 := same_new (o := .tup (nL ns)) hnr
        have D4 := D3.keep sm4
        -- times
        refine ⟨_, rfl, d, c, 3, rfl, D4, by decide, by decide, fun n3 H5 hn3 D5 kp5 => ⟨n3, 0, rfl, rfl, _, rfl, ?_⟩⟩
        have kp05 : Kp d H0 H5 := ((kp1.trans kp3).trans (Kp.of sm4)).trans kp5
        have fl5 := kp05 _ _ e0 fld
        have hnr5 : SqT K H5 nr (nL ns) := kpd_seqT D4 kp5 (.inl (.inl upd_same))
        have p5 := Paired.mapP p0 fun _ _ q => UseR.kpd q D0 kp05
        have fin : ∀ (tm : Nat) (H6 : Hp) (r : Addr), 1 ≤ tm → tm ≤ 1000 → Dr H6 d c → Kp d H5 H6 → H6 r = none → ∃ l xs y, V.ref fl = .ref l ∧ [V.ref r] = [y] ∧ (upd H6 r (.tup [nV at_, .ref nr, nV tm])) l = some (.lst xs) ∧ xs.length < sizeLine ∧
            ∃ (ys : List V) (us : List Us) (c5 c6 c7 c9 : Option V), [some (V.ref d), some (.ref tl), some (nV many), some (nV count), some (.ref fl), some (.int (0 + (i : Int))), some (nV at_), some (.ref nr), none, some (nV tm)] = [some (.ref d), some (.ref tl), some (nV many), some (nV count), some (.ref fl), c5, c6, c7, none, c9] ∧
              (upd (upd H6 r (.tup [nV at_, .ref nr, nV tm])) l (.lst (xs ++ [y]))) fl = some (.lst ys) ∧ Paired (UseR K (upd (upd H6 r (.tup [nV at_, .ref nr, nV tm])) l (.lst (xs ++ [y])))) ys us ∧ us.length = i + 1 ∧ (∀ u ∈ us, UseOk tbs many u) ∧
              Dr (upd (upd H6 r (.tup [nV at_, .ref nr, nV tm])) l (.lst (xs ++ [y]))) d c ∧ Kp d H (upd (upd H6 r (.tup [nV at_, .ref nr, nV tm])) l (.lst (xs ++ [y]))) := fun tm H6 r t1 t2 D6 kp6 hr6 => by
          have sm7 := same_new (o := .tup [nV at_, .ref nr, nV tm]) hr6
          have fl7 := sm7 _ _ (kp6 _ _ fl5 fld)
          have kpf : Kp fl (upd H6 r (.tup [nV at_, .ref nr, nV tm])) (upd (upd H6 r (.tup [nV at_, .ref nr, nV tm])) fl (.lst (ys ++ [.ref r]))) := kp_upd
          have lst : ∀ {a : Addr} {xs : List V}, SqT K (upd H6 r (.tup [nV at_, .ref nr, nV tm])) a xs → SqT K (upd (upd H6 r (.tup [nV at_, .ref nr, nV tm])) fl (.lst (ys ++ [.ref r]))) a xs := fun {a xs} h => by
            rcases h with h | h
            · rcases h with h | ⟨o, h⟩
              · exact .inl (.inl (kpf _ _ h fun z => by rw [z, fl7] at h; cases h))
              · exact .inl (.inr ⟨o, kpf _ _ h fun z => by rw [z, fl7] at h; cases h⟩)
            · exact .inr h
          have pl := (paired_at p0).1
          refine ⟨fl, ys, .ref r, rfl, rfl, fl7, Nat.lt_of_le_of_lt (show ys.length ≤ 100 by omega) (by decide), ys ++ [.ref r], us ++ [⟨at_, ns, tm⟩], _, _, _, _, rfl, upd_same, paired_snoc (Paired.mapP p5 fun y u h => ?_) ?_, by rw [List.length_append, l0]; rfl, fun u hu => ?_, (D6.keep sm7).put fld flc, ?_⟩
          · obtain ⟨r1, r2, e1, e2, e3⟩ := (h.kpd D5 kp6).grow sm7
            exact ⟨r1, r2, e1, lst e2, lst e3⟩
          · exact ⟨r, nr, rfl, lst (.inl (.inl upd_same)), lst (same_seqT sm7 (kpd_seqT D5 kp6 hnr5))⟩
          · rcases List.mem_append.mp hu with z | z
            · exact ok0 u z
            · rw [List.mem_singleton.mp z]
              exact ⟨t, ht, t1, t2, nl, nm⟩
          · exact (((kp0.trans kp05).trans kp6).trans (Kp.of sm7)).new hfl
        refine ite2 (fun _ => ?_) (fun _ => ?_)
        · refine ⟨_, rfl, .inl ⟨rfl, _, SqL.of fl5⟩, _, rfl, _, rfl, _, rfl, by show 3 ≤ sizeLine; decide, fun r hr6 => ?_⟩
          exact fin 1 H5 r (by decide) (by decide) D5 (Kp.refl d H5) hr6
        · refine ⟨_, rfl, d, c, 9, rfl, D5, by decide, by decide, fun n9 H6 hn9 D6 kp6 => ⟨1, n9, rfl, rfl, ?_⟩⟩
          refine ⟨_, rfl, .inl ⟨rfl, _, SqL.of (kp6 _ _ fl5 fld)⟩, _, rfl, _, rfl, _, rfl, by show 3 ≤ sizeLine; decide, fun r hr6 => ?_⟩
          exact fin (1 + n9) H6 r (by omega) (by omega) D6 kp6 hr6
    · rintro σ' H1 ⟨ys, us, c5, c6, c7, c9, rfl, e0, p0, l0, ok0, D0, kp0⟩
      refine ⟨_, rfl, fl, ys, rfl, .inl ⟨SqL.of e0, fun p hp => ?_⟩⟩
      have sm := same_new (o := .tup ys) hp
      exact k p ys us _ l0 ok0 (kp_free kp0 D0.has hp) upd_same (Paired.mapP p0 fun _ _ q => q.grow sm) (D0.keep sm) (kp0.trans (Kp.of sm))
end
end L2.KK
namespace L2.KK
open PySem PySem.Spec PyProof.Rows C8 SX MT
theorem sc_law_lines : FnScope ["tables", "many", "uses", "lines", "table", "words", "price", "use", "line", "name"] ["tables", "many", "uses"] (defScope s_law_lines) := ⟨rfl, rfl, rfl, by decide +kernel, rfl, by decide +kernel, by decide +kernel⟩
/-- short, on one line -/
def LinOk (k : Nat) (ls : List Tx) : Prop := ∀ l ∈ ls, l.length ≤ k ∧ 10 ∉ l
theorem LinOk.snoc {k : Nat} {ls : List Tx} {l : Tx} (h : LinOk k ls) (h1 : l.length ≤ k) (h2 : 10 ∉ l) : LinOk k (ls ++ [l]) := fun x hx => by
  rcases List.mem_append.mp hx with z | z
  · exact h x z
  · rw [List.mem_singleton.mp z]
    exact ⟨h1, h2⟩
theorem free_app {a b : Tx} (ha : 10 ∉ a) (hb : 10 ∉ b) : 10 ∉ a ++ b := fun h => (List.mem_append.mp h).elim ha hb
theorem free_num (n : Nat) : 10 ∉ TL.numL n := TL.numL_free (.inl (by decide))
theorem free_join : ∀ {ps : List Tx}, (∀ p ∈ ps, 10 ∉ p) → 10 ∉ TL.joinL [32] ps
  | [], _ => List.not_mem_nil
  | [p], h => h p List.mem_cons_self
  | p :: q :: r, h => by
    rw [joinL_cons]
    exact free_app (h p List.mem_cons_self) (free_app (by decide) (free_join fun z hz => h z (List.mem_cons_of_mem _ hz)))
theorem num_short {n : Nat} (h : n < 10 ^ 4) : (TL.numL n).length ≤ 4 := TL.numL_len (by decide) h
theorem int_tx (n : Nat) : V.str (Str.ofString (toString ((n : Nat) : Int))) = tV (TL.numL n) := by rw [nat_S]
theorem tL_snoc2 (ls : List Tx) (l : Tx) : tL ls ++ [tV l] = tL (ls ++ [l]) := (tL_snoc ls l).symm
/-- a line of a table, as the law writes it -/
def tabW (t : Tb) : Tx := [116, 97, 98, 108, 101, 32] ++ TL.numL t.1 ++ [58, 32] ++ TL.joinL [32] (t.2.map pTx)
def useW1 (u : Us) : Tx := [117, 115, 101, 32] ++ TL.numL u.at_ ++ [32, 111, 110, 32] ++ TL.joinL [32] (u.names.map TL.numL)
def tmW : Tx := [32, 116, 105, 109, 101, 115, 32]
def UsS (u : Us) : Prop := u.at_ < 10 ^ 4 ∧ u.times < 10 ^ 4 ∧ u.names.length ≤ 4 ∧ ∀ n ∈ u.names, n < 10 ^ 4
theorem pTx_short {p : Option Nat} (h : ∀ m, p = some m → m ≤ 1000) : (pTx p).length ≤ 4 ∧ 10 ∉ pTx p := by
  cases p with
  | none => exact ⟨by decide, by decide⟩
  | some n => exact ⟨num_short (Nat.lt_of_le_of_lt (h n rfl) (by decide)), free_num n⟩
theorem tab_join {t : Tb} (h : TbOk t) : (TL.joinL [32] (t.2.map pTx)).length ≤ 80 ∧ 10 ∉ TL.joinL [32] (t.2.map pTx) := by
  have p16 : 2 ^ t.1 ≤ 2 ^ 4 := Nat.pow_le_pow_right (by decide) h.2.1
  have hl : (t.2.map pTx).length ≤ 16 := by rw [List.length_map, h.2.2.1]; exact p16
  have hs : ∀ x ∈ t.2.map pTx, x.length ≤ 4 ∧ 10 ∉ x := fun x hx => by
    obtain ⟨p, hp, rfl⟩ := List.mem_map.mp hx
    exact pTx_short (h.2.2.2.2 p hp)
  have j := join_le (c := 32) (k := 4) fun x hx => (hs x hx).1
  exact ⟨by omega, free_join fun x hx => (hs x hx).2⟩
theorem tabW_ok {t : Tb} (h : TbOk t) : (tabW t).length ≤ 200 ∧ 10 ∉ tabW t := by
  obtain ⟨j1, j2⟩ := tab_join h
  have n4 := num_short (Nat.lt_of_le_of_lt h.2.1 (show 4 < 10 ^ 4 by decide))
  refine ⟨?_, free_app (free_app (free_app (by decide) (free_num _)) (by decide)) j2⟩
  unfold tabW
  rw [List.length_append, List.length_append, List.length_append]
  show 6 + _ + 2 + _ ≤ 200
  omega
theorem use_join {u : Us} (h : UsS u) : (TL.joinL [32] (u.names.map TL.numL)).length ≤ 20 ∧ 10 ∉ TL.joinL [32] (u.names.map TL.numL) := by
  obtain ⟨_, _, h3, h4⟩ := h
  have hs : ∀ x ∈ u.names.map TL.numL, x.length ≤ 4 ∧ 10 ∉ x := fun x hx => by
    obtain ⟨n, hn, rfl⟩ := List.mem_map.mp hx
    exact ⟨num_short (h4 n hn), free_num n⟩
  have j := join_le (c := 32) (k := 4) fun x hx => (hs x hx).1
  rw [List.length_map] at j
  exact ⟨by omega, free_join fun x hx => (hs x hx).2⟩
theorem useW1_ok {u : Us} (h : UsS u) : (useW1 u).length ≤ 100 ∧ 10 ∉ useW1 u := by
  obtain ⟨j1, j2⟩ := use_join h
  have n4 := num_short h.1
  refine ⟨?_, free_app (free_app (free_app (by decide) (free_num _)) (by decide)) j2⟩
  unfold useW1
  rw [List.length_append, List.length_append, List.length_append]
  show 4 + _ + 4 + _ ≤ 100
  omega
theorem useW2_ok {u : Us} (h : UsS u) : (useW1 u ++ tmW ++ TL.numL u.times).length ≤ 200 ∧ 10 ∉ useW1 u ++ tmW ++ TL.numL u.times := by
  obtain ⟨j1, j2⟩ := useW1_ok h
  have n4 := num_short h.2.1
  refine ⟨?_, free_app (free_app j2 (by decide)) (free_num _)⟩
  rw [List.length_append, List.length_append]
  show _ + 7 + _ ≤ 200
  omega
section
variable {P : Program} {w : World} {K : PySem.W.Frag} {mg : Str → Option Value} {base : Heap}
def spLL (K : PySem.W.Frag) : Sp := fun vs H Q _ => ∃ (tl tu : Addr) (ys : List V) (us : List Us) (tbs : List Tb) (m : Nat), vs = [.ref tl, nV m, .ref tu] ∧ LTs K H tl tbs ∧ SqT K H tu ys ∧ Paired (UseR K H) ys us ∧ (∀ t ∈ tbs, TbOk t) ∧ (∀ u ∈ us, UsS u) ∧ tbs.length ≤ 3 ∧ us.length ≤ 8 ∧ m ≤ 400 ∧
  ∀ p ls H', Same H H' → H p = none → H' p = some (.lst (tL ls)) → ls.length = tbs.length + 1 + us.length → LinOk 200 ls → Q (.ref p) H'
theorem c_law_lines (D : FnAt K mg "_law_lines" s_law_lines) (T : Bl mg) : Cal P w K mg base 1 "_law_lines" (spLL K) [] := by
  refine calOf D sc_law_lines (fun _ _ _ _ _ _ us hl => match us, hl with | [_, _, _], _ => rfl) (fun vs H Q E h => ?_) (fun f cdv A outer s H vs Q E hr h => ?_)
  · obtain ⟨tl, tu, ys, us, tbs, m, rfl, _⟩ := h
    rfl
  · obtain ⟨tl, tu, ys, us, tbs, m, rfl, hL, hS, hU, okT, okU, t3, u8, m400, k⟩ := h
    have nd := sc_law_lines.nd
    obtain ⟨ts, hts, pts⟩ := id hL
    obtain ⟨tsl, tsa⟩ := paired_at pts
    obtain ⟨yl, ya⟩ := paired_at hU
    refine ⟨_, (pss_cons (ps_set (i := 3) nd rfl (by first | exact Or.inl rfl | exact Or.inr rfl) (pe_lst pa_nil))
      (pss_cons (ps_for PassesOwn.never rfl (piList K (pv 0)) (pg_name (i := 4) nd rfl (by first | exact Or.inl rfl | exact Or.inr rfl))
        (pss_cons (ps_setLc (i := 5) (own := [("price", 6)]) (g := gName 6) (tt := tYes) rfl nd rfl rfl (sw_true rfl rfl rfl (by decide +kernel)) (piTup K (pe_ix (ixT K) (pv 4) pe_int (fun _ _ => rfl))) (blkOk_by (N := ["tables", "many", "uses", "lines", "table", "words", "price", "use", "line", "name"]) (sc := defScope s_law_lines) (own := [("price", 6)]) (by decide +kernel)) (fun _ _ _ _ _ => (pg_name (i := 6) nd rfl (by first | exact Or.inl rfl | exact Or.inr rfl))) (fun _ _ _ _ _ => pts_nil) (fun _ _ _ _ _ => (pe_ifExp (pt_cmpR op_isN (pv 6) pe_non (nomark _)) pe_str (pe_callTy call_str_int (by rfl) T.b_str (by decide +kernel) (pa_cons (pv 6) pa_nil)))))
        (pss_one (ps_expr (pe_bm PySem.F.plainAttrs_list PySem.F.slot_list_append PySem.F.type_list_append mt_append (pv 3) (pa_cons (pe_op op_add_str (pe_op op_add_str (pe_op op_add_str pe_str (pe_callTy call_str_int (by rfl) T.b_str (by decide +kernel) (pa_cons (pe_ix (ixT K) (pv 4) pe_int (fun _ _ => rfl)) pa_nil))) pe_str) (pe_join pe_str (pv 5))) pa_nil))))))
      (pss_cons (ps_expr (pe_bm PySem.F.plainAttrs_list PySem.F.slot_list_append PySem.F.type_list_append mt_append (pv 3) (pa_cons (pe_op op_add_str pe_str (pe_callTy call_str_int (by rfl) T.b_str (by decide +kernel) (pa_cons (pv 1) pa_nil))) pa_nil)))
      (pss_cons (ps_for PassesOwn.never rfl (piTup K (pv 2)) (pg_name (i := 7) nd rfl (by first | exact Or.inl rfl | exact Or.inr rfl))
        (pss_cons (ps_set (i := 8) nd rfl (by first | exact Or.inl rfl | exact Or.inr rfl) (pe_op op_add_str (pe_op op_add_str (pe_op op_add_str pe_str (pe_callTy call_str_int (by rfl) T.b_str (by decide +kernel) (pa_cons (pe_ix (ixT K) (pv 7) pe_int (fun _ _ => rfl)) pa_nil))) pe_str) (pe_join pe_str (pe_lc (own := [("name", 9)]) (g := gName 9) (tt := tYes) rfl nd (piTup K (pe_ix (ixT K) (pv 7) pe_int (fun _ _ => rfl))) (blkOk_by (N := ["tables", "many", "uses", "lines", "table", "words", "price", "use", "line", "name"]) (sc := defScope s_law_lines) (own := [("name", 9)]) (by decide +kernel)) (fun _ _ _ _ _ => (pg_name (i := 9) nd rfl (by first | exact Or.inl rfl | exact Or.inr rfl))) (fun _ _ _ _ _ => pts_nil) (fun _ _ _ _ _ => (pe_callTy call_str_int (by rfl) T.b_str (by decide +kernel) (pa_cons (pv 9) pa_nil)))))))
        (pss_one (ps_expr (pe_bm PySem.F.plainAttrs_list PySem.F.slot_list_append PySem.F.type_list_append mt_append (pv 3) (pa_cons (pe_ifExp (pt_cmpR op_eq (pe_ix (ixT K) (pv 7) pe_int (fun _ _ => rfl)) pe_int (nomark _)) (pv 8) (pe_op op_add_str (pe_op op_add_str (pv 8) pe_str) (pe_callTy call_str_int (by rfl) T.b_str (by decide +kernel) (pa_cons (pe_ix (ixT K) (pv 7) pe_int (fun _ _ => rfl)) pa_nil)))) pa_nil))))))
      (pss_one (ps_ret (pv 3))))))), ?_⟩
    refine ⟨by show 0 ≤ sizeLine; decide, fun ll hll => ?_⟩
    obtain ⟨H1, e1, s1, g1⟩ := al (o := .lst []) hll
    rw [e1]
    clear e1
    refine ⟨_, rfl, tl, rfl, ⟨_, s1.seq (SqL.of hts)⟩, ?_⟩
    refine for_list (xs := ts) (fun i σ' H' => ∃ (c4 c5 c7 c8 : Option V) (ls : List Tx), σ' = [some (.ref tl), some (nV m), some (.ref tu), some (.ref ll), c4, c5, none, c7, c8, none] ∧ Same H H' ∧ H' ll = some (.lst (tL ls)) ∧ ls.length = i ∧ LinOk 200 ls) ⟨none, none, none, none, [], rfl, s1, g1, rfl, fun l h => (nomatch h)⟩ (fun i σ' H' _ ⟨_, _, _, _, _, _, e, _⟩ => e.seq (SqL.of hts)) (fun i x σ' H' hx hp => ?_) (fun σ' H' hp => ?_)
    · obtain ⟨c4, c5, c7, c8, ls, rfl, sm, g, len, lok⟩ := hp
      obtain ⟨t, ht, p, q, rfl, h2, h3⟩ := tsa i x hx
      have ot := okT t (List.mem_of_getElem? ht)
      have ilt : i < ts.length := (List.getElem?_eq_some_iff.mp hx).1
      have p16 : 2 ^ t.1 ≤ 2 ^ 4 := Nat.pow_le_pow_right (by decide) ot.2.1
      have h2' := same_seqT sm h2
      have h3' := same_seqT sm h3
      refine ⟨_, rfl, p, _, (1 : Int), .ref q, rfl, rfl, h2', atI_nat (j := 1) rfl, q, rfl, ⟨_, h3'⟩, fun W hW => lc_tupT h3' (sel := fun _ => true) (P := fun i y _ => y = tV (pTx (t.2.getD i none))) ⟨fun _ _ _ _ _ h => h, fun i H2 _ _ R r => r H2 (Same.refl H2), fun i H2 hi _ sm2 R r => ?_⟩ hW (lt_line (by rw [List.length_map, ot.2.2.1]; omega)) (fun H2 bs sm2 hb _ pb => ?_)⟩
      · rw [List.length_map] at hi
        have e : (t.2.map pV).getD i .non = pV (t.2.getD i none) := map_getD none hi
        refine ⟨_, rfl, ?_⟩
        rw [e]
        cases hp : t.2.getD i none with
        | none =>
          rw [hp] at r
          exact ⟨rfl, _, rfl, ite2 (fun _ => r _ H2 (Same.refl H2) rfl) (fun h => absurd isn_none h)⟩
        | some n =>
          have hm : t.2.getD i none ∈ t.2 := by
            rw [List.getD_eq_getElem?_getD, List.getElem?_eq_getElem hi]
            exact List.getElem_mem hi
          have n1 := ot.2.2.2.2 _ hm n hp
          rw [hp] at r
          refine ⟨rfl, _, rfl, ite2 (fun h => absurd h isn_some) (fun _ => ⟨_, rfl, (n : Int), rfl, log_ok (by rw [Int.natAbs_natCast]; exact Nat.lt_of_le_of_lt n1 (by decide)), ?_⟩)⟩
          rw [nat_S]
          exact r _ H2 (Same.refl H2) rfl
      rw [filter_yes, List.length_map] at pb
      rw [paired_tx none pb, tL_strs] at hb
      obtain ⟨j1, j2⟩ := tab_join ot
      have sm2' := sm.trans sm2
      have g2 := sm2 _ _ g
      have n4 := num_short (Nat.lt_of_le_of_lt ot.2.1 (show 4 < 10 ^ 4 by decide))
      refine ⟨_, rfl, .inl ⟨rfl, _, SqL.of g2⟩, _, rfl, p, _, (0 : Int), nV t.1, rfl, rfl, same_seqT sm2 h2', atI_nat (j := 0) rfl, (t.1 : Int), rfl, log_ok (by rw [Int.natAbs_natCast]; exact Nat.lt_of_le_of_lt ot.2.1 (by decide)), ?_⟩
      rw [nat_S]
      refine ⟨S [116, 97, 98, 108, 101, 32], S (TL.numL t.1), rfl, rfl, by rw [S_len, S_len]; exact lt_lineT (by show 6 + _ ≤ _; omega), ?_⟩
      rw [S_cat]
      refine ⟨S ([116, 97, 98, 108, 101, 32] ++ TL.numL t.1), S [58, 32], rfl, rfl, by rw [S_len, S_len, List.length_append]; exact lt_lineT (by show 6 + _ + 2 ≤ _; omega), ?_⟩
      rw [S_cat]
      refine ⟨⟨_, rfl⟩, _, rfl, S [32], W, (t.2.map pTx).map S, rfl, rfl, .inl (SqL.of hb), Nat.le_trans (join_cost _) (lt_lineT (by omega)), ?_⟩
      rw [join_S]
      have tw := tabW_ok ot
      refine ⟨S ([116, 97, 98, 108, 101, 32] ++ TL.numL t.1 ++ [58, 32]), S (TL.joinL [32] (t.2.map pTx)), rfl, rfl, by rw [S_len, S_len, ← List.length_append]; exact lt_lineT (Nat.le_trans tw.1 (by decide)), ?_⟩
      rw [S_cat]
      refine ⟨ll, _, tV (tabW t), rfl, rfl, g2, Nat.lt_of_le_of_lt (show (tL ls).length ≤ 3 by rw [List.length_map]; omega) (by decide), _, _, _, _, ls ++ [tabW t], rfl, same_fresh sm2' hll, by rw [upd_same, tL_snoc2], by rw [List.length_append, len]; rfl, lok.snoc tw.1 tw.2⟩
    obtain ⟨c4, c5, c7, c8, ls, rfl, sm, g, len, lok⟩ := hp
    rw [tsl] at len
    refine ⟨_, rfl, .inl ⟨rfl, _, SqL.of g⟩, _, rfl, (m : Int), rfl, log_ok (by rw [Int.natAbs_natCast]; exact Nat.lt_of_le_of_lt m400 (by decide)), ?_⟩
    rw [nat_S]
    have m4 := num_short (Nat.lt_of_le_of_lt m400 (show 400 < 10 ^ 4 by decide))
    refine ⟨S [110, 97, 109, 101, 115, 32], S (TL.numL m), rfl, rfl, by rw [S_len, S_len]; exact lt_lineT (by show 6 + _ ≤ _; omega), ?_⟩
    rw [S_cat]
    have nw1 : ([110, 97, 109, 101, 115, 32] ++ TL.numL m).length ≤ 200 := by
      rw [List.length_append]
      show 6 + _ ≤ 200
      omega
    have lok2 := lok.snoc nw1 (free_app (by decide) (free_num m))
    refine ⟨ll, _, tV ([110, 97, 109, 101, 115, 32] ++ TL.numL m), rfl, rfl, g, Nat.lt_of_le_of_lt (show (tL ls).length ≤ 3 by rw [List.length_map]; omega) (by decide), ?_⟩
    obtain ⟨H2, e2⟩ : ∃ H2, upd H' ll (.lst (tL ls ++ [tV ([110, 97, 109, 101, 115, 32] ++ TL.numL m)])) = H2 := ⟨_, rfl⟩
    have s2 : Same H H2 := by rw [← e2]; exact same_fresh sm hll
    have g2 : H2 ll = some (.lst (tL (ls ++ [[110, 97, 109, 101, 115, 32] ++ TL.numL m]))) := by rw [← e2, upd_same, tL_snoc2]
    have len2 : (ls ++ [[110, 97, 109, 101, 115, 32] ++ TL.numL m]).length = tbs.length + 1 := by rw [List.length_append, len]; rfl
    generalize ls ++ [[110, 97, 109, 101, 115, 32] ++ TL.numL m] = ls2 at *
    rw [e2]
    clear e2 g sm lok len
    refine ⟨_, rfl, tu, rfl, ⟨_, same_seqT s2 hS⟩, ?_⟩
    refine for_tup (xs := ys) (fun i σ' H' => ∃ (c4 c5 c7 c8 : Option V) (ls : List Tx), σ' = [some (.ref tl), some (nV m), some (.ref tu), some (.ref ll), c4, c5, none, c7, c8, none] ∧ Same H H' ∧ H' ll = some (.lst (tL ls)) ∧ ls.length = tbs.length + 1 + i ∧ LinOk 200 ls) ⟨c4, c5, c7, c8, ls2, rfl, s2, g2, len2, lok2⟩ (fun i σ' H' _ ⟨_, _, _, _, _, _, e, _⟩ => same_seqT e hS) (fun i x σ' H' hx hp => ?_) (fun σ' H' hp => ?_)
    · obtain ⟨c4, c5, c7, c8, ls, rfl, sm, g, len, lok⟩ := hp
      obtain ⟨u, hu, r, nr, rfl, h2, h3⟩ := ya i x hx
      have ou := okU u (List.mem_of_getElem? hu)
      have ilt : i < ys.length := (List.getElem?_eq_some_iff.mp hx).1
      have h2' := same_seqT sm h2
      have h3' := same_seqT sm h3
      have n4 := num_short ou.1
      have big : ∀ {n : Nat}, n < 10 ^ 4 → (((n : Nat) : Int)).natAbs < 10 ^ 100 := fun h => by rw [Int.natAbs_natCast]; exact Nat.lt_trans h (by decide)
      refine ⟨_, rfl, r, _, (0 : Int), nV u.at_, rfl, rfl, h2', atI_nat (j := 0) rfl, (u.at_ : Int), rfl, log_ok (big ou.1), ?_⟩
      rw [nat_S]
      refine ⟨S [117, 115, 101, 32], S (TL.numL u.at_), rfl, rfl, by rw [S_len, S_len]; exact lt_lineT (by show 4 + _ ≤ _; omega), ?_⟩
      rw [S_cat]
      refine ⟨S ([117, 115, 101, 32] ++ TL.numL u.at_), S [32, 111, 110, 32], rfl, rfl, by rw [S_len, S_len, List.length_append]; exact lt_lineT (by show 4 + _ + 4 ≤ _; omega), ?_⟩
      rw [S_cat]
      refine ⟨⟨_, rfl⟩, _, rfl, r, _, (1 : Int), .ref nr, rfl, rfl, h2', atI_nat (j := 1) rfl, nr, rfl, ⟨_, h3'⟩, fun W hW => lc_tupT h3' (sel := fun _ => true) (P := fun i y _ => y = tV (TL.numL (u.names.getD i 0))) ⟨fun _ _ _ _ _ h => h, fun i H2 _ _ R r => r H2 (Same.refl H2), fun i H2 hi _ sm2 R r => ?_⟩ hW (lt_line (by rw [List.length_map]; have := ou.2.2.1; omega)) (fun H2 bs sm2 hb _ pb => ?_)⟩
      · rw [List.length_map] at hi
        have e : (nL u.names).getD i .non = nV (u.names.getD i 0) := map_getD 0 hi
        have hm : u.names.getD i 0 ∈ u.names := by
          rw [List.getD_eq_getElem?_getD, List.getElem?_eq_getElem hi]
          exact List.getElem_mem hi
        refine ⟨_, rfl, ((u.names.getD i 0 : Nat) : Int), by rw [e], log_ok (big (ou.2.2.2 _ hm)), ?_⟩
        rw [nat_S]
        exact r _ H2 (Same.refl H2) rfl
      rw [filter_yes, List.length_map] at pb
      rw [paired_tx 0 pb, tL_strs] at hb
      obtain ⟨j1, j2⟩ := use_join ou
      have sm2' := sm.trans sm2
      have g2 := sm2 _ _ g
      refine ⟨S [32], W, (u.names.map TL.numL).map S, rfl, rfl, .inl (SqL.of hb), Nat.le_trans (join_cost _) (lt_lineT (by omega)), ?_⟩
      rw [join_S]
      have tw := useW1_ok ou
      refine ⟨S ([117, 115, 101, 32] ++ TL.numL u.at_ ++ [32, 111, 110, 32]), S (TL.joinL [32] (u.names.map TL.numL)), rfl, rfl, by rw [S_len, S_len, ← List.length_append]; exact lt_lineT (Nat.le_trans tw.1 (by decide)), ?_⟩
      rw [S_cat]
      have lenL : (tL ls).length ≤ 20 := by rw [List.length_map]; omega
      refine ⟨_, rfl, .inl ⟨rfl, _, SqL.of g2⟩, _, rfl, r, _, (2 : Int), nV u.times, rfl, rfl, same_seqT sm2 h2', atI_nat (j := 2) rfl, rfl, _, rfl, ite2 (fun _ => ?_) (fun _ => ?_)⟩
      · refine ⟨_, rfl, ?_⟩
        exact ⟨ll, _, tV (useW1 u), rfl, rfl, g2, Nat.lt_of_le_of_lt lenL (by decide), _, _, _, _, ls ++ [useW1 u], rfl, same_fresh sm2' hll, by rw [upd_same, tL_snoc2], by rw [List.length_append, len]; rfl, lok.snoc (by omega) tw.2⟩
      · have tw2 := useW2_ok ou
        have t4 := num_short ou.2.1
        refine ⟨_, rfl, S (useW1 u), S tmW, rfl, rfl, by rw [S_len, S_len]; exact lt_lineT (by show _ + 7 ≤ _; omega), ?_⟩
        rw [S_cat]
        refine ⟨_, rfl, r, _, (2 : Int), nV u.times, rfl, rfl, same_seqT sm2 h2', atI_nat (j := 2) rfl, (u.times : Int), rfl, log_ok (big ou.2.1), ?_⟩
        rw [nat_S]
        refine ⟨S (useW1 u ++ tmW), S (TL.numL u.times), rfl, rfl, by rw [S_len, S_len, ← List.length_append]; exact lt_lineT (Nat.le_trans tw2.1 (by decide)), ?_⟩
        rw [S_cat]
        exact ⟨ll, _, tV (useW1 u ++ tmW ++ TL.numL u.times), rfl, rfl, g2, Nat.lt_of_le_of_lt lenL (by decide), _, _, _, _, ls ++ [useW1 u ++ tmW ++ TL.numL u.times], rfl, same_fresh sm2' hll, by rw [upd_same, tL_snoc2], by rw [List.length_append, len]; rfl, lok.snoc tw2.1 tw2.2⟩
    · obtain ⟨c4, c5, c7, c8, ls, rfl, sm, g, len, lok⟩ := hp
      rw [yl] at len
      exact ⟨_, rfl, k ll ls H' sm hll g len lok⟩
end
end L2.KK
namespace L2.KK
open PySem PySem.Spec PyProof.Rows C8 SX MT
theorem sc_law_changed : FnScope ["d", "lines", "row", "at", "way", "words", "spot", "line"] ["d", "lines"] (defScope s_law_changed) := ⟨rfl, rfl, rfl, by decide +kernel, rfl, by decide +kernel, by decide +kernel⟩
/-- rows of a text that was changed -/
def RowOk (rs : List Tx) : Prop := rs.length ≤ 12 ∧ (∀ l ∈ rs, l.length ≤ 300) ∧ rs.flatten.count 10 ≤ 1
theorem flat_free {rs : List Tx} (h : ∀ l ∈ rs, 10 ∉ l) : rs.flatten.count 10 = 0 := List.count_eq_zero_of_not_mem fun z => by
  obtain ⟨l, hl, hz⟩ := List.mem_flatten.mp z
  exact h l hl hz
theorem RowOk.of {rs : List Tx} (h : LinOk 300 rs) (l : rs.length ≤ 12) : RowOk rs := ⟨l, fun x hx => (h x hx).1, by rw [flat_free fun x hx => (h x hx).2]; decide⟩
theorem LinOk.sub {k : Nat} {rs ls : List Tx} (h : LinOk k ls) (s : ∀ x ∈ rs, x ∈ ls) : LinOk k rs := fun x hx => h x (s x hx)
theorem LinOk.mono {k m : Nat} {ls : List Tx} (h : LinOk k ls) (l : k ≤ m) : LinOk m ls := fun x hx => ⟨Nat.le_trans (h x hx).1 l, (h x hx).2⟩
theorem LinOk.set {k : Nat} {ls : List Tx} {i : Nat} {x : Tx} (h : LinOk k ls) (h1 : x.length ≤ k) (h2 : 10 ∉ x) : LinOk k (ls.set i x) := fun y hy => by
  rcases List.mem_or_eq_of_mem_set hy with z | z
  · exact h y z
  · rw [z]; exact ⟨h1, h2⟩
theorem LinOk.ins {k : Nat} {ls : List Tx} {i : Nat} {x : Tx} (h : LinOk k ls) (h1 : x.length ≤ k) (h2 : 10 ∉ x) : LinOk k (ls.take i ++ [x] ++ ls.drop i) := fun y hy => by
  rcases List.mem_append.mp hy with z | z
  · rcases List.mem_append.mp z with z | z
    · exact h y (List.mem_of_mem_take z)
    · rw [List.mem_singleton.mp z]; exact ⟨h1, h2⟩
  · exact h y (List.mem_of_mem_drop z)
theorem ins_len {α : Type} (ls : List α) (i : Nat) (x : α) : (ls.take i ++ [x] ++ ls.drop i).length = ls.length + 1 := by
  rw [List.length_append, List.length_append, List.length_take, List.length_drop]
  show min i ls.length + 1 + _ = _
  omega
theorem RowOk.set {ls : List Tx} {i : Nat} {x : Tx} (h : LinOk 300 ls) (l : ls.length ≤ 12) (h1 : x.length ≤ 300) (h2 : x.count 10 ≤ 1) : RowOk (ls.set i x) := by
  refine ⟨by rw [List.length_set]; exact l, fun y hy => ?_, ?_⟩
  · rcases List.mem_or_eq_of_mem_set hy with z | z
    · exact (h y z).1
    · rw [z]; exact h1
  · have key : ∀ (ls : List Tx) (i : Nat), (∀ l ∈ ls, 10 ∉ l) → (ls.set i x).flatten.count 10 ≤ x.count 10 := by
      intro ls
      induction ls with
      | nil => intro i _; exact Nat.zero_le _
      | cons a r ih =>
        intro i hf
        cases i with
        | zero =>
          rw [List.set_cons_zero, List.flatten_cons, List.count_append, flat_free fun z hz => hf z (List.mem_cons_of_mem _ hz)]
          exact Nat.le_refl _
        | succ i =>
          rw [List.set_cons_succ, List.flatten_cons, List.count_append, List.count_eq_zero_of_not_mem (hf a List.mem_cons_self)]
          have := ih i fun z hz => hf z (List.mem_cons_of_mem _ hz)
          omega
    exact Nat.le_trans (key ls i fun z hz => (h z hz).2) h2
theorem nl_count : ∀ (rs : List Tx), ((rs.map nl).flatten).count 10 = rs.length + rs.flatten.count 10
  | [] => rfl
  | l :: r => by
    rw [List.map_cons, List.flatten_cons, List.flatten_cons, List.count_append, List.count_append, nl_count r, List.length_cons]
    have e : (nl l).count 10 = l.count 10 + 1 := by
      unfold nl
      rw [List.count_append]
      rfl
    omega
theorem join10_count : ∀ (rs : List Tx), (TL.joinL [10] rs).count 10 ≤ rs.length + rs.flatten.count 10
  | [] => Nat.le_refl 0
  | [l] => by
    show l.count 10 ≤ 1 + (l ++ []).count 10
    rw [List.append_nil]
    omega
  | l :: q :: r => by
    have ih := join10_count (q :: r)
    rw [joinL_cons, List.count_append, List.count_append, List.flatten_cons, List.count_append, List.length_cons]
    have e : ([10] : Tx).count 10 = 1 := rfl
    omega
theorem nl_ok {rs : List Tx} (h : RowOk rs) : ((rs.map nl).flatten).length ≤ 5000 ∧ ((rs.map nl).flatten).count 10 ≤ 14 := by
  have a := flat_nl_len h.2.1 h.1
  have b := nl_count rs
  have := h.1
  have := h.2.2
  exact ⟨by omega, by omega⟩
theorem join10_ok {rs : List Tx} (h : RowOk rs) : (TL.joinL [10] rs).length ≤ 5000 ∧ (TL.joinL [10] rs).count 10 ≤ 14 := by
  have a := join_le (c := 10) h.2.1
  have b := join10_count rs
  have h1 := h.1
  have h2 := h.2.2
  have : rs.length * (300 + 1) ≤ 12 * 301 := Nat.mul_le_mul h1 (Nat.le_refl _)
  exact ⟨by omega, by omega⟩
/-- the weight of words -/
def wt (ws : List Tx) : Nat := (ws.map fun p => p.length + 1).sum
theorem wt_append (a b : List Tx) : wt (a ++ b) = wt a + wt b := by
  unfold wt
  rw [List.map_append, List.sum_append]
theorem wt_line {l : Tx} : wt (spC 32 l) = l.length + 1 := by
  have a := joinL_len 32 (spC 32 l)
  rw [spC_join (by decide), if_neg (spC_ne (by decide) l)] at a
  exact a.symm
theorem wt_join {ws : List Tx} {k : Nat} (h : wt ws ≤ k) : (TL.joinL [32] ws).length ≤ k := by
  have a := joinL_len 32 ws
  have b : (TL.joinL [32] ws).length + 1 = wt ws + if ws = [] then 1 else 0 := a
  by_cases c : ws = []
  · rw [c]; exact Nat.zero_le _
  · rw [if_neg c] at b
    omega
theorem wt_split (ws : List Tx) (i : Nat) : wt (ws.take i) + wt (ws.drop i) = wt ws := by rw [← wt_append, List.take_append_drop]
theorem wt_ins (ws : List Tx) (i : Nat) (x : Tx) : wt (ws.take i ++ [x] ++ ws.drop i) = wt ws + (x.length + 1) := by
  rw [wt_append, wt_append, ← wt_split ws i]
  show _ + (x.length + 1 + 0) + _ = _
  omega
theorem wt_tail (ws : List Tx) : wt ws.tail ≤ wt ws := by
  cases ws with
  | nil => exact Nat.le_refl _
  | cons a r =>
    show wt r ≤ (a.length + 1) + wt r
    omega
theorem wt_erase (ws : List Tx) (i : Nat) : wt (ws.eraseIdx i) ≤ wt ws := by
  rw [List.eraseIdx_eq_take_drop_succ, wt_append, ← wt_split ws i]
  have : wt (ws.drop (i + 1)) ≤ wt (ws.drop i) := by
    rw [← List.tail_drop]
    exact wt_tail _
  omega
theorem wt_set : ∀ (ws : List Tx) (i : Nat) (x : Tx), wt (ws.set i x) ≤ wt ws + (x.length + 1)
  | [], i, x => Nat.zero_le _
  | a :: r, 0, x => by
    show (x.length + 1) + wt r ≤ (a.length + 1) + wt r + _
    omega
  | a :: r, i + 1, x => by
    have := wt_set r i x
    show (a.length + 1) + wt (r.set i x) ≤ (a.length + 1) + wt r + _
    omega
theorem mem_join {x : Nat} {c : Nat} : ∀ {ps : List Tx} {p : Tx}, p ∈ ps → x ∈ p → x ∈ TL.joinL [c] ps
  | [q], p, h, hx => by
    rw [List.mem_singleton.mp h] at hx
    exact hx
  | q :: q2 :: r, p, h, hx => by
    rw [joinL_cons]
    rcases List.mem_cons.mp h with z | z
    · rw [z] at hx
      exact List.mem_append_left _ hx
    · exact List.mem_append_right _ (List.mem_append_right _ (mem_join z hx))
theorem words_free {l : Tx} (h : 10 ∉ l) : ∀ w ∈ spC 32 l, 10 ∉ w := fun w hw hx => h (by
  have := mem_join (c := 32) hw hx
  rw [spC_join (by decide)] at this
  exact this)
theorem tL_set (ls : List Tx) (i : Nat) (x : Tx) : (tL ls).set i (tV x) = tL (ls.set i x) := by
  unfold tL
  rw [List.map_set]
theorem tL_erase (ls : List Tx) (i : Nat) : (tL ls).eraseIdx i = tL (ls.eraseIdx i) := by
  unfold tL
  rw [List.eraseIdx_eq_take_drop_succ, List.eraseIdx_eq_take_drop_succ, List.map_append, List.map_take, List.map_drop]
theorem tL_ins (ls : List Tx) (i : Nat) (x : Tx) : (tL ls).take i ++ [tV x] ++ (tL ls).drop i = tL (ls.take i ++ [x] ++ ls.drop i) := by
  unfold tL
  rw [List.map_append, List.map_append, List.map_take, List.map_drop]
  rfl
section
variable {P : Program} {w : World} {K : PySem.W.Frag} {mg : Str → Option Value} {base : Heap}
def spCh (K : PySem.W.Frag) : Sp := fun vs H Q _ => ∃ (d c a : Addr) (ls : List Tx), vs = [.ref d, .ref a] ∧ Dr H d c ∧ H a = some (.lst (tL ls)) ∧ a ≠ d ∧ 1 ≤ ls.length ∧ ls.length ≤ 11 ∧ LinOk 200 ls ∧
  ∀ t H', t.length ≤ 5000 → t.count 10 ≤ 14 → Dr H' d c → Kp d H H' → Q (tV t) H'
theorem c_law_changed (D : FnAt K mg "_law_changed" s_law_changed) (T : Bl mg) (c_law_draw : Cal P w K mg base 1 "_law_draw" spDraw []) (c_law_pick : Cal P w K mg base 2 "_law_pick" spPick []) : Cal P w K mg base 3 "_law_changed" (spCh K) [] := by
  refine calOf D sc_law_changed (fun _ _ _ _ _ _ us hl => match us, hl with | [_, _], _ => rfl) (fun vs H Q E h => ?_) (fun f cdv A outer s H vs Q E hr h => ?_)
  · obtain ⟨d, c, a, ls, rfl, _⟩ := h
    rfl
  · obtain ⟨d, c, a, ls, rfl, D, ha, nad, l1, l11, lok, k⟩ := h
    have nd := sc_law_changed.nd
    have llen : (tL ls).length = ls.length := List.length_map ..
    refine ⟨_, (pss_cons (ps_set (i := 2) nd rfl (by first | exact Or.inl rfl | exact Or.inr rfl) (pe_callTy (crList K) (by rfl) T.b_list (by decide +kernel) (pa_cons (pv 1) pa_nil)))
      (pss_cons (ps_set (i := 3) nd rfl (by first | exact Or.inl rfl | exact Or.inr rfl) (pe_c c_law_draw hr (by decide) (by rfl) (pa_cons (pv 0) (pa_cons (pe_callB (crLen K) (by rfl) T.b_len (by decide +kernel) (pa_cons (pv 2) pa_nil)) pa_nil))))
      (pss_cons (ps_set (i := 4) nd rfl (by first | exact Or.inl rfl | exact Or.inr rfl) (pe_c c_law_draw hr (by decide) (by rfl) (pa_cons (pv 0) (pa_cons pe_int pa_nil))))
      (pss_cons (ps_set (i := 5) nd rfl (by first | exact Or.inl rfl | exact Or.inr rfl) (pe_split (pe_ix (ixL K) (pv 2) (pv 3) (fun _ _ => rfl)) pe_str))
      (pss_cons (ps_set (i := 6) nd rfl (by first | exact Or.inl rfl | exact Or.inr rfl) (pe_c c_law_draw hr (by decide) (by rfl) (pa_cons (pv 0) (pa_cons (pe_callB (crLen K) (by rfl) T.b_len (by decide +kernel) (pa_cons (pv 5) pa_nil)) pa_nil))))
      (pss_cut (ps_if (pt_cmpR op_eq (pv 4) pe_int (nomark _))
        (pss_one (ps_expr (pe_bm PySem.F.plainAttrs_list PySem.F.slot_list_pop PySem.F.type_list_pop mt_popAt (pv 2) (pa_cons (pv 3) pa_nil))))
        (pss_one (ps_if (pt_cmpR op_eq (pv 4) pe_int (nomark _))
          (pss_one (ps_expr (pe_bm PySem.F.plainAttrs_list PySem.F.slot_list_insert PySem.F.type_list_insert mt_insert (pv 2) (pa_cons (pe_c c_law_draw hr (by decide) (by rfl) (pa_cons (pv 0) (pa_cons (pe_op op_addNN (pe_callB (crLen K) (by rfl) T.b_len (by decide +kernel) (pa_cons (pv 2) pa_nil)) pe_int) pa_nil))) (pa_cons (pe_ix (ixL K) (pv 2) (pv 3) (fun _ _ => rfl)) pa_nil)))))
          (pss_one (ps_if (pt_cmpR op_eq (pv 4) pe_int (nomark _))
            (pss_one (ps_expr (pe_bm PySem.F.plainAttrs_list PySem.F.slot_list_insert PySem.F.type_list_insert mt_insert (pv 2) (pa_cons (pe_c c_law_draw hr (by decide) (by rfl) (pa_cons (pv 0) (pa_cons (pe_callB (crLen K) (by rfl) T.b_len (by decide +kernel) (pa_cons (pv 2) pa_nil)) pa_nil))) (pa_cons (pe_bm PySem.F.plainAttrs_list PySem.F.slot_list_pop PySem.F.type_list_pop mt_popAt (pv 2) (pa_cons (pv 3) pa_nil)) pa_nil)))))
            (pss_one (ps_if (pt_cmpR op_eq (pv 4) pe_int (nomark _))
              (pss_cons (ps_expr (pe_bm PySem.F.plainAttrs_list PySem.F.slot_list_pop PySem.F.type_list_pop mt_popAt (pv 5) (pa_cons (pv 6) pa_nil)))
              (pss_one (ps_asg (pe_join pe_str (pv 5)) (pg_sub (pv 2) (pv 3) set_list))))
              (pss_one (ps_if (pt_cmpR (inSeq K) (pv 4) (pe_tup (pa_cons pe_int (pa_cons pe_int pa_nil))) (by rfl))
                (pss_cons (ps_asg (pe_c c_law_pick hr (by decide) (by rfl) (pa_cons (pv 0) (pa_cons (pe_lst (pa_cons pe_str (pa_cons pe_str (pa_cons pe_str (pa_cons pe_str (pa_cons pe_str (pa_cons pe_str (pa_cons pe_str (pa_cons pe_str (pa_cons pe_str (pa_cons pe_str (pa_cons pe_str (pa_cons pe_str (pa_cons pe_str (pa_cons pe_str pa_nil))))))))))))))) pa_nil))) (pg_sub (pv 5) (pv 6) set_list))
                (pss_one (ps_asg (pe_join pe_str (pv 5)) (pg_sub (pv 2) (pv 3) set_list))))
                (pss_one (ps_if (pt_cmpR op_eq (pv 4) pe_int (nomark _))
                  (pss_cons (ps_expr (pe_bm PySem.F.plainAttrs_list PySem.F.slot_list_insert PySem.F.type_list_insert mt_insert (pv 5) (pa_cons (pv 6) (pa_cons (pe_c c_law_pick hr (by decide) (by rfl) (pa_cons (pv 0) (pa_cons (pe_lst (pa_cons pe_str (pa_cons pe_str (pa_cons pe_str (pa_cons pe_str (pa_cons pe_str pa_nil)))))) pa_nil))) pa_nil))))
                  (pss_one (ps_asg (pe_join pe_str (pv 5)) (pg_sub (pv 2) (pv 3) set_list))))
                  (pss_one (ps_if (pt_cmpR op_eq (pv 4) pe_int (nomark _))
                    (pss_one (ps_asg (pe_op op_add_str (pe_ix (ixL K) (pv 2) (pv 3) (fun _ _ => rfl)) (pe_c c_law_pick hr (by decide) (by rfl) (pa_cons (pv 0) (pa_cons (pe_lst (pa_cons pe_str (pa_cons pe_str (pa_cons pe_str (pa_cons pe_str (pa_cons pe_str (pa_cons pe_str pa_nil))))))) pa_nil)))) (pg_sub (pv 2) (pv 3) set_list)))
                    (pss_one (ps_if (pt_cmpR op_eq (pv 4) pe_int (nomark _))
                      (pss_one (ps_ret (pe_join pe_str (pv 2))))
                      pss_nil)))))))))))))))
      (pss_one (ps_ret (pe_join pe_str (pe_lc (own := [("line", 7)]) (g := gName 7) (tt := tYes) rfl nd (piList K (pv 2)) (blkOk_by (N := ["d", "lines", "row", "at", "way", "words", "spot", "line"]) (sc := defScope s_law_changed) (own := [("line", 7)]) (by decide +kernel)) (fun _ _ _ _ _ => (pg_name (i := 7) nd rfl (by first | exact Or.inl rfl | exact Or.inr rfl))) (fun _ _ _ _ _ => pts_nil) (fun _ _ _ _ _ => (pe_op op_add_str (pv 7) pe_str)))))))))))), ?_⟩
    refine ⟨_, rfl, a, tL ls, rfl, .inl (SqL.of ha), fun rw_ hrw => ?_⟩
    obtain ⟨nrd, nrc⟩ := D.ne hrw
    obtain ⟨H1, e1, s1, g1⟩ := al (o := .lst (tL ls)) hrw
    rw [e1]
    clear e1
    have D1 := D.keep s1
    refine ⟨_, rfl, _, rfl, rw_, _, rfl, .inl (SqL.of g1), d, c, ((tL ls).length : Int), rfl, D1, by omega, by omega, fun at_ H2 hat D2 kp2 => ?_⟩
    have hat' : at_ < ls.length := by omega
    have g2 := kp2 _ _ g1 nrd
    refine ⟨_, rfl, d, c, 10, rfl, D2, by decide, by decide, fun way H3 hway D3 kp3 => ?_⟩
    have g3 := kp3 _ _ g2 nrd
    obtain ⟨l, el⟩ : ∃ l, ls.getD at_ [] = l := ⟨_, rfl⟩
    have gl : ls[at_]? = some l := by rw [← el]; exact getD_some hat'
    obtain ⟨lk1, lk2⟩ := lok l (List.mem_of_getElem? gl)
    refine ⟨_, rfl, _, rfl, rw_, tL ls, (at_ : Int), tV l, rfl, rfl, SqL.of g3, atI_nat (tL_get gl), ⟨_, rfl⟩, S l, S [32], rfl, rfl, rfl, by rw [S_len]; exact lt_lineT (by omega), fun wd hwd => ?_⟩
    rw [split_C (by decide), ← tL_strs]
    obtain ⟨w1, w2, w3⟩ := spC_words lk1
    have wfr := words_free lk2
    have wwt := wt_line (l := l)
    obtain ⟨ws, ews⟩ : ∃ ws, spC 32 l = ws := ⟨_, rfl⟩
    rw [ews] at w1 w2 w3 wfr wwt
    rw [ews]
    have wlen : (tL ws).length = ws.length := List.length_map ..
    obtain ⟨nwd, nwc⟩ := D3.ne hwd
    obtain ⟨H4, e4, s4, g4⟩ := al (o := .lst (tL ws)) hwd
    rw [e4]
    clear e4
    have D4 := D3.keep s4
    refine ⟨_, rfl, _, rfl, wd, _, rfl, .inl (SqL.of g4), d, c, ((tL ws).length : Int), rfl, D4, by omega, by omega, fun spot H5 hspot D5 kp5 => ?_⟩
    have g5w := kp5 _ _ g4 nwd
    have g5 := kp5 _ _ (s4 _ _ g3) nrd
    have hspot' : spot < ws.length := by omega
    have nrw : rw_ ≠ wd := fun z => by rw [z, hwd] at g3; cases g3
    have kp15 : Kp d H1 H5 := ((kp2.trans kp3).trans (Kp.of s4)).trans kp5
    have kpH : Kp d H H5 := (Kp.of s1).trans kp15
    have wdH : H wd = none := kp_free ((Kp.of s1).trans (kp2.trans kp3)) D3.has hwd
    clear kp15 s4 D4 kp2 kp3 kp5 g4 g3 g2 D1 D2 D3
    have lokm := lok.mono (show 200 ≤ 300 by decide)
    refine ⟨fun σ' H' => ∃ rs : List Tx, σ' = [some (.ref d), some (.ref a), some (.ref rw_), some (nV at_), some (nV way), some (.ref wd), some (nV spot), none] ∧ H' rw_ = some (.lst (tL rs)) ∧ RowOk rs ∧ Dr H' d c ∧ Kp d H H', ?_, ?_⟩
    rotate_left
    · rintro σ' H6 ⟨rs, rfl, g, ok, D6, kp6⟩
      have rlen : (tL rs).length = rs.length := List.length_map ..
      have r12 := ok.1
      refine ⟨⟨_, rfl⟩, _, rfl, rw_, rfl, ⟨_, SqL.of g⟩, fun W hW => lc_listT (SqL.of g) (sel := fun _ => true) (P := fun i y _ => y = tV (nl (rs.getD i []))) ⟨fun _ _ _ _ _ h => h, fun i H2 _ _ R r => r H2 (Same.refl H2), fun i H7 hi _ sm7 R r => ?_⟩ hW (lt_lineT (by omega)) (fun H7 bs sm7 hb _ pb => ?_)⟩
      · rw [rlen] at hi
        have e : (tL rs).getD i .non = tV (rs.getD i []) := map_getD [] hi
        have hl := ok.2.1 _ (List.mem_of_getElem? (getD_some hi))
        refine ⟨_, rfl, ?_⟩
        rw [e]
        refine ⟨S (rs.getD i []), S [10], rfl, rfl, by rw [S_len, S_len]; exact lt_lineT (by show _ + 1 ≤ _; omega), ?_⟩
        rw [S_cat]
        exact r _ H7 (Same.refl H7) rfl
      rw [filter_yes, rlen] at pb
      rw [paired_tx [] pb, tL_strs] at hb
      obtain ⟨z1, z2⟩ := nl_ok ok
      refine ⟨S [], W, (rs.map nl).map S, rfl, rfl, .inl (SqL.of hb), by rw [join_cost0]; exact lt_lineT (by omega), ?_⟩
      rw [join_S, joinL_nil]
      exact k _ H7 z1 z2 (D6.keep sm7) (kp6.trans (Kp.of sm7))
    have hat2 : at_ < (tL ls).length := by omega
    have hsp2 : spot < (tL ws).length := by omega
    have gsp : ws[spot]? = some (ws.getD spot []) := getD_some hspot'
    have wwt2 : wt ws ≤ 201 := by omega
    refine ⟨_, rfl, rfl, _, rfl, ite2 (fun _ => ?_) (fun _ => ?_)⟩
    · refine ⟨_, rfl, .inl ⟨rfl, _, SqL.of g5⟩, _, rfl, rw_, tL ls, (at_ : Int), at_, tV l, rfl, rfl, g5, by omega, by omega, (ixN_seq (ixN_lt hat2)).1, tL_get gl, ?_⟩
      exact ⟨ls.eraseIdx at_, rfl, by rw [upd_same, tL_erase], RowOk.of (lokm.sub fun x hx => List.mem_of_mem_eraseIdx hx) (by have := List.length_eraseIdx_le ls at_; omega), D5.put nrd nrc, kpH.new hrw⟩
    refine ⟨_, rfl, rfl, _, rfl, ite2 (fun _ => ?_) (fun _ => ?_)⟩
    · refine ⟨_, rfl, .inl ⟨rfl, _, SqL.of g5⟩, _, rfl, _, rfl, rw_, _, rfl, .inl (SqL.of g5), (tL ls).length, 1, rfl, rfl, d, c, (((tL ls).length + 1 : Nat) : Int), rfl, D5, by omega, by omega, fun n H6 hn D6 kp6 => ?_⟩
      have g6 := kp6 _ _ g5 nrd
      refine ⟨_, rfl, _, rfl, rw_, tL ls, (at_ : Int), tV l, rfl, rfl, SqL.of g6, atI_nat (tL_get gl), rw_, tL ls, (n : Int), tV l, rfl, rfl, g6, lt_line (by omega), by omega, by omega, ?_⟩
      exact ⟨ls.take n ++ [l] ++ ls.drop n, rfl, by rw [upd_same, Int.toNat_natCast, tL_ins], RowOk.of (lokm.ins (by omega) lk2) (by rw [ins_len]; omega), D6.put nrd nrc, (kpH.trans kp6).new hrw⟩
    refine ⟨_, rfl, rfl, _, rfl, ite2 (fun _ => ?_) (fun _ => ?_)⟩
    · refine ⟨_, rfl, .inl ⟨rfl, _, SqL.of g5⟩, _, rfl, _, rfl, rw_, _, rfl, .inl (SqL.of g5), d, c, ((tL ls).length : Int), rfl, D5, by omega, by omega, fun n H6 hn D6 kp6 => ?_⟩
      have g6 := kp6 _ _ g5 nrd
      refine ⟨_, rfl, .inl ⟨rfl, _, SqL.of g6⟩, _, rfl, rw_, tL ls, (at_ : Int), at_, tV l, rfl, rfl, g6, by omega, by omega, (ixN_seq (ixN_lt hat2)).1, tL_get gl, ?_⟩
      have le := List.length_eraseIdx_le ls at_
      refine ⟨rw_, tL (ls.eraseIdx at_), (n : Int), tV l, rfl, rfl, by rw [upd_same, tL_erase], lt_line (by rw [List.length_map]; omega), by omega, by omega, ?_⟩
      exact ⟨(ls.eraseIdx at_).take n ++ [l] ++ (ls.eraseIdx at_).drop n, rfl, by rw [upd_same, Int.toNat_natCast, tL_ins], RowOk.of ((lokm.sub fun x hx => List.mem_of_mem_eraseIdx hx).ins (by omega) lk2) (by rw [ins_len]; omega), (D6.put nrd nrc).put nrd nrc, ((kpH.trans kp6).new hrw).new hrw⟩
    refine ⟨_, rfl, rfl, _, rfl, ite2 (fun _ => ?_) (fun _ => ?_)⟩
    · refine ⟨_, rfl, .inl ⟨rfl, _, SqL.of g5w⟩, _, rfl, wd, tL ws, (spot : Int), spot, _, rfl, rfl, g5w, by omega, by omega, (ixN_seq (ixN_lt hsp2)).1, tL_get gsp, ?_⟩
      have gw6 : (upd H5 wd (.lst ((tL ws).eraseIdx spot))) wd = some (.lst (tL (ws.eraseIdx spot))) := by rw [upd_same, tL_erase]
      have gr6 : (upd H5 wd (.lst ((tL ws).eraseIdx spot))) rw_ = some (.lst (tL ls)) := by rw [upd_ne nrw]; exact g5
      have we := wt_erase ws spot
      have jg : (upd H5 wd (.lst ((tL ws).eraseIdx spot))) wd = some (.lst ((ws.eraseIdx spot).map S |>.map V.str)) := by rw [← tL_strs]; exact gw6
      have jl := wt_join (show wt (ws.eraseIdx spot) ≤ 290 by omega)
      refine ⟨⟨_, rfl⟩, _, rfl, S [32], wd, (ws.eraseIdx spot).map S, rfl, rfl, .inl (SqL.of jg), Nat.le_trans (join_cost _) (lt_lineT (by omega)), ?_⟩
      rw [join_S]
      refine ⟨_, rfl, _, rfl, rw_, tL ls, (at_ : Int), at_, rfl, rfl, gr6, ixN_lt (by omega), ?_⟩
      exact ⟨ls.set at_ (TL.joinL [32] (ws.eraseIdx spot)), rfl, by rw [upd_same]; exact congrArg (fun z => some (HO.lst z)) (tL_set _ _ _), RowOk.of (lokm.set (by omega) (free_join fun w hw => wfr w (List.mem_of_mem_eraseIdx hw))) (by rw [List.length_set]; omega), (D5.put nwd nwc).put nrd nrc, (kpH.new wdH).new hrw⟩
    refine ⟨_, rfl, by show 2 ≤ sizeLine; decide, fun rp hrp => ?_⟩
    obtain ⟨H6, e6, s6, g6⟩ := al (o := .tup [nV 4, nV 5]) hrp
    have e6' : upd H5 rp (.tup [V.int 4, V.int 5]) = H6 := e6
    rw [e6']
    have g6r := s6 _ _ g5
    have g6w := s6 _ _ g5w
    have D6 := D5.keep s6
    have kp6 := kpH.trans (Kp.of s6)
    refine ⟨rp, _, rfl, .inr (.inl (.inl g6)), rfl, rfl, _, rfl, ?_⟩
    clear e6 e6' s6 g5 g5w D5 kpH
    refine ite2 (fun _ => ?_) (fun _ => ?_)
    · refine ⟨_, rfl, by show 14 ≤ sizeLine; decide, fun pl hpl => ?_⟩
      obtain ⟨H7, e7, s7, g7⟩ := al (o := .lst (tL [[120], [48], [49], [48, 48], [49, 48, 48, 49], [49, 48, 48, 48], [45, 49], [], [117, 115, 101], [116, 105, 109, 101, 115], [111, 110], [52, 48, 49], [51, 58], [97]])) hpl
      have e7' : upd H6 pl (.lst [V.str (Str.ofString "x"), V.str (Str.ofString "0"), V.str (Str.ofString "1"), V.str (Str.ofString "00"), V.str (Str.ofString "1001"), V.str (Str.ofString "1000"), V.str (Str.ofString "-1"), V.str (Str.ofString ""), V.str (Str.ofString "use"), V.str (Str.ofString "times"), V.str (Str.ofString "on"), V.str (Str.ofString "401"), V.str (Str.ofString "3:"), V.str (Str.ofString "a")]) = H7 := e7
      rw [e7']
      obtain ⟨npd, npc⟩ := D6.ne hpl
      refine ⟨d, c, pl, _, rfl, D6.keep s7, g7, npd, npc, by decide, by decide, fun i v H8 hv D8 kp8 => ?_⟩
      obtain ⟨x, hx, rfl⟩ := map_get hv
      have hx2 : x.length ≤ 5 ∧ 10 ∉ x := (show ∀ x ∈ [[120], [48], [49], [48, 48], [49, 48, 48, 49], [49, 48, 48, 48], [45, 49], [], [117, 115, 101], [116, 105, 109, 101, 115], [111, 110], [52, 48, 49], [51, 58], [97]], x.length ≤ 5 ∧ 10 ∉ x by decide) x (List.mem_of_getElem? hx)
      have g8r := kp8 _ _ (s7 _ _ g6r) nrd
      have g8w := kp8 _ _ (s7 _ _ g6w) nwd
      have kp08 := (kp6.trans (Kp.of s7)).trans kp8
      refine ⟨_, rfl, _, rfl, wd, tL ws, (spot : Int), spot, rfl, rfl, g8w, ixN_lt hsp2, ?_⟩
      have gw9 : (upd H8 wd (.lst ((tL ws).set spot (tV x)))) wd = some (.lst (tL (ws.set spot x))) := by rw [upd_same, tL_set]
      have gr9 : (upd H8 wd (.lst ((tL ws).set spot (tV x)))) rw_ = some (.lst (tL ls)) := by rw [upd_ne nrw]; exact g8r
      have we := wt_set ws spot x
      have hx5 := hx2.1
      have jg : (upd H8 wd (.lst ((tL ws).set spot (tV x)))) wd = some (.lst ((ws.set spot x).map S |>.map V.str)) := by rw [← tL_strs]; exact gw9
      have jl := wt_join (show wt (ws.set spot x) ≤ 290 by omega)
      refine ⟨⟨_, rfl⟩, _, rfl, S [32], wd, (ws.set spot x).map S, rfl, rfl, .inl (SqL.of jg), Nat.le_trans (join_cost _) (lt_lineT (by omega)), ?_⟩
      rw [join_S]
      refine ⟨_, rfl, _, rfl, rw_, tL ls, (at_ : Int), at_, rfl, rfl, gr9, ixN_lt (by omega), ?_⟩
      exact ⟨ls.set at_ (TL.joinL [32] (ws.set spot x)), rfl, by rw [upd_same]; exact congrArg (fun z => some (HO.lst z)) (tL_set _ _ _), RowOk.of (lokm.set (by omega) (free_join fun w hw => by rcases List.mem_or_eq_of_mem_set hw with z | z; exact wfr w z; rw [z]; exact hx2.2)) (by rw [List.length_set]; omega), (D8.put nwd nwc).put nrd nrc, (kp08.new wdH).new hrw⟩
    refine ⟨_, rfl, rfl, _, rfl, ite2 (fun _ => ?_) (fun _ => ?_)⟩
    · refine ⟨_, rfl, .inl ⟨rfl, _, SqL.of g6w⟩, _, rfl, _, rfl, by show 5 ≤ sizeLine; decide, fun pl hpl => ?_⟩
      obtain ⟨H7, e7, s7, g7⟩ := al (o := .lst (tL [[], [48], [120], [116, 105, 109, 101, 115], [49]])) hpl
      have e7' : upd H6 pl (.lst [V.str (Str.ofString ""), V.str (Str.ofString "0"), V.str (Str.ofString "x"), V.str (Str.ofString "times"), V.str (Str.ofString "1")]) = H7 := e7
      rw [e7']
      obtain ⟨npd, npc⟩ := D6.ne hpl
      refine ⟨d, c, pl, _, rfl, D6.keep s7, g7, npd, npc, by decide, by decide, fun i v H8 hv D8 kp8 => ?_⟩
      obtain ⟨x, hx, rfl⟩ := map_get hv
      have hx2 : x.length ≤ 5 ∧ 10 ∉ x := (show ∀ x ∈ [[], [48], [120], [116, 105, 109, 101, 115], [49]], x.length ≤ 5 ∧ 10 ∉ x by decide) x (List.mem_of_getElem? hx)
      have g8r := kp8 _ _ (s7 _ _ g6r) nrd
      have g8w := kp8 _ _ (s7 _ _ g6w) nwd
      have kp08 := (kp6.trans (Kp.of s7)).trans kp8
      refine ⟨wd, tL ws, (spot : Int), tV x, rfl, rfl, g8w, lt_line (by omega), by omega, by omega, ?_⟩
      rw [Int.toNat_natCast]
      have gw9 : (upd H8 wd (.lst ((tL ws).take spot ++ [tV x] ++ (tL ws).drop spot))) wd = some (.lst (tL (ws.take spot ++ [x] ++ ws.drop spot))) := by rw [upd_same, tL_ins]
      have gr9 : (upd H8 wd (.lst ((tL ws).take spot ++ [tV x] ++ (tL ws).drop spot))) rw_ = some (.lst (tL ls)) := by rw [upd_ne nrw]; exact g8r
      have we := wt_ins ws spot x
      have hx5 := hx2.1
      have fr9 : LinOk 1000 (ws.take spot ++ [x] ++ ws.drop spot) := LinOk.ins (fun w hw => ⟨by have := w2 w hw; omega, wfr w hw⟩) (by omega) hx2.2
      have jg : (upd H8 wd (.lst ((tL ws).take spot ++ [tV x] ++ (tL ws).drop spot))) wd = some (.lst ((ws.take spot ++ [x] ++ ws.drop spot).map S |>.map V.str)) := by rw [← tL_strs]; exact gw9
      have jl := wt_join (show wt (ws.take spot ++ [x] ++ ws.drop spot) ≤ 290 by omega)
      refine ⟨⟨_, rfl⟩, _, rfl, S [32], wd, (ws.take spot ++ [x] ++ ws.drop spot).map S, rfl, rfl, .inl (SqL.of jg), Nat.le_trans (join_cost _) (lt_lineT (by omega)), ?_⟩
      rw [join_S]
      refine ⟨_, rfl, _, rfl, rw_, tL ls, (at_ : Int), at_, rfl, rfl, gr9, ixN_lt (by omega), ?_⟩
      exact ⟨ls.set at_ (TL.joinL [32] (ws.take spot ++ [x] ++ ws.drop spot)), rfl, by rw [upd_same]; exact congrArg (fun z => some (HO.lst z)) (tL_set _ _ _), RowOk.of (lokm.set (by omega) (free_join fun w hw => (fr9 w hw).2)) (by rw [List.length_set]; omega), (D8.put nwd nwc).put nrd nrc, (kp08.new wdH).new hrw⟩
    refine ⟨_, rfl, rfl, _, rfl, ite2 (fun _ => ?_) (fun _ => ?_)⟩
    · refine ⟨_, rfl, _, rfl, rw_, tL ls, (at_ : Int), tV l, rfl, rfl, SqL.of g6r, atI_nat (tL_get gl), _, rfl, by show 6 ≤ sizeLine; decide, fun pl hpl => ?_⟩
      obtain ⟨H7, e7, s7, g7⟩ := al (o := .lst (tL [[32], [32, 116, 105, 109, 101, 115, 32, 49], [32, 116, 105, 109, 101, 115, 32, 50], [32, 116, 105, 109, 101, 115, 32, 48], [10], [32, 48]])) hpl
      have e7' : upd H6 pl (.lst [V.str (Str.ofString " "), V.str (Str.ofString " times 1"), V.str (Str.ofString " times 2"), V.str (Str.ofString " times 0"), V.str (Str.ofString "\n"), V.str (Str.ofString " 0")]) = H7 := e7
      rw [e7']
      obtain ⟨npd, npc⟩ := D6.ne hpl
      refine ⟨d, c, pl, _, rfl, D6.keep s7, g7, npd, npc, by decide, by decide, fun i v H8 hv D8 kp8 => ?_⟩
      obtain ⟨x, hx, rfl⟩ := map_get hv
      have hx2 : x.length ≤ 8 ∧ x.count 10 ≤ 1 := (show ∀ x ∈ [[32], [32, 116, 105, 109, 101, 115, 32, 49], [32, 116, 105, 109, 101, 115, 32, 50], [32, 116, 105, 109, 101, 115, 32, 48], [10], [32, 48]], x.length ≤ 8 ∧ x.count 10 ≤ 1 by decide) x (List.mem_of_getElem? hx)
      have g8r := kp8 _ _ (s7 _ _ g6r) nrd
      have kp08 := (kp6.trans (Kp.of s7)).trans kp8
      have hx5 := hx2.1
      refine ⟨S l, S x, rfl, rfl, by rw [S_len, S_len]; exact lt_lineT (by omega), ?_⟩
      rw [S_cat]
      refine ⟨_, rfl, _, rfl, rw_, tL ls, (at_ : Int), at_, rfl, rfl, g8r, ixN_lt (by omega), ?_⟩
      exact ⟨ls.set at_ (l ++ x), rfl, by rw [upd_same]; exact congrArg (fun z => some (HO.lst z)) (tL_set _ _ _), RowOk.set lokm (by omega) (by rw [List.length_append]; omega) (by rw [List.count_append, List.count_eq_zero_of_not_mem lk2]; omega), D8.put nrd nrc, kp08.new hrw⟩
    refine ⟨_, rfl, rfl, _, rfl, ite2 (fun _ => ?_) (fun _ => ?_)⟩
    · have jg : H6 rw_ = some (.lst ((ls.map S).map V.str)) := by rw [← tL_strs]; exact g6r
      obtain ⟨z1, z2⟩ := join10_ok (RowOk.of lokm (by omega))
      refine ⟨⟨_, rfl⟩, _, rfl, S [10], rw_, ls.map S, rfl, rfl, .inl (SqL.of jg), Nat.le_trans (join_cost _) (lt_lineT (by omega)), ?_⟩
      rw [join_S]
      exact k _ H6 z1 z2 D6 kp6
    · exact ⟨ls, rfl, g6r, RowOk.of lokm (by omega), D6, kp6⟩
end
end L2.KK
namespace L2.KK
open PySem PySem.Spec PyProof.Rows C8 SX MT
theorem sc_law : FnScope ["script", "d", "tables", "k", "many", "lines", "text", "line", "lot", "room"] ["script"] (defScope s_law) := ⟨rfl, rfl, rfl, by decide +kernel, rfl, by decide +kernel, by decide +kernel⟩
theorem lines16 {t : Tx} (h : t.count 10 ≤ 16) : ∀ ls, linesR t = .ok ls → ls.length ≤ 16 := fun ls e => by
  have a := linesR_ok e
  have b := nl_count ls
  rw [← a] at b
  omega
theorem due_empty : dueR false [] = .error 1 := by rfl
theorem due_long {b : Bool} {t : Tx} (h : 100000 < t.length) : dueR b t = .error 0 := due_line (by unfold linesR; rw [if_pos h])
theorem text_ok {ls : List Tx} (h : LinOk 200 ls) (l : ls.length ≤ 12) : ((ls.map nl).flatten).length ≤ 3000 ∧ ((ls.map nl).flatten).count 10 ≤ 12 := by
  have a := flat_nl_len (fun x hx => (h x hx).1) l
  have b := nl_count ls
  rw [flat_free fun x hx => (h x hx).2] at b
  exact ⟨by omega, by omega⟩
section
variable {P : Program} {w : World} {K : PySem.W.Frag} {mg : Str → Option Value} {base : Heap}
theorem LTR.kpd2 {H H' : Hp} {d c : Addr} {y : V} {t : Tb} (h : LTR K H y t) (D : Dr H d c) (e : Kp d H H') : LTR K H' y t := h.imm (Kp.imm e D)
/-- the pair ("bad", n) is not unequal to itself -/
theorem ned_bad {H : Hp} {a b : Addr} {n : Nat} {Q : VK} (ha : H a = some (.tup [badV, nV n])) (hb : H b = some (.tup [badV, nV n])) (q : Q (.bl false) H) : rNeD K (.ref a) (.ref b) H Q :=
  ned_pln (.tup (.inl (.inl ha)) (.cons (.str _) (.cons (.int _) .nil))) (.tup (.inl (.inl hb)) (.cons (.str _) (.cons (.int _) .nil))) (pair_pln (by decide +kernel) rfl) (pair_pln (by decide +kernel) rfl) (pair_depth (by show (0 : Nat) ≤ 1; decide)) (pair_depth (by show (0 : Nat) ≤ 1; decide)) fun k hk => by
    rw [hk.mpr rfl]
    exact q
def spLaw (K : PySem.W.Frag) : Sp := fun vs H Q _ => ∃ (a : Addr) (ns : List Int), vs = [.ref a] ∧ SqL K H a (ns.map V.int) ∧ ns.length ≤ 63 ∧ ∀ H', Q (.bl true) H'
theorem ok_law {f : Addr} {fd : FuncData} (F : FnP K "law" "law" s_law f fd) (Z : Ev K mg) (T : Bl mg) (c_law_begin : Cal P w K mg base 1 "_law_begin" (spBegin K) []) (c_law_draw : Cal P w K mg base 1 "_law_draw" spDraw []) (c_law_loose : Cal P w K mg base 5 "_law_loose" (spLoose K) []) (c_law_uses : Cal P w K mg base 2 "_law_uses" (spUses K) [])
    (c_law_lines : Cal P w K mg base 1 "_law_lines" (spLL K) []) (c_law_right : Cal P w K mg base 10 "_law_right" (spLRt K) []) (c_law_changed : Cal P w K mg base 3 "_law_changed" (spCh K) []) (c_law_told : Cal P w K mg base 9 "_law_told" (spLTd K Z.Table Z.Lot Z.Puzzle) []) :
    FnOk P w K mg base CX0 11 f fd ["script"] (spLaw K) := by
  refine okOf F sc_law (fun vs H Q E h => ?_) (fun f cdv A outer s H vs Q E hr h => ?_)
  · obtain ⟨a, ns, rfl, _⟩ := h
    rfl
  · obtain ⟨a, ns, rfl, hS, hl, k⟩ := h
    have nd := sc_law.nd
    have hu := hr.units
    refine ⟨_, (pss_cons (ps_set (i := 1) nd rfl (by first | exact Or.inl rfl | exact Or.inr rfl) (pe_c c_law_begin hr (by decide) (by rfl) (pa_cons (pv 0) pa_nil)))
      (pss_cons (ps_setLc (i := 2) (own := [("k", 3)]) (g := gName 3) (tt := tYes) rfl nd rfl rfl (sw_true rfl rfl rfl (by decide +kernel)) (pi_range1 (by rfl) T.b_range (pa_cons (pe_op op_addNN pe_int (pe_c c_law_draw hr (by decide) (by rfl) (pa_cons (pv 1) (pa_cons pe_int pa_nil)))) pa_nil)) (blkOk_by (N := ["script", "d", "tables", "k", "many", "lines", "text", "line", "lot", "room"]) (sc := defScope s_law) (own := [("k", 3)]) (by decide +kernel)) (fun _ _ _ _ _ => (pg_name (i := 3) nd rfl (by first | exact Or.inl rfl | exact Or.inr rfl))) (fun _ _ _ _ _ => pts_nil) (fun _ _ _ _ _ => (pe_c c_law_loose hr (by decide) (by rfl) (pa_cons (pv 1) (pa_cons (pe_op op_addNN pe_int (pe_c c_law_draw hr (by decide) (by rfl) (pa_cons (pv 1) (pa_cons pe_int pa_nil)))) (pa_cons (pe_c c_law_draw hr (by decide) (by rfl) (pa_cons (pv 1) (pa_cons pe_int pa_nil))) pa_nil))))))
      (pss_cons (ps_set (i := 4) nd rfl (by first | exact Or.inl rfl | exact Or.inr rfl) (pe_op op_addNN pe_int (pe_c c_law_draw hr (by decide) (by rfl) (pa_cons (pv 1) (pa_cons pe_int pa_nil)))))
      (pss_cons (ps_set (i := 5) nd rfl (by first | exact Or.inl rfl | exact Or.inr rfl) (pe_c c_law_lines hr (by decide) (by rfl) (pa_cons (pv 2) (pa_cons (pv 4) (pa_cons (pe_c c_law_uses hr (by decide) (by rfl) (pa_cons (pv 1) (pa_cons (pv 2) (pa_cons (pv 4) (pa_cons (pe_c c_law_draw hr (by decide) (by rfl) (pa_cons (pv 1) (pa_cons pe_int pa_nil))) pa_nil))))) pa_nil)))))
      (pss_cons (ps_set (i := 6) nd rfl (by first | exact Or.inl rfl | exact Or.inr rfl) (pe_join pe_str (pe_lc (own := [("line", 7)]) (g := gName 7) (tt := tYes) rfl nd (piList K (pv 5)) (blkOk_by (N := ["script", "d", "tables", "k", "many", "lines", "text", "line", "lot", "room"]) (sc := defScope s_law) (own := [("line", 7)]) (by decide +kernel)) (fun _ _ _ _ _ => (pg_name (i := 7) nd rfl (by first | exact Or.inl rfl | exact Or.inr rfl))) (fun _ _ _ _ _ => pts_nil) (fun _ _ _ _ _ => (pe_op op_add_str (pv 7) pe_str)))))
      (pss_cons (ps_set (i := 8) nd rfl (by first | exact Or.inl rfl | exact Or.inr rfl) (pe_join pe_str (pe_lc (own := [("line", 7)]) (g := gName 7) (tt := tYes) rfl nd (piList K (pe_slice (slL K) (pv 5) po_none (po_some (pe_callB (crLen K) (by rfl) T.b_len (by decide +kernel) (pa_cons (pv 2) pa_nil))))) (blkOk_by (N := ["script", "d", "tables", "k", "many", "lines", "text", "line", "lot", "room"]) (sc := defScope s_law) (own := [("line", 7)]) (by decide +kernel)) (fun _ _ _ _ _ => (pg_name (i := 7) nd rfl (by first | exact Or.inl rfl | exact Or.inr rfl))) (fun _ _ _ _ _ => pts_nil) (fun _ _ _ _ _ => (pe_op op_add_str (pv 7) pe_str)))))
      (pss_cons (ps_if (PW.pt (pw_or (pt_not (pt_val (pe_c c_law_right hr (by decide) (by rfl) (pa_cons (pv 6) (pa_cons pe_bl pa_nil))))) (pw_or1 (pt_not (pt_val (pe_c c_law_right hr (by decide) (by rfl) (pa_cons (pv 8) (pa_cons pe_bl pa_nil))))))))
        (pss_one (ps_ret pe_bl))
        pss_nil)
      (pss_cons (ps_for PassesOwn.never rfl (pi_range1 (by rfl) T.b_range (pa_cons pe_int pa_nil)) (pg_name (i := 3) nd rfl (by first | exact Or.inl rfl | exact Or.inr rfl))
        (pss_one (ps_if (pt_not (pt_val (pe_c c_law_right hr (by decide) (by rfl) (pa_cons (pe_c c_law_changed hr (by decide) (by rfl) (pa_cons (pv 1) (pa_cons (pv 5) pa_nil))) (pa_cons pe_bl pa_nil)))))
          (pss_one (ps_ret pe_bl))
          pss_nil)))
      (pss_cons (ps_if (PW.pt (pw_or (pt_not (pt_val (pe_c c_law_right hr (by decide) (by rfl) (pa_cons (pe_c c_law_changed hr (by decide) (by rfl) (pa_cons (pv 1) (pa_cons (pe_slice (slL K) (pv 5) po_none (po_some (pe_callB (crLen K) (by rfl) T.b_len (by decide +kernel) (pa_cons (pv 2) pa_nil)))) pa_nil))) (pa_cons pe_bl pa_nil))))) (pw_or1 (pt_not (pt_val (pe_c c_law_right hr (by decide) (by rfl) (pa_cons (pv 6) (pa_cons pe_bl pa_nil))))))))
        (pss_one (ps_ret pe_bl))
        pss_nil)
      (pss_cons (ps_if (PW.pt (pw_or (pt_cmpR (neD K hu) (pe_c c_law_told hr (by decide) (by rfl) (pa_cons pe_non (pa_cons (pe_cmpR op_eq (pe_c c_law_draw hr (by decide) (by rfl) (pa_cons (pv 1) (pa_cons pe_int pa_nil))) pe_int (nomark _)) pa_nil))) (pe_tup (pa_cons pe_str (pa_cons pe_int pa_nil))) (nomark _)) (pw_or1 (pt_cmpR (neD K hu) (pe_c c_law_told hr (by decide) (by rfl) (pa_cons pe_str (pa_cons pe_bl pa_nil))) (pe_tup (pa_cons pe_str (pa_cons pe_int pa_nil))) (nomark _)))))
        (pss_one (ps_ret pe_bl))
        pss_nil)
      (pss_cons (ps_set (i := 9) nd rfl (by first | exact Or.inl rfl | exact Or.inr rfl) (pe_op op_subNN pe_int (pe_callB call_len_str (by rfl) T.b_len (by decide +kernel) (pa_cons (pv 6) pa_nil))))
      (pss_one (ps_ret (pe_and (pe_c c_law_right hr (by decide) (by rfl) (pa_cons (pe_op op_add_str (pe_op op_add_str (pe_op op_add_str (pv 6) pe_str) (pe_op op_mulS pe_str (pe_op op_subNN (pv 9) pe_int))) pe_str) (pa_cons pe_bl pa_nil))) (pe_one (pe_cmpR (eqD K hu) (pe_c c_law_told hr (by decide) (by rfl) (pa_cons (pe_op op_add_str (pv 6) (pe_op op_mulS pe_str (pe_op op_addNN (pv 9) pe_int))) (pa_cons pe_bl pa_nil))) (pe_tup (pa_cons pe_str (pa_cons pe_int pa_nil))) (nomark _))))))))))))))))), ?_⟩
    refine ⟨_, rfl, a, ns, rfl, hS, hl, fun d c H1 sm1 hd0 hc0 D1 => ?_⟩
    -- tables
    refine ⟨_, rfl, d, c, 3, rfl, D1, by decide, by decide, fun n1 H2 hn1 D2 kp2 => ⟨1, n1, rfl, rfl, _, rfl, by omega, by omega, ?_⟩⟩
    rw [Int.toNat_natCast]
    intro tl htl
    obtain ⟨tld, tlc⟩ := D2.ne htl
    refine lc_range (lo := 0) (n := 1 + n1) (fun j H3 => ∃ (ys : List V) (tbs : List Tb), H3 tl = some (.lst ys) ∧ Paired (LTR K H3) ys tbs ∧ tbs.length = j ∧ (∀ t ∈ tbs, TbOk t) ∧ Dr H3 d c) ⟨[], [], upd_same, .nil, rfl, fun t h => (nomatch h), D2.put tld tlc⟩ ?_ ?_
    · rintro j H3 hj ⟨ys, tbs, e3, p3, l3, ok3, D3⟩
      refine ⟨rfl, ?_⟩
      refine ⟨_, rfl, _, rfl, d, c, 3, rfl, D3, by decide, by decide, fun na H4 ha D4 kp4 => ⟨1, na, rfl, rfl, _, rfl, d, c, 6, rfl, D4, by decide, by decide, fun nb H5 hb D5 kp5 => ⟨d, c, 1 + na, nb, rfl, D5, by omega, by omega, fun p q ps H6 okt hp0 hp hq D6 kp6 => ?_⟩⟩⟩
      have kp36 := (kp4.trans kp5).trans kp6
      have e6 := kp36 _ _ e3 tld
      have yl := (paired_at p3).1
      have im : Imm H6 (upd H6 tl (.lst (ys ++ [.ref p]))) := imm_upd e6 trivial
      refine ⟨ys, e6, Nat.lt_of_le_of_lt (show ys.length ≤ 40 by omega) (by decide), ys ++ [.ref p], tbs ++ [(1 + na, ps)], upd_same, paired_snoc (Paired.mapP p3 fun _ _ h => (h.kpd2 D3 kp36).imm im) (LTR.imm ⟨p, q, rfl, .inl (.inl hp), .inl (.inl hq)⟩ im), by rw [List.length_append, l3]; rfl, fun t ht => ?_, D6.put tld tlc⟩
      rcases List.mem_append.mp ht with z | z
      · exact ok3 t z
      · rw [List.mem_singleton.mp z]
        exact okt
    rintro H3 ⟨ys, tbs, e3, p3, l3, okT, D3⟩
    obtain ⟨yl, ya⟩ := paired_at p3
    have hT3 : LTs K H3 tl tbs := ⟨ys, e3, p3⟩
    refine ⟨_, rfl, d, c, 5, rfl, D3, by decide, by decide, fun n4 H4 hn4 D4 kp4 => ⟨1, n4, rfl, rfl, ?_⟩⟩
    have hT4 := hT3.kpd tld D3 kp4
    refine ⟨_, rfl, _, rfl, _, rfl, _, rfl, _, rfl, _, rfl, d, c, 6, rfl, D4, by decide, by decide, fun cnt H5 hcnt D5 kp5 => ?_⟩
    have hT5 := hT4.kpd tld D4 kp5
    refine ⟨d, c, tl, 1 + n4, cnt, tbs, rfl, D5, tld, hT5, by omega, by omega, okT, by omega, by omega, by omega, fun pu us0 us H6 ul okU hpu0 hpu pU D6 kp6 => ?_⟩
    have hT6 := hT5.kpd tld D5 kp6
    have usS : ∀ u ∈ us, UsS u := fun u hu => by
      obtain ⟨t, ht, t1, t2, nl, nm⟩ := okU u hu
      have o4 := (okT t (List.mem_of_getElem? ht)).2.1
      have a1 := (List.getElem?_eq_some_iff.mp ht).1
      exact ⟨Nat.lt_of_le_of_lt (show u.at_ ≤ 3 by omega) (by decide), Nat.lt_of_le_of_lt t2 (by decide), by omega, fun n hn => Nat.lt_of_lt_of_le (nm n hn) (show 1 + n4 ≤ 10 ^ 4 from Nat.le_trans (show 1 + n4 ≤ 5 by omega) (by decide))⟩
    refine ⟨tl, pu, us0, us, tbs, 1 + n4, rfl, hT6, .inl (.inl hpu), pU, okT, usS, by omega, by omega, by omega, fun lp ls H7 s7 hlp0 hlp llen lok => ?_⟩
    have D7 := D6.keep s7
    obtain ⟨nld, nlc⟩ := D6.ne hlp0
    have hT7 := hT6.grow s7
    obtain ⟨ts7, et7, pt7⟩ := hT7
    have tsl := (paired_at pt7).1
    have l12 : ls.length ≤ 12 := by omega
    have lsl : (tL ls).length = ls.length := List.length_map ..
    clear hT3 hT4 hT5 hT6 p3 e3 pU hpu
    obtain ⟨x1, x2⟩ := text_ok lok l12
    have lokT : LinOk 200 (ls.take tbs.length) := lok.sub fun x hx => List.mem_of_mem_take hx
    have ltl : (ls.take tbs.length).length = tbs.length := by rw [List.length_take]; omega
    obtain ⟨y1, y2⟩ := text_ok lokT (by omega)
    refine ⟨⟨_, rfl⟩, _, rfl, lp, rfl, ⟨_, SqL.of hlp⟩, fun W hW => lc_listT (SqL.of hlp) (sel := fun _ => true) (P := fun i y _ => y = tV (nl ((ls).getD i []))) ⟨fun _ _ _ _ _ h => h, fun i H2 _ _ R r => r H2 (Same.refl H2), fun i HX hi _ smX R r => ?_⟩ hW (lt_lineT (by rw [List.length_map]; omega)) (fun H8 bs sm8 hb _ pb => ?_)⟩
    · rw [List.length_map] at hi
      have e : (tL (ls)).getD i .non = tV ((ls).getD i []) := map_getD [] hi
      have hlen := (lok _ (List.mem_of_getElem? (getD_some hi))).1
      refine ⟨_, rfl, ?_⟩
      rw [e]
      refine ⟨S ((ls).getD i []), S [10], rfl, rfl, by rw [S_len, S_len]; exact lt_lineT (by show _ + 1 ≤ _; omega), ?_⟩
      rw [S_cat]
      exact r _ HX (Same.refl HX) rfl
    rw [filter_yes, List.length_map] at pb
    rw [paired_tx [] pb, tL_strs] at hb
    refine ⟨S [], W, (ls.map nl).map S, rfl, rfl, .inl (SqL.of hb), by rw [join_cost0]; exact lt_lineT (by omega), ?_⟩
    rw [join_S, joinL_nil]
    have D8 := D7.keep sm8
    have hlp8 := sm8 _ _ hlp
    have et8 := sm8 _ _ et7
    clear hb pb
    obtain ⟨tx, etx⟩ : ∃ tx, (ls.map nl).flatten = tx := ⟨_, rfl⟩
    rw [etx] at x1 x2
    rw [etx]
    refine ⟨⟨_, rfl⟩, _, rfl, _, rfl, tl, ts7, rfl, .inl (SqL.of et8), ((ts7.length : Nat) : Int), rfl, lp, tL ls, rfl, SqL.of hlp8, fun q9 hq9 => ?_⟩
    rw [cutV_to, tL_take, tsl]
    obtain ⟨H9, e9, s9, g9⟩ := al (o := .lst (tL (ls.take tbs.length))) hq9
    rw [e9]
    clear e9
    refine ⟨q9, rfl, ⟨_, SqL.of g9⟩, fun W hW => lc_listT (SqL.of g9) (sel := fun _ => true) (P := fun i y _ => y = tV (nl ((ls.take tbs.length).getD i []))) ⟨fun _ _ _ _ _ h => h, fun i H2 _ _ R r => r H2 (Same.refl H2), fun i HX hi _ smX R r => ?_⟩ hW (lt_lineT (by rw [List.length_map]; omega)) (fun HA bs smA hb _ pb => ?_)⟩
    · rw [List.length_map] at hi
      have e : (tL (ls.take tbs.length)).getD i .non = tV ((ls.take tbs.length).getD i []) := map_getD [] hi
      have hlen := (lokT _ (List.mem_of_getElem? (getD_some hi))).1
      refine ⟨_, rfl, ?_⟩
      rw [e]
      refine ⟨S ((ls.take tbs.length).getD i []), S [10], rfl, rfl, by rw [S_len, S_len]; exact lt_lineT (by show _ + 1 ≤ _; omega), ?_⟩
      rw [S_cat]
      exact r _ HX (Same.refl HX) rfl
    rw [filter_yes, List.length_map] at pb
    rw [paired_tx [] pb, tL_strs] at hb
    refine ⟨S [], W, ((ls.take tbs.length).map nl).map S, rfl, rfl, .inl (SqL.of hb), by rw [join_cost0]; exact lt_lineT (by omega), ?_⟩
    rw [join_S, joinL_nil]
    have s8A := s9.trans smA
    have DA := D8.keep s8A
    have hlpA := s8A _ _ hlp8
    have etA := s8A _ _ et8
    clear hb pb
    obtain ⟨lx, elx⟩ : ∃ lx, ((ls.take tbs.length).map nl).flatten = lx := ⟨_, rfl⟩
    rw [elx] at y1 y2
    rw [elx]
    refine ⟨_, rfl, tx, false, rfl, by omega, lines16 (by omega), fun HB sB => ⟨true, rfl, iteF ?_⟩⟩
    refine ⟨_, rfl, lx, true, rfl, by omega, lines16 (by omega), fun HC sC => ⟨true, rfl, iteF ?_⟩⟩
    have sAC := sB.trans sC
    refine ⟨3, rfl, by decide, by decide, ?_⟩
    refine for_range (lo := 0) (n := 3) (fun i σ' H' => ∃ c3 : Option V, σ' = [some (.ref a), some (.ref d), some (.ref tl), c3, some (nV (1 + n4)), some (.ref lp), some (tV tx), none, some (tV lx), none] ∧ Dr H' d c ∧ H' lp = some (.lst (tL ls)) ∧ H' tl = some (.lst ts7)) ⟨none, rfl, DA.keep sAC, sAC _ _ hlpA, sAC _ _ etA⟩ ?_ ?_
    · rintro i σ' HD hi ⟨c3, rfl, DD, gD, tD⟩
      refine ⟨_, rfl, _, rfl, d, c, lp, ls, rfl, DD, gD, nld, by omega, by omega, lok, fun t HE ht1 ht2 DE kpE => ?_⟩
      refine ⟨t, false, rfl, by omega, lines16 (by omega), fun HF sF => ⟨true, rfl, iteF ?_⟩⟩
      exact ⟨_, rfl, DE.keep sF, sF _ _ (kpE _ _ gD nld), sF _ _ (kpE _ _ tD tld)⟩
    rintro σ' HD ⟨c3, rfl, DD, gD, tD⟩
    refine ⟨_, rfl, _, rfl, _, rfl, tl, ts7, rfl, .inl (SqL.of tD), ((ts7.length : Nat) : Int), rfl, lp, tL ls, rfl, SqL.of gD, fun q9 hq9 => ?_⟩
    rw [cutV_to, tL_take, tsl]
    obtain ⟨HE, eE, sE, gE⟩ := al (o := .lst (tL (ls.take tbs.length))) hq9
    rw [eE]
    clear eE
    obtain ⟨nqd, _⟩ := DD.ne hq9
    refine ⟨d, c, q9, ls.take tbs.length, rfl, DD.keep sE, gE, nqd, by omega, by omega, lokT, fun t HF ht1 ht2 DF kpF => ?_⟩
    refine ⟨t, true, rfl, by omega, lines16 (by omega), fun HG sG => ⟨true, rfl, iteF ?_⟩⟩
    refine ⟨_, rfl, tx, true, rfl, by omega, lines16 (by omega), fun HH sH => ⟨true, rfl, iteF ?_⟩⟩
    have DH := (DF.keep sG).keep sH
    refine ⟨_, rfl, d, c, 2, rfl, DH, by decide, by decide, fun nb HI hnb DI kpI => ⟨rfl, ?_⟩⟩
    refine ⟨.non, decide (nV nb = V.int 1), rfl, .inr ⟨rfl, fun p5 HJ sJ hpJ gJ => ?_⟩⟩
    refine ⟨by show 2 ≤ sizeLine; decide, fun q6 hq6 => ?_⟩
    have sK := same_new (o := .tup [badV, nV 0]) hq6
    refine ned_bad (sK _ _ gJ) upd_same ⟨false, rfl, iteF ?_⟩
    refine ⟨V.str (Str.ofString ""), false, rfl, .inl ⟨[], rfl, by decide, lines16 (by decide), fun tbs2 m2 us2 e2 => (by rw [due_empty] at e2; cases e2), fun n e2 p7 HL sL hpL gL => ?_⟩⟩
    rw [due_empty] at e2
    cases e2
    refine ⟨by show 2 ≤ sizeLine; decide, fun q8 hq8 => ?_⟩
    have sM := same_new (o := .tup [badV, nV 1]) hq8
    refine ned_bad (sM _ _ gL) upd_same ⟨false, rfl, iteF ?_⟩
    have txz : (S tx).length ≤ sizeLine := by rw [S_len]; exact lt_lineT (by omega)
    refine ⟨_, rfl, S tx, rfl, txz, 100000, tx.length, rfl, by rw [S_len], by omega, ?_⟩
    obtain ⟨room, er⟩ : ∃ room, 100000 - tx.length = room := ⟨_, rfl⟩
    show gName 9 (nV (100000 - tx.length)) _ _ _
    rw [er]
    refine ⟨_, rfl, S tx, S [117, 115, 101, 32], rfl, rfl, by rw [S_len, S_len]; exact lt_lineT (by show _ + 4 ≤ _; omega), ?_⟩
    rw [S_cat]
    refine ⟨_, rfl, room, 5, rfl, rfl, by omega, ?_⟩
    refine ⟨49, room - 5, rfl, rfl, by omega, by omega, ?_⟩
    have rl : (List.replicate (room - 5) 49).length = room - 5 := List.length_replicate
    have ul : (tx ++ [117, 115, 101, 32]).length = tx.length + 4 := List.length_append
    refine ⟨S (tx ++ [117, 115, 101, 32]), S (List.replicate (room - 5) 49), rfl, rfl, by rw [S_len, S_len, ul, rl]; exact lt_lineT (by omega), ?_⟩
    rw [S_cat]
    have vl : (tx ++ [117, 115, 101, 32] ++ List.replicate (room - 5) 49).length = 99999 := by
      rw [List.length_append, ul, rl]
      omega
    refine ⟨S (tx ++ [117, 115, 101, 32] ++ List.replicate (room - 5) 49), S [10], rfl, rfl, by rw [S_len, S_len, vl]; exact lt_lineT (by show 99999 + 1 ≤ _; omega), ?_⟩
    rw [S_cat]
    have wl : (tx ++ [117, 115, 101, 32] ++ List.replicate (room - 5) 49 ++ [10]).length = 100000 := by
      rw [List.length_append, vl]
      rfl
    have wc : (tx ++ [117, 115, 101, 32] ++ List.replicate (room - 5) 49 ++ [10]).count 10 ≤ 16 := by
      rw [List.count_append, List.count_append, List.count_append, List.count_replicate]
      have c1 : ([117, 115, 101, 32] : Tx).count 10 = 0 := rfl
      have c2 : ([10] : Tx).count 10 = 1 := rfl
      have c3 : ((49 : Nat) == 10) = false := rfl
      rw [c1, c2, c3, if_neg Bool.false_ne_true]
      omega
    refine ⟨_, false, rfl, by rw [wl]; decide, lines16 wc, fun HN sN => ⟨true, rfl, ?_⟩⟩
    refine iteT (B := True) ?_
    refine ⟨_, rfl, _, rfl, room, 1, rfl, rfl, ?_⟩
    refine ⟨120, room + 1, rfl, rfl, by omega, by omega, ?_⟩
    have rl2 : (List.replicate (room + 1) 120).length = room + 1 := List.length_replicate
    refine ⟨S tx, S (List.replicate (room + 1) 120), rfl, rfl, by rw [S_len, S_len, rl2]; exact lt_lineT (by omega), ?_⟩
    rw [S_cat]
    have tl2 : (tx ++ List.replicate (room + 1) 120).length = 100001 := by
      rw [List.length_append, rl2]
      omega
    have long : dueR false (tx ++ List.replicate (room + 1) 120) = .error 0 := due_long (by rw [tl2]; decide)
    have noL : ∀ ls, linesR (tx ++ List.replicate (room + 1) 120) = .ok ls → ls.length ≤ 16 := fun ls e => by
      unfold linesR at e
      rw [if_pos (by rw [tl2]; decide)] at e
      cases e
    refine ⟨tV (tx ++ List.replicate (room + 1) 120), false, rfl, .inl ⟨_, rfl, by rw [tl2]; decide, noL, fun tbs2 m2 us2 e2 => (by rw [long] at e2; cases e2), fun n e2 p9 HR sR hpR gR => ?_⟩⟩
    rw [long] at e2
    cases e2
    refine ⟨by show 2 ≤ sizeLine; decide, fun q10 hq10 => ?_⟩
    have sS := same_new (o := .tup [badV, nV 0]) hq10
    exact eqd_pair (w := Str.ofString "bad") (x := nV 0) (.inl (.inl (sS _ _ gR))) (.inl (.inl upd_same)) (by decide +kernel) (.int _) rfl (by show (0 : Nat) ≤ 1; decide) (k _)
end
end L2.KK
namespace L2.KK
open PySem PySem.Spec PyProof.Rows C8
def evOf {K : PySem.W.Frag} {h : Heap} {mg : Str → Option Value} (X : K.In h) (G : h.Ns mainGlobals mg) (c : SaysK faL fnL myL K) : Ev K mg where
  Table := He.ga K "Table"
  k_Table := He.glo_ok X G (c.1.fact 67 (f := .glo "Table") rfl)
  c_Table := insB_ok (c.own 0 (f := insB "Table") rfl)
  i_Table := by
    obtain ⟨fd, F⟩ := c.1.def_ 7 (d := dd_Table_init) rfl
    exact ⟨_, fd, F, He.mkr_ok (c.1.fact 68 (f := .mkr "Table") rfl)⟩
  m_Table_eq := by
    obtain ⟨fd, F⟩ := c.1.def_ 8 (d := dd_Table_eq) rfl
    exact ⟨_, fd, F, He.meth_ok (c.1.fact 69 (f := .meth "Table" "__eq__") rfl)⟩
  n_Table_places := He.noat_ok (c.1.fact 70 (f := .noat "Table" "places") rfl)
  n_Table_prices := He.noat_ok (c.1.fact 71 (f := .noat "Table" "prices") rfl)
  n_Table_least := He.noat_ok (c.1.fact 72 (f := .noat "Table" "least") rfl)
  n_Table_most := He.noat_ok (c.1.fact 73 (f := .noat "Table" "most") rfl)
  Lot := He.ga K "Lot"
  k_Lot := He.glo_ok X G (c.1.fact 74 (f := .glo "Lot") rfl)
  c_Lot := insB_ok (c.own 1 (f := insB "Lot") rfl)
  i_Lot := by
    obtain ⟨fd, F⟩ := c.1.def_ 11 (d := dd_Lot_init) rfl
    exact ⟨_, fd, F, He.mkr_ok (c.1.fact 75 (f := .mkr "Lot") rfl)⟩
  m_Lot_eq := by
    obtain ⟨fd, F⟩ := c.1.def_ 12 (d := dd_Lot_eq) rfl
    exact ⟨_, fd, F, He.meth_ok (c.1.fact 76 (f := .meth "Lot" "__eq__") rfl)⟩
  n_Lot_tables := He.noat_ok (c.1.fact 77 (f := .noat "Lot" "tables") rfl)
  n_Lot_swaps := He.noat_ok (c.1.fact 78 (f := .noat "Lot" "swaps") rfl)
  Puzzle := He.ga K "Puzzle"
  k_Puzzle := He.glo_ok X G (c.1.fact 79 (f := .glo "Puzzle") rfl)
  c_Puzzle := insB_ok (c.own 2 (f := insB "Puzzle") rfl)
  i_Puzzle := by
    obtain ⟨fd, F⟩ := c.1.def_ 14 (d := dd_Puzzle_init) rfl
    exact ⟨_, fd, F, He.mkr_ok (c.1.fact 80 (f := .mkr "Puzzle") rfl)⟩
  m_Puzzle_eq := by
    obtain ⟨fd, F⟩ := c.1.def_ 15 (d := dd_Puzzle_eq) rfl
    exact ⟨_, fd, F, He.meth_ok (c.1.fact 81 (f := .meth "Puzzle" "__eq__") rfl)⟩
  n_Puzzle_lot := He.noat_ok (c.1.fact 82 (f := .noat "Puzzle" "lot") rfl)
  n_Puzzle_many := He.noat_ok (c.1.fact 83 (f := .noat "Puzzle" "many") rfl)
  n_Puzzle_uses := He.noat_ok (c.1.fact 84 (f := .noat "Puzzle" "uses") rfl)
  s_Table_Table := of_decide_eq_true (c.own 3 (f := isiB "Table" "Table" true) rfl)
  s_Lot_Lot := of_decide_eq_true (c.own 4 (f := isiB "Lot" "Lot" true) rfl)
  s_Puzzle_Puzzle := of_decide_eq_true (c.own 5 (f := isiB "Puzzle" "Puzzle" true) rfl)
  BadText := He.ga K "BadText"
  f_BadText := He.ma K (He.ga K "BadText") "__init__"
  k_BadText := He.glo_ok X G (c.1.fact 85 (f := .glo "BadText") rfl)
  o_BadText := ownB_ok (c.own 6 (f := ownB "BadText") rfl)
  d_BadText := c.1.def_ 0 (d := dd_BadText_init) rfl
  n_BadText_line := He.noat_ok (c.1.fact 86 (f := .noat "BadText" "line") rfl)
  x_BadText := excB_ok (c.own 7 (f := excB "BadText") rfl)
  PricedError := He.ga K "PricedError"
  k_PricedError := He.glo_ok X G (c.1.fact 87 (f := .glo "PricedError") rfl)
  b_PricedError := basB_ok (c.own 8 (f := basB "PricedError") rfl)
  e_BadText_BadText := He.exm_ok (c.1.fact 88 (f := .exm "BadText" "BadText" true) rfl)
theorem factsD {P : Program} {w : World} {K : PySem.W.Frag} {h : Heap} {mg : Str → Option Value} {f : Addr} (X : K.In h) (G : h.Ns mainGlobals mg) (hfa : mg ("law" : Str) = some (.ref f)) (c : SaysK faL fnL myL K) :
    ∃ fd : FuncData, (∀ (s : Shared) (v : Value), BindsTo s fd ⟨[v], []⟩ [("script", v)]) ∧ ∀ base : Heap, K.In base → base.Ns mainGlobals mg → FnOk P w K mg base CX0 11 f fd ["script"] (spLaw K) := by
  have D_is_whole : FnAt K mg "is_whole" s_is_whole := by
    obtain ⟨fd, F⟩ := c.1.def_ 1 (d := dd_is_whole) rfl
    exact ⟨_, fd, F, He.glo_ok X G (c.1.fact 0 (f := .glo "is_whole") rfl)⟩
  have D_times_price : FnAt K mg "times_price" s_times_price := by
    obtain ⟨fd, F⟩ := c.1.def_ 2 (d := dd_times_price) rfl
    exact ⟨_, fd, F, He.glo_ok X G (c.1.fact 1 (f := .glo "times_price") rfl)⟩
  have D_lower : FnAt K mg "lower" s_lower := by
    obtain ⟨fd, F⟩ := c.1.def_ 3 (d := dd_lower) rfl
    exact ⟨_, fd, F, He.glo_ok X G (c.1.fact 2 (f := .glo "lower") rfl)⟩
  have D_lowest : FnAt K mg "lowest" s_lowest := by
    obtain ⟨fd, F⟩ := c.1.def_ 4 (d := dd_lowest) rfl
    exact ⟨_, fd, F, He.glo_ok X G (c.1.fact 3 (f := .glo "lowest") rfl)⟩
  have D_highest : FnAt K mg "highest" s_highest := by
    obtain ⟨fd, F⟩ := c.1.def_ 5 (d := dd_highest) rfl
    exact ⟨_, fd, F, He.glo_ok X G (c.1.fact 4 (f := .glo "highest") rfl)⟩
  have D_chosen_number : FnAt K mg "chosen_number" s_chosen_number := by
    obtain ⟨fd, F⟩ := c.1.def_ 6 (d := dd_chosen_number) rfl
    exact ⟨_, fd, F, He.glo_ok X G (c.1.fact 5 (f := .glo "chosen_number") rfl)⟩
  have D_swapped : FnAt K mg "swapped" s_swapped := by
    obtain ⟨fd, F⟩ := c.1.def_ 9 (d := dd_swapped) rfl
    exact ⟨_, fd, F, He.glo_ok X G (c.1.fact 6 (f := .glo "swapped") rfl)⟩
  have D_is_told : FnAt K mg "is_told" s_is_told := by
    obtain ⟨fd, F⟩ := c.1.def_ 10 (d := dd_is_told) rfl
    exact ⟨_, fd, F, He.glo_ok X G (c.1.fact 7 (f := .glo "is_told") rfl)⟩
  have D_is_use : FnAt K mg "is_use" s_is_use := by
    obtain ⟨fd, F⟩ := c.1.def_ 13 (d := dd_is_use) rfl
    exact ⟨_, fd, F, He.glo_ok X G (c.1.fact 8 (f := .glo "is_use") rfl)⟩
  have D_is_number : FnAt K mg "is_number" s_is_number := by
    obtain ⟨fd, F⟩ := c.1.def_ 16 (d := dd_is_number) rfl
    exact ⟨_, fd, F, He.glo_ok X G (c.1.fact 9 (f := .glo "is_number") rfl)⟩
  have D_price_text : FnAt K mg "price_text" s_price_text := by
    obtain ⟨fd, F⟩ := c.1.def_ 17 (d := dd_price_text) rfl
    exact ⟨_, fd, F, He.glo_ok X G (c.1.fact 10 (f := .glo "price_text") rfl)⟩
  have D_table_line : FnAt K mg "table_line" s_table_line := by
    obtain ⟨fd, F⟩ := c.1.def_ 18 (d := dd_table_line) rfl
    exact ⟨_, fd, F, He.glo_ok X G (c.1.fact 11 (f := .glo "table_line") rfl)⟩
  have D_use_line : FnAt K mg "use_line" s_use_line := by
    obtain ⟨fd, F⟩ := c.1.def_ 19 (d := dd_use_line) rfl
    exact ⟨_, fd, F, He.glo_ok X G (c.1.fact 12 (f := .glo "use_line") rfl)⟩
  have D_lot_text : FnAt K mg "lot_text" s_lot_text := by
    obtain ⟨fd, F⟩ := c.1.def_ 20 (d := dd_lot_text) rfl
    exact ⟨_, fd, F, He.glo_ok X G (c.1.fact 13 (f := .glo "lot_text") rfl)⟩
  have D_puzzle_text : FnAt K mg "puzzle_text" s_puzzle_text := by
    obtain ⟨fd, F⟩ := c.1.def_ 21 (d := dd_puzzle_text) rfl
    exact ⟨_, fd, F, He.glo_ok X G (c.1.fact 14 (f := .glo "puzzle_text") rfl)⟩
  have D_lines_of : FnAt K mg "lines_of" s_lines_of := by
    obtain ⟨fd, F⟩ := c.1.def_ 22 (d := dd_lines_of) rfl
    exact ⟨_, fd, F, He.glo_ok X G (c.1.fact 15 (f := .glo "lines_of") rfl)⟩
  have D_number_in : FnAt K mg "number_in" s_number_in := by
    obtain ⟨fd, F⟩ := c.1.def_ 23 (d := dd_number_in) rfl
    exact ⟨_, fd, F, He.glo_ok X G (c.1.fact 16 (f := .glo "number_in") rfl)⟩
  have D_read_price : FnAt K mg "read_price" s_read_price := by
    obtain ⟨fd, F⟩ := c.1.def_ 24 (d := dd_read_price) rfl
    exact ⟨_, fd, F, He.glo_ok X G (c.1.fact 17 (f := .glo "read_price") rfl)⟩
  have D_read_table : FnAt K mg "read_table" s_read_table := by
    obtain ⟨fd, F⟩ := c.1.def_ 25 (d := dd_read_table) rfl
    exact ⟨_, fd, F, He.glo_ok X G (c.1.fact 18 (f := .glo "read_table") rfl)⟩
  have D_read_use : FnAt K mg "read_use" s_read_use := by
    obtain ⟨fd, F⟩ := c.1.def_ 26 (d := dd_read_use) rfl
    exact ⟨_, fd, F, He.glo_ok X G (c.1.fact 19 (f := .glo "read_use") rfl)⟩
  have D_read_tables : FnAt K mg "read_tables" s_read_tables := by
    obtain ⟨fd, F⟩ := c.1.def_ 27 (d := dd_read_tables) rfl
    exact ⟨_, fd, F, He.glo_ok X G (c.1.fact 20 (f := .glo "read_tables") rfl)⟩
  have D_read_lot : FnAt K mg "read_lot" s_read_lot := by
    obtain ⟨fd, F⟩ := c.1.def_ 28 (d := dd_read_lot) rfl
    exact ⟨_, fd, F, He.glo_ok X G (c.1.fact 21 (f := .glo "read_lot") rfl)⟩
  have D_read_puzzle : FnAt K mg "read_puzzle" s_read_puzzle := by
    obtain ⟨fd, F⟩ := c.1.def_ 29 (d := dd_read_puzzle) rfl
    exact ⟨_, fd, F, He.glo_ok X G (c.1.fact 22 (f := .glo "read_puzzle") rfl)⟩
  have D_law_begin : FnAt K mg "_law_begin" s_law_begin := by
    obtain ⟨fd, F⟩ := c.1.def_ 30 (d := dd_law_begin) rfl
    exact ⟨_, fd, F, He.glo_ok X G (c.1.fact 23 (f := .glo "_law_begin") rfl)⟩
  have D_law_draw : FnAt K mg "_law_draw" s_law_draw := by
    obtain ⟨fd, F⟩ := c.1.def_ 31 (d := dd_law_draw) rfl
    exact ⟨_, fd, F, He.glo_ok X G (c.1.fact 24 (f := .glo "_law_draw") rfl)⟩
  have D_law_pick : FnAt K mg "_law_pick" s_law_pick := by
    obtain ⟨fd, F⟩ := c.1.def_ 32 (d := dd_law_pick) rfl
    exact ⟨_, fd, F, He.glo_ok X G (c.1.fact 25 (f := .glo "_law_pick") rfl)⟩
  have D_law_rare : FnAt K mg "_law_rare" s_law_rare := by
    obtain ⟨fd, F⟩ := c.1.def_ 33 (d := dd_law_rare) rfl
    exact ⟨_, fd, F, He.glo_ok X G (c.1.fact 26 (f := .glo "_law_rare") rfl)⟩
  have D_law_low : FnAt K mg "_law_low" s_law_low := by
    obtain ⟨fd, F⟩ := c.1.def_ 34 (d := dd_law_low) rfl
    exact ⟨_, fd, F, He.glo_ok X G (c.1.fact 27 (f := .glo "_law_low") rfl)⟩
  have D_law_cost : FnAt K mg "_law_cost" s_law_cost := by
    obtain ⟨fd, F⟩ := c.1.def_ 35 (d := dd_law_cost) rfl
    exact ⟨_, fd, F, He.glo_ok X G (c.1.fact 28 (f := .glo "_law_cost") rfl)⟩
  have D_law_opened : FnAt K mg "_law_opened" s_law_opened := by
    obtain ⟨fd, F⟩ := c.1.def_ 36 (d := dd_law_opened) rfl
    exact ⟨_, fd, F, He.glo_ok X G (c.1.fact 29 (f := .glo "_law_opened") rfl)⟩
  have D_law_loose : FnAt K mg "_law_loose" s_law_loose := by
    obtain ⟨fd, F⟩ := c.1.def_ 37 (d := dd_law_loose) rfl
    exact ⟨_, fd, F, He.glo_ok X G (c.1.fact 30 (f := .glo "_law_loose") rfl)⟩
  have D_law_uses : FnAt K mg "_law_uses" s_law_uses := by
    obtain ⟨fd, F⟩ := c.1.def_ 38 (d := dd_law_uses) rfl
    exact ⟨_, fd, F, He.glo_ok X G (c.1.fact 31 (f := .glo "_law_uses") rfl)⟩
  have D_law_lines : FnAt K mg "_law_lines" s_law_lines := by
    obtain ⟨fd, F⟩ := c.1.def_ 39 (d := dd_law_lines) rfl
    exact ⟨_, fd, F, He.glo_ok X G (c.1.fact 32 (f := .glo "_law_lines") rfl)⟩
  have D_law_number_in : FnAt K mg "_law_number_in" s_law_number_in := by
    obtain ⟨fd, F⟩ := c.1.def_ 40 (d := dd_law_number_in) rfl
    exact ⟨_, fd, F, He.glo_ok X G (c.1.fact 33 (f := .glo "_law_number_in") rfl)⟩
  have D_law_table_of : FnAt K mg "_law_table_of" s_law_table_of := by
    obtain ⟨fd, F⟩ := c.1.def_ 41 (d := dd_law_table_of) rfl
    exact ⟨_, fd, F, He.glo_ok X G (c.1.fact 34 (f := .glo "_law_table_of") rfl)⟩
  have D_law_use_of : FnAt K mg "_law_use_of" s_law_use_of := by
    obtain ⟨fd, F⟩ := c.1.def_ 42 (d := dd_law_use_of) rfl
    exact ⟨_, fd, F, He.glo_ok X G (c.1.fact 35 (f := .glo "_law_use_of") rfl)⟩
  have D_law_tables_of : FnAt K mg "_law_tables_of" s_law_tables_of := by
    obtain ⟨fd, F⟩ := c.1.def_ 43 (d := dd_law_tables_of) rfl
    exact ⟨_, fd, F, He.glo_ok X G (c.1.fact 36 (f := .glo "_law_tables_of") rfl)⟩
  have D_law_reading : FnAt K mg "_law_reading" s_law_reading := by
    obtain ⟨fd, F⟩ := c.1.def_ 44 (d := dd_law_reading) rfl
    exact ⟨_, fd, F, He.glo_ok X G (c.1.fact 37 (f := .glo "_law_reading") rfl)⟩
  have D_law_changed : FnAt K mg "_law_changed" s_law_changed := by
    obtain ⟨fd, F⟩ := c.1.def_ 45 (d := dd_law_changed) rfl
    exact ⟨_, fd, F, He.glo_ok X G (c.1.fact 38 (f := .glo "_law_changed") rfl)⟩
  have D_law_told : FnAt K mg "_law_told" s_law_told := by
    obtain ⟨fd, F⟩ := c.1.def_ 46 (d := dd_law_told) rfl
    exact ⟨_, fd, F, He.glo_ok X G (c.1.fact 39 (f := .glo "_law_told") rfl)⟩
  have D_law_right : FnAt K mg "_law_right" s_law_right := by
    obtain ⟨fd, F⟩ := c.1.def_ 47 (d := dd_law_right) rfl
    exact ⟨_, fd, F, He.glo_ok X G (c.1.fact 40 (f := .glo "_law_right") rfl)⟩
  have T : Bl mg := ⟨He.free_ok X G (c.1.fact 42 (f := .free "NotImplemented") rfl), He.free_ok X G (c.1.fact 43 (f := .free "ValueError") rfl), He.free_ok X G (c.1.fact 44 (f := .free "abs") rfl), He.free_ok X G (c.1.fact 45 (f := .free "all") rfl), He.free_ok X G (c.1.fact 46 (f := .free "bool") rfl), He.free_ok X G (c.1.fact 47 (f := .free "int") rfl), He.free_ok X G (c.1.fact 48 (f := .free "isinstance") rfl), He.free_ok X G (c.1.fact 49 (f := .free "len") rfl), He.free_ok X G (c.1.fact 50 (f := .free "list") rfl), He.free_ok X G (c.1.fact 51 (f := .free "property") rfl), He.free_ok X G (c.1.fact 52 (f := .free "range") rfl), He.free_ok X G (c.1.fact 53 (f := .free "reversed") rfl), He.free_ok X G (c.1.fact 54 (f := .free "str") rfl), He.free_ok X G (c.1.fact 55 (f := .free "tuple") rfl), He.free_ok X G (c.1.fact 56 (f := .free "zip") rfl), (by obtain ⟨t, h⟩ := He.int_ok X G (c.1.fact 57 (f := .int "PLACES" 4) rfl); exact ⟨_, h, ⟨t, rfl⟩⟩), (by obtain ⟨t, h⟩ := He.int_ok X G (c.1.fact 58 (f := .int "GREATEST" 100000000000000000000000000000000000000000000000000) rfl); exact ⟨_, h, ⟨t, rfl⟩⟩), (by obtain ⟨t, h⟩ := He.int_ok X G (c.1.fact 59 (f := .int "TABLES" 16) rfl); exact ⟨_, h, ⟨t, rfl⟩⟩), (by obtain ⟨t, h⟩ := He.int_ok X G (c.1.fact 60 (f := .int "DEAREST" 1000) rfl); exact ⟨_, h, ⟨t, rfl⟩⟩), (by obtain ⟨t, h⟩ := He.int_ok X G (c.1.fact 61 (f := .int "NAMES" 400) rfl); exact ⟨_, h, ⟨t, rfl⟩⟩), (by obtain ⟨t, h⟩ := He.int_ok X G (c.1.fact 62 (f := .int "USES" 20000) rfl); exact ⟨_, h, ⟨t, rfl⟩⟩), (by obtain ⟨t, h⟩ := He.int_ok X G (c.1.fact 63 (f := .int "TIMES" 10000000000000000000000000000000000000000) rfl); exact ⟨_, h, ⟨t, rfl⟩⟩), (by obtain ⟨t, h⟩ := He.str_ok X G (c.1.fact 64 (f := .str "DIGITS" "0123456789") rfl); exact ⟨_, h, ⟨t, rfl⟩⟩), (by obtain ⟨t, h⟩ := He.int_ok X G (c.1.fact 65 (f := .int "FIGURES" 100) rfl); exact ⟨_, h, ⟨t, rfl⟩⟩), (by obtain ⟨t, h⟩ := He.int_ok X G (c.1.fact 66 (f := .int "LENGTH" 100000) rfl); exact ⟨_, h, ⟨t, rfl⟩⟩)⟩
  have Z : Ev K mg := evOf X G c
  obtain ⟨fd, F⟩ := c.1.def_ 48 (d := dd_law) rfl
  have e := hfa.symm.trans (He.glo_ok X G (c.1.fact 41 (f := .glo "law") rfl))
  cases e
  have b := FunD.bindsA (ps := ["script"]) F fun _ _ _ _ _ _ us hl => match us, hl with | [_], _ => rfl
  refine ⟨fd, fun s v => b s [v] rfl, fun base _ _ => ?_⟩
  have c_law_begin := c_begin (P := P) (w := w) (base := base) D_law_begin T
  have c_law_draw := c_draw (P := P) (w := w) (base := base) D_law_draw T
  have c_law_rare := c_rare (P := P) (w := w) (base := base) D_law_rare T c_law_draw
  have c_law_pick := c_pick (P := P) (w := w) (base := base) D_law_pick T c_law_draw
  have c_is_whole := c_is_whole (P := P) (w := w) (base := base) D_is_whole T
  have c_lower := c_lower (P := P) (w := w) (base := base) D_lower T
  have c_lowest := c_lowest (P := P) (w := w) (base := base) D_lowest T c_lower
  have c_highest := c_highest (P := P) (w := w) (base := base) D_highest T
  have c_times_price := c_times_price (P := P) (w := w) (base := base) D_times_price T
  have c_chosen_number := c_chosen_number (P := P) (w := w) (base := base) D_chosen_number T
  have c_Table := c_Table (P := P) (w := w) (base := base) Z T c_is_whole c_lowest c_highest
  have c_Table_eq := c_Table_eq (P := P) (w := w) (base := base) Z T
  have c_swapped := c_swapped (P := P) (w := w) (base := base) D_swapped Z T c_Table
  have c_is_told := c_is_told (P := P) (w := w) (base := base) D_is_told Z T
  have c_Lot := c_Lot (P := P) (w := w) (base := base) Z T c_is_told c_swapped c_Table_eq
  have c_is_told := c_told_b (P := P) (w := w) (base := base) D_is_told Z T
  have c_Lot_eq := c_Lot_eq (P := P) (w := w) (base := base) Z T c_Table_eq
  have c_is_use := c_use_b (P := P) (w := w) (base := base) D_is_use Z T c_is_whole
  have c_Puzzle := c_Puzzle (P := P) (w := w) (base := base) Z T c_is_whole c_is_use
  have x_BadText := x_BadText (P := P) (w := w) (base := base) Z T
  have c_is_number := c_is_number (P := P) (w := w) (base := base) D_is_number T
  have c_law_low := c_law_low (P := P) (w := w) (base := base) D_law_low T
  have c_law_cost := c_law_cost (P := P) (w := w) (base := base) D_law_cost T c_law_rare c_law_draw
  have c_law_opened := c_law_opened (P := P) (w := w) (base := base) D_law_opened T c_law_low c_law_cost c_law_draw
  have c_law_loose := c_law_loose (P := P) (w := w) (base := base) D_law_loose T c_law_draw c_law_cost c_law_opened
  have c_price_text := c_price_text (P := P) (w := w) (base := base) D_price_text T
  have c_table_line := c_table_line (P := P) (w := w) (base := base) D_table_line Z T c_price_text
  have c_use_line := c_use_line (P := P) (w := w) (base := base) D_use_line T
  have c_lot_text := c_lot_text (P := P) (w := w) (base := base) D_lot_text Z T c_table_line
  have c_puzzle_text := c_puzzle_text (P := P) (w := w) (base := base) D_puzzle_text Z T c_lot_text c_use_line
  have c_lines_of := c_lines_of (P := P) (w := w) (base := base) D_lines_of Z T x_BadText
  have c_number_in := c_number_in (P := P) (w := w) (base := base) D_number_in Z T x_BadText c_is_number c_is_whole
  have c_read_price := c_read_price (P := P) (w := w) (base := base) D_read_price Z T c_number_in
  have c_read_table := c_read_table (P := P) (w := w) (base := base) D_read_table Z T x_BadText c_number_in c_read_price c_Table
  have c_read_use := c_read_use (P := P) (w := w) (base := base) D_read_use Z T x_BadText c_number_in
  have c_read_tables := c_read_tables (P := P) (w := w) (base := base) D_read_tables Z T x_BadText c_read_table
  have c_read_lot := c_read_lot (P := P) (w := w) (base := base) D_read_lot Z T x_BadText c_lines_of c_read_tables c_Lot
  have c_read_puzzle := c_read_puzzle (P := P) (w := w) (base := base) D_read_puzzle Z T x_BadText c_lines_of c_read_tables c_number_in c_read_use c_Lot c_Puzzle
  have c_law_number_in := c_law_number_in (P := P) (w := w) (base := base) D_law_number_in T
  have c_law_table_of := c_law_table_of (P := P) (w := w) (base := base) D_law_table_of T c_law_number_in c_law_low
  have c_law_use_of := c_law_use_of (P := P) (w := w) (base := base) D_law_use_of T c_law_number_in
  have c_law_tables_of := c_law_tables_of (P := P) (w := w) (base := base) D_law_tables_of T c_law_table_of
  have c_law_reading := c_law_reading (P := P) (w := w) (base := base) D_law_reading T c_law_tables_of c_law_number_in c_law_use_of
  have c_Puzzle_eq := c_Puzzle_eq (P := P) (w := w) (base := base) Z T c_Lot_eq
  have c_law_told := c_law_told (P := P) (w := w) (base := base) D_law_told Z T c_read_lot c_read_puzzle
  have c_law_right := c_law_right (P := P) (w := w) (base := base) D_law_right Z T c_law_reading c_law_told c_Lot c_Table c_Puzzle c_lot_text c_puzzle_text c_Lot_eq c_Puzzle_eq
  have c_law_uses := c_law_uses (P := P) (w := w) (base := base) D_law_uses T c_law_draw
  have c_law_lines := c_law_lines (P := P) (w := w) (base := base) D_law_lines T
  have c_law_changed := c_law_changed (P := P) (w := w) (base := base) D_law_changed T c_law_draw c_law_pick
  exact ok_law F Z T c_law_begin c_law_draw c_law_loose c_law_uses c_law_lines c_law_right c_law_changed c_law_told
end L2.KK
open PySem PySem.W PySem.Calls PyProof.Rows
theorem PySem.Challenge.cw_pricedrules_k82_text_refused_lines_holds : PySem.Challenge.rw_pricedrules_k82_text_refused_lines.Holds := by
  w_on; o_law
  refine HandSHeadRun.head_any (r := OpenLaw.row PySem.Challenge.rw_pricedrules_k82_text_refused_lines) (q := view (OpenLaw.row PySem.Challenge.rw_pricedrules_k82_text_refused_lines).prog [75]) (H := L2.KK.hkD) (ob := L2.KK.obD) (M := 12000) (loose := L2.KK.looseL) (d := HandSHeadRun.topDef (OpenLaw.row PySem.Challenge.rw_pricedrules_k82_text_refused_lines).prog 75) (kwd := []) L2.KK.obD_eq
    (by kernel_rfl) (fun s => by kernel_rfl) L2.KK.runD (by kernel_rfl) (by kernel_rfl) (by kernel_rfl) (by rfl) (by first | assumption | decide +kernel) (by decide +kernel) ⟨rfl, rfl, rfl, rfl, rfl, by decide +kernel⟩ ?hw ?hc
  case hw => w_witness2
  case hc =>
    refine L2.walk_ofE (l := PySem.Challenge.rw_pricedrules_k82_text_refused_lines) (n := 63) (k := 11) (x := "script") (CX := L2.CX0) rfl (by decide) (by kernel_rfl) ⟨rfl, by decide, by decide⟩ ?F (fun _ _ _ _ z => z)
    intro w mg fa h Y G hmg0
    obtain ⟨K, KX, c⟩ := Y
    have hmg : mg ("law" : PySem.Str) = some (.ref fa) := by
      have e : (HandSHeadRun.topDef (OpenLaw.row PySem.Challenge.rw_pricedrules_k82_text_refused_lines).prog 75).name = ("law" : PySem.Str) := by kernel_rfl
      rw [← e]
      exact hmg0
    obtain ⟨fd, hb, hF⟩ := L2.KK.factsD (P := (PySem.Challenge.rw_pricedrules_k82_text_refused_lines).prog) (w := w) KX G hmg c
    exact ⟨K, fd, L2.KK.spLaw K, KX, hb, fun H a ns hl _ hS => ⟨a, ns, rfl, hS, hl, fun _ => rfl⟩, hF⟩
