import PyProof.Rows.All
import Wide.All
import OpenK.AllK
import Wide.FinOn
import PyProof.EqAt
import KE.KDictSum
import KE.KDictFold
import KE.KMulAny
import KE.KListMore
import KE.KCat
import KE.KEqSeq
import KE.KEqDeep
import Lean
import PySem.Challenge.RW_rh0206_01
set_option Elab.async false
set_option compiler.extract_closed false
set_option maxRecDepth 100000
namespace Mine
section
open PySem PyProof.Rows
section ts
variable {prog : Program} {w : World} {A : Around} {E : Value → Shared → Prop} {s : Shared}
abbrev IsI (p : Keyed) : Prop := ∃ n t, p.1 = .int n t
noncomputable def kk (p : Keyed) : Int := numOf p.1
noncomputable def gallop' : Bool → Keyed → Array Keyed → Nat → Nat → Nat → StateT SortSt Sem (Option Nat) := sortPriv% PySem.Builtin.gallop
theorem wpS_lt2 {x y : Keyed} {st : SortSt} {Q : Option Bool → SortSt → Prop} (hk : kindOf st = oneType') (hx : IsI x) (hy : IsI y) (h : Q (some (decide (kk x < kk y))) st) : wpS (model prog w) A E s (lt' x y) Q st := by
  obtain ⟨a, t, hx⟩ := hx
  obtain ⟨b, u, hy⟩ := hy
  rw [lt'_eq]
  refine wpS_bind (wpS_get ?_)
  rw [hk, keyLt'_oneType, hx, hy]
  unfold kk at h
  rw [hx, hy] at h
  refine wpS_bind (wpS_lift (wpAny_attempt (oneLt_int ⟨rfl, ?_⟩)))
  exact wpS_pure h
theorem wpS_elem2 {arr : Array Keyed} {i : Nat} {st : SortSt} {Q : Keyed → SortSt → Prop} (hi : i < arr.size) (h : Q arr[i] st) : wpS (model prog w) A E s (elem' arr i) Q st := by
  rw [elem'_eq, getElem?_pos arr i hi]
  exact wpS_pure h
/-- is the place before the key's -/
noncomputable def bey (left : Bool) (key : Keyed) (arr : Array Keyed) (base i : Nat) : Bool := if left then decide (K arr (base + i) < kk key) else decide (K arr (base + i) ≤ kk key)
theorem K_get {arr : Array Keyed} {i : Nat} (hi : i < arr.size) : K arr i = kk arr[i] := K_eq hi
theorem bey_mono {left : Bool} {key : Keyed} {arr : Array Keyed} {base n i j : Nat} (hs : ∀ i j, i ≤ j → j < n → K arr (base + i) ≤ K arr (base + j)) (hij : i ≤ j) (hj : j < n) (h : bey left key arr base j = true) : bey left key arr base i = true := by
  have := hs i j hij hj
  unfold bey at h ⊢
  cases left
  · simp only [Bool.false_eq_true, if_false, decide_eq_true_eq] at h ⊢; (first | lia | omega)
  · simp only [if_true, decide_eq_true_eq] at h ⊢; (first | lia | omega)
theorem wpS_gallop {left : Bool} {key : Keyed} {arr : Array Keyed} {base n hint : Nat} {st : SortSt} {Q : Option Nat → SortSt → Prop} (hk : kindOf st = oneType') (hkey : IsI key) (hI : ∀ p ∈ arr.toList, IsI p) (hb : base + n ≤ arr.size) (hh : hint < n)
    (hs : ∀ i j, i ≤ j → j < n → K arr (base + i) ≤ K arr (base + j))
    (h : ∀ k, k ≤ n → (∀ i, i < k → bey left key arr base i = true) → (∀ i, k ≤ i → i < n → bey left key arr base i = false) → Q (some k) st) : wpS (model prog w) A E s (gallop' left key arr base n hint) Q st := by
  have bq : ∀ (i : Nat) (Q : Option Bool → SortSt → Prop), i < n → Q (some (bey left key arr base i)) st → wpS (model prog w) A E s
      (do let x ← elem' arr (base + i); if left then lt' x key else return (← lt' key x).map (!·)) Q st := by
    intro i Q hi hq
    have hi' : base + i < arr.size := by (first | lia | omega)
    refine wpS_bind (wpS_elem2 hi' ?_)
    have hx : IsI arr[base + i] := hI _ (by simp)
    unfold bey at hq
    rw [K_get hi'] at hq
    cases left
    · simp only [Bool.false_eq_true, if_false] at hq ⊢
      refine wpS_bind (wpS_lt2 hk hkey hx ?_)
      refine wpS_pure ?_
      have e : (!decide (kk key < kk arr[base + i])) = decide (kk arr[base + i] ≤ kk key) := by
        rw [← decide_not]; congr 1; simp only [eq_iff_iff]; (first | lia | omega)
      show Q (some (!decide (kk key < kk arr[base + i]))) st
      rw [e]; exact hq
    · simp only [if_true] at hq ⊢
      exact wpS_lt2 hk hx hkey hq
  refine wpS_bind ?_
  refine bq hint _ hh ?_
  dsimp only
  cases e : bey left key arr base hint
  · rw [if_neg (by simp)]
    refine wpS_bind (wpS_mono (wpS_forRange (I := fun x c st' => st = st' ∧ ∃ lo ofs, c = (none, lo, ofs) ∧ lo ≤ hint ∧ x + 1 ≤ ofs ∧ lo < ofs ∧ bey left key arr base (hint - lo) = false)
      (Q := fun c st' => st = st' ∧ ∃ lo ofs, c = (none, lo, ofs) ∧ lo ≤ hint ∧ lo < ofs ∧ bey left key arr base (hint - lo) = false ∧ (hint + 1 ≤ ofs ∨ ofs ≤ hint ∧ bey left key arr base (hint - ofs) = true)) ?_ ?_ ⟨rfl, 0, 1, rfl, by (first | lia | omega), by (first | lia | omega), by (first | lia | omega), e⟩) ?_)
    · rintro x c st' _ hx ⟨rfl, lo, ofs, rfl, h1, h2, h3, h4⟩
      dsimp only
      by_cases hge : ofs ≥ hint + 1
      · rw [if_pos hge]
        exact wpS_pure ⟨rfl, lo, ofs, rfl, h1, h3, h4, .inl hge⟩
      · rw [if_neg hge]
        refine wpS_bind (bq (hint - ofs) _ (by (first | lia | omega)) ?_)
        dsimp only
        cases e2 : bey left key arr base (hint - ofs)
        · rw [if_neg (by simp)]
          exact wpS_pure ⟨rfl, ofs, _, rfl, by (first | lia | omega), by (first | lia | omega), by (first | lia | omega), e2⟩
        · rw [if_pos rfl]
          exact wpS_pure ⟨rfl, lo, ofs, rfl, h1, h3, h4, .inr ⟨by (first | lia | omega), e2⟩⟩
    · rintro c st' ⟨rfl, lo, ofs, rfl, h1, h2, h3, h4⟩
      exact ⟨rfl, lo, ofs, rfl, h1, h3, h4, .inl (by (first | lia | omega))⟩
    · rintro c st' ⟨rfl, lo, ofs, rfl, h1, h3, h4, h5⟩
      have g1 : hint + 1 - min ofs (hint + 1) ≤ hint - lo := by (first | lia | omega)
      have g2 : hint - lo ≤ n := by (first | lia | omega)
      have g3 : ∀ i, i < hint + 1 - min ofs (hint + 1) → bey left key arr base i = true := by
        intro i hi
        rcases h5 with h5 | ⟨h5, h6⟩
        · (first | lia | omega)
        · exact bey_mono hs (j := hint - ofs) (by (first | lia | omega)) (by (first | lia | omega)) h6
      have g4 : ∀ i, hint - lo ≤ i → i < n → bey left key arr base i = false := by
        intro i h6 h7
        cases e2 : bey left key arr base i
        · rfl
        · exact absurd (bey_mono hs h6 h7 e2) (by rw [h4]; simp)
      dsimp only
      refine wpS_bind (wpS_mono (wpS_forRange (I := fun x c st' => st = st' ∧ ∃ lo hi, c = (none, lo, hi) ∧ lo ≤ hi ∧ hi ≤ n ∧ hi - lo ≤ n - x ∧ (∀ i, i < lo → bey left key arr base i = true) ∧ (∀ i, hi ≤ i → i < n → bey left key arr base i = false))
        (Q := fun c st' => st = st' ∧ ∃ k, c = (none, k, k) ∧ k ≤ n ∧ (∀ i, i < k → bey left key arr base i = true) ∧ (∀ i, k ≤ i → i < n → bey left key arr base i = false)) ?_ ?_ ⟨rfl, _, _, rfl, g1, g2, by (first | lia | omega), g3, g4⟩) ?_)
      · rintro x c st' _ hx ⟨rfl, lo, hi, rfl, h1, h2, h3, h4, h5⟩
        dsimp only
        by_cases hge : lo ≥ hi
        · rw [if_pos hge]
          have : lo = hi := by (first | lia | omega)
          subst this
          exact wpS_pure ⟨rfl, lo, rfl, h2, h4, h5⟩
        · rw [if_neg hge]
          refine wpS_bind (bq (lo + (hi - lo) / 2) _ (by (first | lia | omega)) ?_)
          dsimp only
          cases e : bey left key arr base (lo + (hi - lo) / 2)
          · rw [if_neg (by simp)]
            refine wpS_pure ⟨rfl, _, _, rfl, by (first | lia | omega), by (first | lia | omega), by (first | lia | omega), h4, fun i hi1 hi2 => ?_⟩
            cases e2 : bey left key arr base i
            · rfl
            · exact absurd (bey_mono hs hi1 hi2 e2) (by rw [e]; simp)
          · rw [if_pos rfl]
            exact wpS_pure ⟨rfl, _, _, rfl, by (first | lia | omega), by (first | lia | omega), by (first | lia | omega), fun i hi1 => bey_mono hs (by (first | lia | omega)) (by (first | lia | omega)) e, h5⟩
      · rintro c st' ⟨rfl, lo, hi, rfl, h1, h2, h3, h4, h5⟩
        have : lo = hi := by (first | lia | omega)
        subst this
        exact ⟨rfl, lo, rfl, h2, h4, h5⟩
      · rintro c st' ⟨rfl, k, rfl, h1, h2, h3⟩
        exact wpS_pure (h k h1 h2 h3)
  · rw [if_pos rfl]
    refine wpS_bind (wpS_mono (wpS_forRange (I := fun x c st' => st = st' ∧ ∃ lo ofs, c = (none, lo, ofs) ∧ hint + lo < n ∧ x + 1 ≤ ofs ∧ lo < ofs ∧ bey left key arr base (hint + lo) = true)
      (Q := fun c st' => st = st' ∧ ∃ lo ofs, c = (none, lo, ofs) ∧ hint + lo < n ∧ lo < ofs ∧ bey left key arr base (hint + lo) = true ∧ (n ≤ hint + ofs ∨ hint + ofs < n ∧ bey left key arr base (hint + ofs) = false)) ?_ ?_ ⟨rfl, 0, 1, rfl, by (first | lia | omega), by (first | lia | omega), by (first | lia | omega), e⟩) ?_)
    · rintro x c st' _ hx ⟨rfl, lo, ofs, rfl, h1, h2, h3, h4⟩
      dsimp only
      by_cases hge : ofs ≥ n - hint
      · rw [if_pos hge]
        exact wpS_pure ⟨rfl, lo, ofs, rfl, h1, h3, h4, .inl (by (first | lia | omega))⟩
      · rw [if_neg hge]
        refine wpS_bind (bq (hint + ofs) _ (by (first | lia | omega)) ?_)
        dsimp only
        cases e2 : bey left key arr base (hint + ofs)
        · rw [if_pos (by simp)]
          exact wpS_pure ⟨rfl, lo, ofs, rfl, h1, h3, h4, .inr ⟨by (first | lia | omega), e2⟩⟩
        · rw [if_neg (by simp)]
          exact wpS_pure ⟨rfl, ofs, _, rfl, by (first | lia | omega), by (first | lia | omega), by (first | lia | omega), e2⟩
    · rintro c st' ⟨rfl, lo, ofs, rfl, h1, h2, h3, h4⟩
      exact ⟨rfl, lo, ofs, rfl, h1, h3, h4, .inl (by (first | lia | omega))⟩
    · rintro c st' ⟨rfl, lo, ofs, rfl, h1, h3, h4, h5⟩
      have g1 : hint + lo + 1 ≤ hint + min ofs (n - hint) := by (first | lia | omega)
      have g2 : hint + min ofs (n - hint) ≤ n := by (first | lia | omega)
      have g3 : ∀ i, i < hint + lo + 1 → bey left key arr base i = true := by
        intro i hi
        exact bey_mono hs (j := hint + lo) (by (first | lia | omega)) (by (first | lia | omega)) h4
      have g4 : ∀ i, hint + min ofs (n - hint) ≤ i → i < n → bey left key arr base i = false := by
        intro i h6 h7
        rcases h5 with h5 | ⟨h5, h8⟩
        · (first | lia | omega)
        · cases e2 : bey left key arr base i
          · rfl
          · exact absurd (bey_mono hs (i := hint + ofs) (by (first | lia | omega)) h7 e2) (by rw [h8]; simp)
      dsimp only
      refine wpS_bind (wpS_mono (wpS_forRange (I := fun x c st' => st = st' ∧ ∃ lo hi, c = (none, lo, hi) ∧ lo ≤ hi ∧ hi ≤ n ∧ hi - lo ≤ n - x ∧ (∀ i, i < lo → bey left key arr base i = true) ∧ (∀ i, hi ≤ i → i < n → bey left key arr base i = false))
        (Q := fun c st' => st = st' ∧ ∃ k, c = (none, k, k) ∧ k ≤ n ∧ (∀ i, i < k → bey left key arr base i = true) ∧ (∀ i, k ≤ i → i < n → bey left key arr base i = false)) ?_ ?_ ⟨rfl, _, _, rfl, g1, g2, by (first | lia | omega), g3, g4⟩) ?_)
      · rintro x c st' _ hx ⟨rfl, lo, hi, rfl, h1, h2, h3, h4, h5⟩
        dsimp only
        by_cases hge : lo ≥ hi
        · rw [if_pos hge]
          have : lo = hi := by (first | lia | omega)
          subst this
          exact wpS_pure ⟨rfl, lo, rfl, h2, h4, h5⟩
        · rw [if_neg hge]
          refine wpS_bind (bq (lo + (hi - lo) / 2) _ (by (first | lia | omega)) ?_)
          dsimp only
          cases e : bey left key arr base (lo + (hi - lo) / 2)
          · rw [if_neg (by simp)]
            refine wpS_pure ⟨rfl, _, _, rfl, by (first | lia | omega), by (first | lia | omega), by (first | lia | omega), h4, fun i hi1 hi2 => ?_⟩
            cases e2 : bey left key arr base i
            · rfl
            · exact absurd (bey_mono hs hi1 hi2 e2) (by rw [e]; simp)
          · rw [if_pos rfl]
            exact wpS_pure ⟨rfl, _, _, rfl, by (first | lia | omega), by (first | lia | omega), by (first | lia | omega), fun i hi1 => bey_mono hs (by (first | lia | omega)) (by (first | lia | omega)) e, h5⟩
      · rintro c st' ⟨rfl, lo, hi, rfl, h1, h2, h3, h4, h5⟩
        have : lo = hi := by (first | lia | omega)
        subst this
        exact ⟨rfl, lo, rfl, h2, h4, h5⟩
      · rintro c st' ⟨rfl, k, rfl, h1, h2, h3⟩
        exact wpS_pure (h k h1 h2 h3)
end ts
end
section
open PySem PyProof.Rows
abbrev SortedL (l : List Keyed) : Prop := l.Pairwise (fun x y => kk x ≤ kk y)
abbrev LeL (l r : List Keyed) : Prop := ∀ x ∈ l, ∀ y ∈ r, kk x ≤ kk y
/-- between the turns of a merge -/
structure MInv (all out a b : List Keyed) : Prop where
  perm : (out ++ (a ++ b)).Perm all
  so : SortedL out
  oa : LeL out a
  ob : LeL out b
  sa : SortedL a
  sb : SortedL b
theorem MInv.symm {all out a b : List Keyed} (h : MInv all out a b) : MInv all out b a :=
  ⟨((List.perm_append_comm).append_left out).trans h.perm, h.so, h.ob, h.oa, h.sb, h.sa⟩
theorem MInv.takeA {all out a1 a2 b : List Keyed} (h : MInv all out (a1 ++ a2) b) (k : LeL a1 b) : MInv all (out ++ a1) a2 b := by
  obtain ⟨p, so, oa, ob, sa, sb⟩ := h
  obtain ⟨s1, s2, s3⟩ := List.pairwise_append.mp sa
  refine ⟨by simpa only [List.append_assoc] using p, List.pairwise_append.mpr ⟨so, s1, fun x hx y hy => oa x hx y (List.mem_append_left _ hy)⟩, fun x hx y hy => ?_, fun x hx y hy => ?_, s2, sb⟩
  · rcases List.mem_append.mp hx with hx | hx
    · exact oa x hx y (List.mem_append_right _ hy)
    · exact s3 x hx y hy
  · rcases List.mem_append.mp hx with hx | hx
    · exact ob x hx y hy
    · exact k x hx y hy
theorem MInv.takeB {all out a b1 b2 : List Keyed} (h : MInv all out a (b1 ++ b2)) (k : LeL b1 a) : MInv all (out ++ b1) a b2 := (h.symm.takeA k).symm
theorem MInv.doneA {all out a b : List Keyed} (h : MInv all out a b) (k : LeL a b) : (out ++ a ++ b).Perm all ∧ SortedL (out ++ a ++ b) := by
  have h1 := (show MInv all out (a ++ []) b by rw [List.append_nil]; exact h).takeA k
  have h2 := (show MInv all (out ++ a) [] (b ++ []) by rw [List.append_nil]; exact h1).takeB (fun _ _ _ hy => nomatch hy)
  exact ⟨by simpa using h2.perm, h2.so⟩
theorem MInv.doneB {all out a b : List Keyed} (h : MInv all out a b) (k : LeL b a) : (out ++ b ++ a).Perm all ∧ SortedL (out ++ b ++ a) := h.symm.doneA k
/-- the state but for the gallop's bound -/
structure Same (st st' : SortSt) : Prop where
  kind : kindOf st' = kindOf st
  arr : arrOf st' = arrOf st
  pend : pendingOf st' = pendingOf st
  failed : failedOf st' = failedOf st
theorem Same.rfl' (st : SortSt) : Same st st := ⟨rfl, rfl, rfl, rfl⟩
noncomputable abbrev dr (a : Array Keyed) (i : Nat) : List Keyed := a.toList.drop i
theorem dr_cons {a : Array Keyed} {i : Nat} (h : i < a.size) : dr a i = a[i] :: dr a (i + 1) := by
  show a.toList.drop i = _
  rw [List.drop_eq_getElem_cons (by simpa using h)]
  rfl
theorem ext_dr (a : Array Keyed) (i : Nat) : (a.extract i a.size).toList = dr a i := by
  rw [Array.toList_extract]
  show List.take (a.size - i) (List.drop i a.toList) = _
  exact List.take_of_length_le (by simp)
theorem ext_add (a : Array Keyed) (i k : Nat) : dr a i = (a.extract i (i + k)).toList ++ dr a (i + k) := by
  rw [Array.toList_extract]
  show _ = List.take (i + k - i) (List.drop i a.toList) ++ List.drop (i + k) a.toList
  rw [show i + k - i = k by (first | lia | omega), ← List.drop_drop, List.take_append_drop]
theorem dr_nil {a : Array Keyed} {i : Nat} (h : a.size ≤ i) : dr a i = [] := List.drop_eq_nil_of_le (by simpa using h)
theorem dr_sub {a : Array Keyed} {i : Nat} {x : Keyed} (h : x ∈ dr a i) : x ∈ a.toList := List.mem_of_mem_drop h
section steps
variable {a b out : Array Keyed} {ia ib k : Nat} {all : List Keyed}
theorem MInv.pushB (h : MInv all out.toList (dr a ia) (dr b ib)) (hb : ib < b.size) (k : LeL [b[ib]] (dr a ia)) : MInv all (out.push b[ib]).toList (dr a ia) (dr b (ib + 1)) := by
  rw [Array.toList_push]
  rw [dr_cons hb] at h
  exact MInv.takeB (b1 := [b[ib]]) h k
theorem MInv.pushA (h : MInv all out.toList (dr a ia) (dr b ib)) (ha : ia < a.size) (k : LeL [a[ia]] (dr b ib)) : MInv all (out.push a[ia]).toList (dr a (ia + 1)) (dr b ib) := by
  rw [Array.toList_push]
  rw [dr_cons ha] at h
  exact MInv.takeA (a1 := [a[ia]]) h k
theorem MInv.blockA (h : MInv all out.toList (dr a ia) (dr b ib)) (q : LeL (a.extract ia (ia + k)).toList (dr b ib)) : MInv all (out ++ a.extract ia (ia + k)).toList (dr a (ia + k)) (dr b ib) := by
  rw [Array.toList_append]
  rw [ext_add a ia k] at h
  exact MInv.takeA h q
theorem MInv.blockB (h : MInv all out.toList (dr a ia) (dr b ib)) (q : LeL (b.extract ib (ib + k)).toList (dr a ia)) : MInv all (out ++ b.extract ib (ib + k)).toList (dr a ia) (dr b (ib + k)) := by
  rw [Array.toList_append]
  rw [ext_add b ib k] at h
  exact MInv.takeB h q
theorem MInv.finAB (h : MInv all out.toList (dr a ia) (dr b ib)) (q : LeL (dr a ia) (dr b ib)) : (out ++ a.extract ia ++ b.extract ib).toList.Perm all ∧ SortedL (out ++ a.extract ia ++ b.extract ib).toList := by
  rw [Array.toList_append, Array.toList_append, ext_dr, ext_dr]
  exact h.doneA q
theorem MInv.finBA (h : MInv all out.toList (dr a ia) (dr b ib)) (q : LeL (dr b ib) (dr a ia)) : (out ++ b.extract ib ++ a.extract ia).toList.Perm all ∧ SortedL (out ++ b.extract ib ++ a.extract ia).toList := by
  rw [Array.toList_append, Array.toList_append, ext_dr, ext_dr]
  exact h.doneB q
theorem le_head {l : List Keyed} {x y : Keyed} {r : List Keyed} (s : SortedL l) (e : l = y :: r) (h : kk x ≤ kk y) : LeL [x] l := by
  subst e
  intro z hz u hu
  rw [List.mem_singleton.mp hz]
  rcases List.mem_cons.mp hu with rfl | hu
  · exact h
  · exact Int.le_trans h ((List.pairwise_cons.mp s).1 u hu)
theorem K_sorted {a : Array Keyed} (sa : SortedL a.toList) {i j : Nat} (hij : i ≤ j) (hj : j < a.size) : K a i ≤ K a j := by
  rw [K_get (Nat.lt_of_le_of_lt hij hj), K_get hj]
  rcases Nat.lt_or_eq_of_le hij with hlt | rfl
  · have := List.pairwise_iff_getElem.mp sa i j (by simpa using Nat.lt_trans hlt hj) (by simpa using hj) hlt
    simpa using this
  · exact Int.le_refl _
theorem ext_mem {a : Array Keyed} {i k : Nat} {x : Keyed} (h : x ∈ (a.extract i (i + k)).toList) : ∃ j, j < k ∧ i + j < a.size ∧ kk x = K a (i + j) := by
  obtain ⟨j, hj, e⟩ := List.mem_iff_getElem.mp h
  have h1 : j < min k (a.size - i) := by simpa using hj
  refine ⟨j, by (first | lia | omega), by (first | lia | omega), ?_⟩
  rw [K_get (by (first | lia | omega)), ← e]
  simp
theorem le_block {a b : Array Keyed} {ia ib k : Nat} (sb : SortedL (dr b ib)) (hb : ib < b.size) (h : ∀ i, i < k → K a (ia + i) ≤ kk b[ib]) : LeL (a.extract ia (ia + k)).toList (dr b ib) := by
  intro x hx y hy
  obtain ⟨j, h1, h2, h3⟩ := ext_mem hx
  have h4 := h j h1
  rw [← h3] at h4
  exact le_head sb (dr_cons hb) h4 x (by simp) y hy
theorem le_rest {a : Array Keyed} {i : Nat} {x : Keyed} (sa : SortedL (dr a i)) (h : i < a.size → kk x ≤ K a i) : LeL [x] (dr a i) := by
  rcases Nat.lt_or_ge i a.size with hi | hi
  · have := h hi
    rw [K_get hi] at this
    exact le_head sa (dr_cons hi) this
  · rw [dr_nil hi]; intro _ _ _ hy; nomatch hy
theorem dr_sorted {a : Array Keyed} (sa : SortedL a.toList) (i : Nat) : SortedL (dr a i) := sa.sublist (List.drop_sublist _ _)
end steps
noncomputable def mergeLo' : Array Keyed → Array Keyed → StateT SortSt Sem (Array Keyed) := sortPriv% PySem.Builtin.mergeLo
structure PLo (a b out : Array Keyed) (ia ib : Nat) : Prop where
  inv : MInv (a.toList ++ b.toList) out.toList (dr a ia) (dr b ib)
  ha : ia + 1 < a.size
  hb : ib < b.size
abbrev Good (a b r : Array Keyed) : Prop := r.toList.Perm (a.toList ++ b.toList) ∧ SortedL r.toList
theorem Same.trans {st st1 st2 : SortSt} (h : Same st st1) (k : Same st1 st2) : Same st st2 := ⟨k.kind.trans h.kind, k.arr.trans h.arr, k.pend.trans h.pend, k.failed.trans h.failed⟩
section ts
variable {prog : Program} {w : World} {A : Around} {E : Value → Shared → Prop} {s : Shared}
noncomputable def setMinGallop' : Nat → StateT SortSt Sem Unit := sortPriv% PySem.Builtin.setMinGallop
theorem wpS_setGallop {st : SortSt} {n : Nat} {Q : Unit → SortSt → Prop} (h : ∀ st', Same st st' → Q () st') : wpS (model prog w) A E s (setMinGallop' n) Q st := by
  refine wpS_modify ?_
  exact h _ ⟨rfl, rfl, rfl, rfl⟩
noncomputable abbrev LoS := Option (Array Keyed) × Array Keyed × Nat × Nat × Nat × Nat × Nat
/-- the last part of a turn of the gallop: behind b's block -/
noncomputable def loT2 (a b : Array Keyed) (mg k m : Nat) (out : Array Keyed) (ia ib : Nat) : StateT SortSt Sem (ForInStep LoS) := do
  let y ← elem' a ia
  if ia + 1 + 1 == a.size then pure (.done (some (out.push y ++ b.extract ib ++ a.extract (ia + 1)), out.push y, ia + 1, ib, mg, k, m))
  else if decide (k < 7) && decide (m < 7) then pure (.done (none, out.push y, ia + 1, ib, mg, k, m)) else pure (.yield (none, out.push y, ia + 1, ib, mg, k, m))
/-- behind a's block -/
noncomputable def loT1 (a b : Array Keyed) (mg k bc : Nat) (out : Array Keyed) (ia ib : Nat) : StateT SortSt Sem (ForInStep LoS) := do
  let x ← elem' b ib
  if ib + 1 == b.size then pure (.done (some (out.push x ++ a.extract ia ++ b.extract (ib + 1)), out.push x, ia, ib + 1, mg, k, bc))
  else do
    let y ← elem' a ia
    let some m ← gallop' true y b (ib + 1) (b.size - (ib + 1)) 0 | pure (.done (some (out.push x ++ a.extract ia ++ b.extract (ib + 1)), out.push x, ia, ib + 1, mg, k, bc))
    if m > 0 then
        if ib + 1 + m == b.size then pure (.done (some (out.push x ++ b.extract (ib + 1) (ib + 1 + m) ++ a.extract ia ++ b.extract (ib + 1 + m)), out.push x ++ b.extract (ib + 1) (ib + 1 + m), ia, ib + 1 + m, mg, k, m))
        else loT2 a b mg k m (out.push x ++ b.extract (ib + 1) (ib + 1 + m)) ia (ib + 1 + m)
      else loT2 a b mg k m (out.push x) ia (ib + 1)
/-- a turn of the gallop -/
noncomputable def loT0 (a b : Array Keyed) (mg ac bc : Nat) (out : Array Keyed) (ia ib : Nat) : StateT SortSt Sem (ForInStep LoS) := do
  setMinGallop' mg
  let x ← elem' b ib
  let some k ← gallop' false x a ia (a.size - ia) 0 | pure (.done (some (out ++ a.extract ia ++ b.extract ib), out, ia, ib, mg, ac, bc))
  if k > 0 then
      if ia + k + 1 == a.size then pure (.done (some (out ++ a.extract ia (ia + k) ++ b.extract ib ++ a.extract (ia + k)), out ++ a.extract ia (ia + k), ia + k, ib, mg, k, bc))
      else if ia + k == a.size then pure (.done (some (out ++ a.extract ia (ia + k) ++ a.extract (ia + k) ++ b.extract ib), out ++ a.extract ia (ia + k), ia + k, ib, mg, k, bc))
      else loT1 a b mg k bc (out ++ a.extract ia (ia + k)) (ia + k) ib
    else loT1 a b mg k bc out ia ib
def LoQ (a b : Array Keyed) (st : SortSt) (X : Nat) (r : ForInStep LoS) (st' : SortSt) : Prop :=
  match r with
  | .done c => Same st st' ∧ ((∃ r o, c = (some r, o) ∧ Good a b r) ∨ ∃ out ia ib mg ac bc, c = (none, out, ia, ib, mg, ac, bc) ∧ PLo a b out ia ib ∧ X ≤ ia + ib)
  | .yield c => Same st st' ∧ ∃ out ia ib mg ac bc, c = (none, out, ia, ib, mg, ac, bc) ∧ PLo a b out ia ib ∧ X ≤ ia + ib
theorem LoQ.fin {a b r : Array Keyed} {st st' : SortSt} {X : Nat} {o} (h : Same st st') (g : Good a b r) : LoQ a b st X (.done (some r, o)) st' := ⟨h, .inl ⟨_, _, rfl, g⟩⟩
theorem lo_last {a b : Array Keyed} (hl : LeL b.toList (dr a (a.size - 1))) {ia ib : Nat} (e : ia + 1 = a.size) : LeL (dr b ib) (dr a ia) := by
  intro x hx y hy
  rw [Nat.eq_sub_of_add_eq e] at hy
  exact hl x (dr_sub hx) y hy
theorem lo_nilB {a b : Array Keyed} {ia ib : Nat} (e : ib = b.size) : LeL (dr a ia) (dr b ib) := by
  intro x hx y hy
  rw [dr_nil (Nat.le_of_eq e.symm)] at hy
  nomatch hy
theorem lo_nilA {a b : Array Keyed} {ia ib : Nat} (e : ia = a.size) : LeL (dr a ia) (dr b ib) := by
  intro x hx y hy
  rw [dr_nil (Nat.le_of_eq e.symm)] at hx
  nomatch hx
theorem wpS_if {α : Type} {c : Prop} [Decidable c] {x y : StateT SortSt Sem α} {Q : α → SortSt → Prop} {st : SortSt} (h1 : c → wpS (model prog w) A E s x Q st) (h2 : ¬c → wpS (model prog w) A E s y Q st) : wpS (model prog w) A E s (if c then x else y) Q st := by
  split
  · exact h1 (by assumption)
  · exact h2 (by assumption)
theorem wpS_ifb {α : Type} {m n : Nat} {x y : StateT SortSt Sem α} {Q : α → SortSt → Prop} {st : SortSt} (h1 : m = n → wpS (model prog w) A E s x Q st) (h2 : m ≠ n → wpS (model prog w) A E s y Q st) : wpS (model prog w) A E s (if (m == n) = true then x else y) Q st :=
  wpS_if (fun h => h1 (beq_iff_eq.mp h)) (fun h => h2 fun e => h (beq_iff_eq.mpr e))
section tail
variable {a b : Array Keyed} {st st5 : SortSt} {X mg k bc : Nat}
theorem loT2_ok {out : Array Keyed} {m ia ib : Nat} (hl : LeL b.toList (dr a (a.size - 1))) (hS : Same st st5) (i5 : MInv (a.toList ++ b.toList) out.toList (dr a ia) (dr b ib)) (q1 : ia + 1 < a.size) (p : ib < b.size)
    (j4 : LeL [a[ia]] (dr b ib)) (hX : X ≤ ia + 1 + ib) : wpS (model prog w) A E s (loT2 a b mg k m out ia ib) (LoQ a b st X) st5 := by
  have i6 := i5.pushA (Nat.lt_of_succ_lt q1) j4
  refine wpS_bind (wpS_elem2 (Nat.lt_of_succ_lt q1) ?_)
  refine wpS_ifb (fun e => wpS_pure (LoQ.fin hS (i6.finBA (lo_last hl e)))) fun e => ?_
  have P : PLo a b (out.push a[ia]) (ia + 1) ib := ⟨i6, Nat.lt_of_le_of_ne q1 e, p⟩
  exact wpS_if (fun _ => wpS_pure ⟨hS, .inr ⟨_, _, _, _, _, _, rfl, P, hX⟩⟩) (fun _ => wpS_pure ⟨hS, _, _, _, _, _, _, rfl, P, hX⟩)
theorem loT1_ok {out : Array Keyed} {ia ib : Nat} (hk : kindOf st = oneType') (hIa : ∀ p ∈ a.toList, IsI p) (hIb : ∀ p ∈ b.toList, IsI p) (sb : SortedL b.toList) (hl : LeL b.toList (dr a (a.size - 1)))
    (hS : Same st st5) (i3 : MInv (a.toList ++ b.toList) out.toList (dr a ia) (dr b ib)) (q1 : ia + 1 < a.size) (p2 : ib < b.size) (j2 : LeL [b[ib]] (dr a ia)) (hX : X ≤ ia + 1 + (ib + 1)) :
    wpS (model prog w) A E s (loT1 a b mg k bc out ia ib) (LoQ a b st X) st5 := by
  have i4 := i3.pushB p2 j2
  have q0 := Nat.lt_of_succ_lt q1
  refine wpS_bind (wpS_elem2 p2 ?_)
  refine wpS_ifb (fun e => wpS_pure (LoQ.fin hS (i4.finAB (lo_nilB e)))) fun e => ?_
  have p5 : ib + 1 < b.size := Nat.lt_of_le_of_ne p2 e
  refine wpS_bind (wpS_elem2 q0 ?_)
  refine wpS_bind (wpS_gallop (hS.kind.trans hk) (hIa _ (by simp)) hIb (Nat.le_of_eq (Nat.add_sub_cancel' p2)) (Nat.sub_pos_of_lt p5) (fun i j h1 h2 => K_sorted sb (Nat.add_le_add_left h1 _) (Nat.add_lt_of_lt_sub' h2)) ?_)
  intro m m1 m2 m3
  dsimp only
  simp only [bey, if_true, decide_eq_true_eq, decide_eq_false_iff_not] at m2 m3
  have j4 : LeL [a[ia]] (dr b (ib + 1 + m)) := le_rest (dr_sorted sb _) fun hh => Int.not_lt.mp (m3 m (Nat.le_refl _) (Nat.lt_sub_of_add_lt (by rw [Nat.add_comm]; exact hh)))
  refine wpS_if (fun m0 => ?_) fun m0 => ?_
  · have i5 := i4.blockB (k := m) (le_block i4.sa q0 fun i hi => Int.le_of_lt (m2 i hi))
    refine wpS_ifb (fun e4 => wpS_pure (LoQ.fin hS (i5.finAB (lo_nilB e4)))) fun e4 => ?_
    exact loT2_ok hl hS i5 q1 (by (first | lia | omega)) j4 (Nat.le_trans hX (Nat.add_le_add_left (Nat.le_add_right _ _) _))
  · have m9 : m = 0 := Nat.eq_zero_of_not_pos m0
    subst m9
    exact loT2_ok hl hS i4 q1 p5 j4 hX
theorem loT0_ok {out : Array Keyed} {ac ia ib : Nat} (hk : kindOf st = oneType') (hIa : ∀ p ∈ a.toList, IsI p) (hIb : ∀ p ∈ b.toList, IsI p) (sa : SortedL a.toList) (sb : SortedL b.toList) (hl : LeL b.toList (dr a (a.size - 1)))
    (hS : Same st st5) (i2 : MInv (a.toList ++ b.toList) out.toList (dr a ia) (dr b ib)) (p1 : ia + 1 < a.size) (p2 : ib < b.size) (hX : X ≤ ia + ib) :
    wpS (model prog w) A E s (loT0 a b mg ac bc out ia ib) (LoQ a b st X) st5 := by
  refine wpS_bind (wpS_setGallop fun st4 hS4 => ?_)
  have hS5 := hS.trans hS4
  have p3 := Nat.lt_of_succ_lt p1
  refine wpS_bind (wpS_elem2 p2 ?_)
  refine wpS_bind (wpS_gallop (hS5.kind.trans hk) (hIb _ (by simp)) hIa (Nat.le_of_eq (Nat.add_sub_cancel' (Nat.le_of_lt p3))) (Nat.sub_pos_of_lt p3) (fun i j h1 h2 => K_sorted sa (Nat.add_le_add_left h1 _) (Nat.add_lt_of_lt_sub' h2)) ?_)
  intro k k1 k2 k3
  dsimp only
  simp only [bey, Bool.false_eq_true, if_false, decide_eq_true_eq, decide_eq_false_iff_not] at k2 k3
  have j2 : LeL [b[ib]] (dr a (ia + k)) := le_rest (dr_sorted sa _) fun hh => Int.le_of_lt (Int.not_le.mp (k3 k (Nat.le_refl _) (Nat.lt_sub_of_add_lt (by rw [Nat.add_comm]; exact hh))))
  have hX2 : X ≤ ia + k + 1 + (ib + 1) := by (first | lia | omega)
  refine wpS_if (fun k0 => ?_) fun k0 => ?_
  · have i3 := i2.blockA (k := k) (le_block i2.sb p2 k2)
    refine wpS_ifb (fun e1 => wpS_pure (LoQ.fin hS5 (i3.finBA (lo_last hl e1)))) fun e1 => ?_
    refine wpS_ifb (fun e2 => wpS_pure (LoQ.fin hS5 (i3.finAB (lo_nilA e2)))) fun e2 => ?_
    exact loT1_ok hk hIa hIb sb hl hS5 i3 (by (first | lia | omega)) p2 j2 hX2
  · have k9 : k = 0 := Nat.eq_zero_of_not_pos k0
    subst k9
    exact loT1_ok hk hIa hIb sb hl hS5 i2 p1 p2 j2 hX2
end tail
/-- behind a turn of a loop -/
noncomputable def StepQ {β : Type} (D Y : β → SortSt → Prop) : ForInStep β → SortSt → Prop
  | .done c, s => D c s
  | .yield c, s => Y c s
theorem wpS_range {β : Type} {n : Nat} {f : Nat → β → StateT SortSt Sem (ForInStep β)} (I : Nat → β → SortSt → Prop) {Q : β → SortSt → Prop} (hstep : ∀ i c st, I i c st → wpS (model prog w) A E s (f i c) (StepQ Q (I (i + 1))) st)
    (hend : ∀ c st, I n c st → Q c st) {c : β} {st : SortSt} (h : I 0 c st) : wpS (model prog w) A E s (forIn [:n] c f) Q st :=
  wpS_forRange I (fun i c st _ _ h => wpS_mono (hstep i c st h) fun r st' h => by cases r <;> exact h) (fun c st h => hend c st (by rw [Nat.max_eq_right (Nat.zero_le _)] at h; exact h)) h
noncomputable abbrev Lo1 := Option (Array Keyed) × Array Keyed × Nat × Nat × Nat × Nat
noncomputable abbrev Lo9 := Option (Array Keyed) × Array Keyed × Nat × Nat × Nat
/-- a turn of the first loop -/
noncomputable def loB1 (a b : Array Keyed) (mg : Nat) (c : Lo1) : StateT SortSt Sem (ForInStep Lo1) := do
  let some bWins ← lt' (← elem' b c.2.2.2.1) (← elem' a c.2.2.1) | pure (.done (some (c.2.1 ++ a.extract c.2.2.1 ++ b.extract c.2.2.2.1), c.2.1, c.2.2.1, c.2.2.2.1, c.2.2.2.2.1, c.2.2.2.2.2))
  if bWins then do
    let z ← elem' b c.2.2.2.1
    if c.2.2.2.1 + 1 == b.size then pure (.done (some (c.2.1.push z ++ a.extract c.2.2.1 ++ b.extract (c.2.2.2.1 + 1)), c.2.1.push z, c.2.2.1, c.2.2.2.1 + 1, 0, c.2.2.2.2.2 + 1))
    else if c.2.2.2.2.2 + 1 ≥ mg then pure (.done (none, c.2.1.push z, c.2.2.1, c.2.2.2.1 + 1, 0, c.2.2.2.2.2 + 1)) else pure (.yield (none, c.2.1.push z, c.2.2.1, c.2.2.2.1 + 1, 0, c.2.2.2.2.2 + 1))
  else do
    let z ← elem' a c.2.2.1
    if c.2.2.1 + 1 + 1 == a.size then pure (.done (some (c.2.1.push z ++ b.extract c.2.2.2.1 ++ a.extract (c.2.2.1 + 1)), c.2.1.push z, c.2.2.1 + 1, c.2.2.2.1, c.2.2.2.2.1 + 1, 0))
    else if c.2.2.2.2.1 + 1 ≥ mg then pure (.done (none, c.2.1.push z, c.2.2.1 + 1, c.2.2.2.1, c.2.2.2.2.1 + 1, 0)) else pure (.yield (none, c.2.1.push z, c.2.2.1 + 1, c.2.2.2.1, c.2.2.2.2.1 + 1, 0))
/-- a turn of the second -/
noncomputable def loB2 (a b : Array Keyed) (c : LoS) : StateT SortSt Sem (ForInStep LoS) :=
  if c.2.2.2.2.1 > 1 then loT0 a b (c.2.2.2.2.1 - 1) c.2.2.2.2.2.1 c.2.2.2.2.2.2 c.2.1 c.2.2.1 c.2.2.2.1 else loT0 a b c.2.2.2.2.1 c.2.2.2.2.2.1 c.2.2.2.2.2.2 c.2.1 c.2.2.1 c.2.2.2.1
/-- behind the first loop -/
noncomputable def loC (a b : Array Keyed) (mg : Nat) (r : Lo1) : StateT SortSt Sem (ForInStep Lo9) :=
  match r.1 with
  | some q => pure (.done (some q, r.2.1, r.2.2.1, r.2.2.2.1, mg))
  | none => do
    liftM (rule "list.sort.gallop")
    let q ← forIn [:a.size + b.size] ((none, r.2.1, r.2.2.1, r.2.2.2.1, mg + 1, r.2.2.2.2.1, r.2.2.2.2.2) : LoS) fun _ c => loB2 a b c
    match q.1 with
    | some y => pure (.done (some y, q.2.1, q.2.2.1, q.2.2.2.1, q.2.2.2.2.1))
    | none => do
      setMinGallop' (q.2.2.2.2.1 + 1)
      pure (.yield (none, q.2.1, q.2.2.1, q.2.2.2.1, q.2.2.2.2.1 + 1))
/-- a turn of the outer loop -/
noncomputable def loB (a b : Array Keyed) (c : Lo9) : StateT SortSt Sem (ForInStep Lo9) := do
  let r ← forIn [:a.size + b.size] ((none, c.2.1, c.2.2.1, c.2.2.2.1, 0, 0) : Lo1) fun _ r => loB1 a b c.2.2.2.2 r
  loC a b c.2.2.2.2 r
noncomputable def loAll (a b : Array Keyed) : StateT SortSt Sem (Array Keyed) := do
  liftM (rule "list.sort.merge-lo")
  let x ← elem' b 0
  if 1 == b.size then pure (#[x] ++ a.extract 0 ++ b.extract 1)
  else if 0 + 1 == a.size then pure (#[x] ++ b.extract 1 ++ a.extract 0)
  else do
    let st ← get
    let c ← forIn [:a.size + b.size] ((none, #[x], 0, 1, gallopOf st) : Lo9) fun _ c => loB a b c
    match c.1 with
    | some r => pure r
    | none => liftM (unsupported "internal:list.sort.merge-bound")
/-- what a turn leaves; X: what has been taken -/
def Lo1Q (a b : Array Keyed) (st : SortSt) (X : Nat) (c : Lo1) (st' : SortSt) : Prop := Same st st' ∧ ((∃ r o, c = (some r, o) ∧ Good a b r) ∨ ∃ out ia ib ac bc, c = (none, out, ia, ib, ac, bc) ∧ PLo a b out ia ib ∧ X ≤ ia + ib)
def Lo1I (a b : Array Keyed) (st : SortSt) (X : Nat) (c : Lo1) (st' : SortSt) : Prop := Same st st' ∧ ∃ out ia ib ac bc, c = (none, out, ia, ib, ac, bc) ∧ PLo a b out ia ib ∧ X ≤ ia + ib
def LoSQ (a b : Array Keyed) (st : SortSt) (X : Nat) (c : LoS) (st' : SortSt) : Prop := Same st st' ∧ ((∃ r o, c = (some r, o) ∧ Good a b r) ∨ ∃ out ia ib mg ac bc, c = (none, out, ia, ib, mg, ac, bc) ∧ PLo a b out ia ib ∧ X ≤ ia + ib)
def LoSI (a b : Array Keyed) (st : SortSt) (X : Nat) (c : LoS) (st' : SortSt) : Prop := Same st st' ∧ ∃ out ia ib mg ac bc, c = (none, out, ia, ib, mg, ac, bc) ∧ PLo a b out ia ib ∧ X ≤ ia + ib
def Lo9Q (a b : Array Keyed) (st : SortSt) (c : Lo9) (st' : SortSt) : Prop := Same st st' ∧ ∃ r o, c = (some r, o) ∧ Good a b r
def Lo9I (a b : Array Keyed) (st : SortSt) (X : Nat) (c : Lo9) (st' : SortSt) : Prop := Same st st' ∧ ∃ out ia ib mg, c = (none, out, ia, ib, mg) ∧ PLo a b out ia ib ∧ X + 1 ≤ ia + ib
section loops
variable {a b : Array Keyed} {st st2 : SortSt} {X mg : Nat}
theorem loB1_ok {y : Nat} {c : Lo1} (hk : kindOf st = oneType') (hIa : ∀ p ∈ a.toList, IsI p) (hIb : ∀ p ∈ b.toList, IsI p) (hl : LeL b.toList (dr a (a.size - 1))) (hX : X ≤ y + 1) (h : Lo1I a b st y c st2) :
    wpS (model prog w) A E s (loB1 a b mg c) (StepQ (Lo1Q a b st X) (Lo1I a b st (y + 1))) st2 := by
  obtain ⟨hS2, out, ia, ib, ac, bc, rfl, ⟨i2, p1, p2⟩, hy1⟩ := h
  have p3 : ia < a.size := Nat.lt_of_succ_lt p1
  refine wpS_bind (wpS_elem2 p2 ?_)
  refine wpS_bind (wpS_elem2 p3 ?_)
  refine wpS_bind (wpS_lt2 (hS2.kind.trans hk) (hIb _ (by simp)) (hIa _ (by simp)) ?_)
  dsimp only
  refine wpS_if (fun hw => ?_) fun hw => ?_
  · have i3 := i2.pushB p2 (le_head i2.sa (dr_cons p3) (Int.le_of_lt (of_decide_eq_true hw)))
    refine wpS_bind (wpS_elem2 p2 ?_)
    refine wpS_ifb (fun e1 => wpS_pure ⟨hS2, .inl ⟨_, _, rfl, i3.finAB (lo_nilB e1)⟩⟩) fun e1 => ?_
    have P : PLo a b (out.push b[ib]) ia (ib + 1) := ⟨i3, p1, Nat.lt_of_le_of_ne p2 e1⟩
    have hy2 : y + 1 ≤ ia + (ib + 1) := Nat.succ_le_succ hy1
    exact wpS_if (fun _ => wpS_pure ⟨hS2, .inr ⟨_, _, _, _, _, rfl, P, Nat.le_trans hX hy2⟩⟩) (fun _ => wpS_pure ⟨hS2, _, _, _, _, _, rfl, P, hy2⟩)
  · have i3 := i2.pushA p3 (le_head i2.sb (dr_cons p2) (Int.not_lt.mp (of_decide_eq_false (Bool.eq_false_iff.mpr hw))))
    refine wpS_bind (wpS_elem2 p3 ?_)
    refine wpS_ifb (fun e1 => wpS_pure ⟨hS2, .inl ⟨_, _, rfl, i3.finBA (lo_last hl e1)⟩⟩) fun e1 => ?_
    have P : PLo a b (out.push a[ia]) (ia + 1) ib := ⟨i3, Nat.lt_of_le_of_ne p1 e1, p2⟩
    have hy2 : y + 1 ≤ ia + 1 + ib := by rw [Nat.add_right_comm]; exact Nat.succ_le_succ hy1
    exact wpS_if (fun _ => wpS_pure ⟨hS2, .inr ⟨_, _, _, _, _, rfl, P, Nat.le_trans hX hy2⟩⟩) (fun _ => wpS_pure ⟨hS2, _, _, _, _, _, rfl, P, hy2⟩)
theorem loB2_ok {c : LoS} (hk : kindOf st = oneType') (hIa : ∀ p ∈ a.toList, IsI p) (hIb : ∀ p ∈ b.toList, IsI p) (sa : SortedL a.toList) (sb : SortedL b.toList) (hl : LeL b.toList (dr a (a.size - 1))) (h : LoSI a b st X c st2) :
    wpS (model prog w) A E s (loB2 a b c) (StepQ (LoSQ a b st X) (LoSI a b st X)) st2 := by
  obtain ⟨hS3, out, ia, ib, mg, ac, bc, rfl, ⟨i2, p1, p2⟩, hx3⟩ := h
  have key := fun mg => loT0_ok (X := X) (mg := mg) (ac := ac) (bc := bc) (A := A) (E := E) (s := s) (prog := prog) (w := w) hk hIa hIb sa sb hl hS3 i2 p1 p2 hx3
  refine wpS_mono (wpS_if (fun _ => key (mg - 1)) (fun _ => key mg)) fun r st' h => ?_
  cases r
  · exact h
  · exact h
theorem loB_ok {x : Nat} {c : Lo9} (hk : kindOf st = oneType') (hIa : ∀ p ∈ a.toList, IsI p) (hIb : ∀ p ∈ b.toList, IsI p) (sa : SortedL a.toList) (sb : SortedL b.toList) (hl : LeL b.toList (dr a (a.size - 1))) (hz : 1 ≤ a.size + b.size) (h : Lo9I a b st x c st2) :
    wpS (model prog w) A E s (loB a b c) (StepQ (Lo9Q a b st) (Lo9I a b st (x + 1))) st2 := by
  obtain ⟨hS1, out, ia, ib, mg, rfl, hP, hx1⟩ := h
  refine wpS_bind (wpS_mono (wpS_range (I := fun y => Lo1I a b st (x + 1 + y)) (Q := Lo1Q a b st (x + 2)) (fun y c st' h => loB1_ok hk hIa hIb hl (Nat.add_le_add_left (Nat.le_add_left 1 y) _ ) h) (fun c st' h => ?_) ⟨hS1, _, _, _, _, _, rfl, hP, hx1⟩) ?_)
  · obtain ⟨hS, out, ia, ib, ac, bc, rfl, hP, h3⟩ := h
    exact ⟨hS, .inr ⟨_, _, _, _, _, rfl, hP, Nat.le_trans (Nat.add_le_add_left hz _) h3⟩⟩
  · rintro c st2 ⟨hS2, ⟨r, o, rfl, hG⟩ | ⟨out, ia, ib, ac, bc, rfl, hP, hx2⟩⟩
    · exact wpS_pure ⟨hS2, _, _, rfl, hG⟩
    refine wpS_bind (wpS_lift (wpAny_rule ⟨rfl, ?_⟩))
    refine wpS_bind (wpS_mono (wpS_range (I := fun _ => LoSI a b st (x + 2)) (Q := LoSQ a b st (x + 2)) (fun y c st' h => loB2_ok hk hIa hIb sa sb hl h) (fun c st' h => ?_) ⟨hS2, _, _, _, _, _, _, rfl, hP, hx2⟩) ?_)
    · exact ⟨h.1, .inr h.2⟩
    · rintro c st3 ⟨hS3, ⟨r, o, rfl, hG⟩ | ⟨out, ia, ib, mg, ac, bc, rfl, hP, hx2⟩⟩
      · exact wpS_pure ⟨hS3, _, _, rfl, hG⟩
      refine wpS_bind (wpS_setGallop fun st4 hS4 => ?_)
      exact wpS_pure ⟨hS3.trans hS4, _, _, _, _, rfl, hP, hx2⟩
end loops
theorem loAll_ok {a b : Array Keyed} {st : SortSt} {Q : Array Keyed → SortSt → Prop} (hk : kindOf st = oneType') (hIa : ∀ p ∈ a.toList, IsI p) (hIb : ∀ p ∈ b.toList, IsI p) (ha : 0 < a.size) (hb : 0 < b.size)
    (sa : SortedL a.toList) (sb : SortedL b.toList) (hl : LeL b.toList (dr a (a.size - 1))) (h0 : LeL [b[0]] a.toList)
    (h : ∀ r st', Same st st' → Good a b r → Q r st') : wpS (model prog w) A E s (loAll a b) Q st := by
  have i0 : MInv (a.toList ++ b.toList) (#[] : Array Keyed).toList (dr a 0) (dr b 0) := ⟨by simp [dr], .nil, (fun _ h => nomatch h), (fun _ h => nomatch h), sa, sb⟩
  have i1 := i0.pushB hb h0
  refine wpS_bind (wpS_lift (wpAny_rule ⟨rfl, ?_⟩))
  refine wpS_bind (wpS_elem2 hb ?_)
  refine wpS_ifb (fun e => wpS_pure (h _ _ (Same.rfl' st) (i1.finAB (lo_nilB e)))) fun hb1 => ?_
  refine wpS_ifb (fun e => wpS_pure (h _ _ (Same.rfl' st) (i1.finBA (lo_last hl e)))) fun ha1 => ?_
  refine wpS_bind (wpS_get ?_)
  refine wpS_bind (wpS_mono (wpS_range (I := Lo9I a b st) (Q := Lo9Q a b st) (fun x c st' h => loB_ok hk hIa hIb sa sb hl (Nat.le_trans hb (Nat.le_add_left _ _)) h) ?_
    ⟨Same.rfl' st, _, 0, 1, _, rfl, ⟨i1, Nat.lt_of_le_of_ne ha ha1, Nat.lt_of_le_of_ne hb hb1⟩, Nat.le_refl _⟩) ?_)
  · rintro c st' ⟨hS, out, ia, ib, mg, rfl, ⟨_, h1, h2⟩, h3⟩
    (first | lia | omega)
  · rintro c st' ⟨hS, r, o, rfl, hG⟩
    exact wpS_pure (h _ _ hS hG)
theorem mergeLo_eq (a b : Array Keyed) : mergeLo' a b = loAll a b := by kernel_rfl
set_option maxHeartbeats 4000000 in
theorem wpS_mergeLo {a b : Array Keyed} {st : SortSt} {Q : Array Keyed → SortSt → Prop} (hk : kindOf st = oneType') (hIa : ∀ p ∈ a.toList, IsI p) (hIb : ∀ p ∈ b.toList, IsI p) (ha : 0 < a.size) (hb : 0 < b.size)
    (sa : SortedL a.toList) (sb : SortedL b.toList) (hl : LeL b.toList (dr a (a.size - 1))) (h0 : LeL [b[0]] a.toList)
    (h : ∀ r st', Same st st' → Good a b r → Q r st') : wpS (model prog w) A E s (mergeLo' a b) Q st :=
  (mergeLo_eq a b).symm ▸ loAll_ok hk hIa hIb ha hb sa sb hl h0 h
end ts
end
section
open PySem PyProof.Rows
abbrev GeL (l r : List Keyed) : Prop := ∀ x ∈ l, ∀ y ∈ r, kk y ≤ kk x
abbrev SortedG (l : List Keyed) : Prop := l.Pairwise (fun x y => kk y ≤ kk x)
/-- between the turns of a merge from the end: the lists backwards -/
structure HInv (all out a b : List Keyed) : Prop where
  perm : (out ++ (a ++ b)).Perm all
  so : SortedG out
  oa : GeL out a
  ob : GeL out b
  sa : SortedG a
  sb : SortedG b
theorem HInv.symm {all out a b : List Keyed} (h : HInv all out a b) : HInv all out b a :=
  ⟨((List.perm_append_comm).append_left out).trans h.perm, h.so, h.ob, h.oa, h.sb, h.sa⟩
theorem HInv.takeA {all out a1 a2 b : List Keyed} (h : HInv all out (a1 ++ a2) b) (k : GeL a1 b) : HInv all (out ++ a1) a2 b := by
  obtain ⟨p, so, oa, ob, sa, sb⟩ := h
  obtain ⟨s1, s2, s3⟩ := List.pairwise_append.mp sa
  refine ⟨by simpa only [List.append_assoc] using p, List.pairwise_append.mpr ⟨so, s1, fun x hx y hy => oa x hx y (List.mem_append_left _ hy)⟩, fun x hx y hy => ?_, fun x hx y hy => ?_, s2, sb⟩
  · rcases List.mem_append.mp hx with hx | hx
    · exact oa x hx y (List.mem_append_right _ hy)
    · exact s3 x hx y hy
  · rcases List.mem_append.mp hx with hx | hx
    · exact ob x hx y hy
    · exact k x hx y hy
theorem HInv.takeB {all out a b1 b2 : List Keyed} (h : HInv all out a (b1 ++ b2)) (k : GeL b1 a) : HInv all (out ++ b1) a b2 := (h.symm.takeA k).symm
theorem HInv.doneA {all out a b : List Keyed} (h : HInv all out a b) (k : GeL a b) : (out ++ a ++ b).Perm all ∧ SortedG (out ++ a ++ b) := by
  have h1 := (show HInv all out (a ++ []) b by rw [List.append_nil]; exact h).takeA k
  have h2 := (show HInv all (out ++ a) [] (b ++ []) by rw [List.append_nil]; exact h1).takeB (fun _ _ _ hy => nomatch hy)
  exact ⟨by simpa using h2.perm, h2.so⟩
theorem HInv.doneB {all out a b : List Keyed} (h : HInv all out a b) (k : GeL b a) : (out ++ b ++ a).Perm all ∧ SortedG (out ++ b ++ a) := h.symm.doneA k
noncomputable abbrev rt (a : Array Keyed) (i : Nat) : List Keyed := (a.toList.take i).reverse
theorem rt_cons {a : Array Keyed} {i : Nat} (h : i < a.size) : rt a (i + 1) = a[i] :: rt a i := by
  show (a.toList.take (i + 1)).reverse = _
  rw [List.take_succ_eq_append_getElem (by simpa using h), List.reverse_append]
  rfl
theorem ext_rt (a : Array Keyed) (i : Nat) : (a.extract 0 i).toList = (rt a i).reverse := by
  rw [Array.toList_extract, List.reverse_reverse]
  show List.take (i - 0) (List.drop 0 a.toList) = _
  rfl
theorem ext_radd {a : Array Keyed} {i k : Nat} (h : k ≤ i) : rt a i = (a.extract k i).reverse.toList ++ rt a k := by
  rw [Array.toList_reverse, Array.toList_extract]
  show (a.toList.take i).reverse = (List.take (i - k) (List.drop k a.toList)).reverse ++ _
  rw [← List.reverse_append, ← List.take_add, show k + (i - k) = i by (first | lia | omega)]
theorem rt_zero {a : Array Keyed} {i : Nat} (h : i = 0) : rt a i = [] := by subst h; rfl
theorem rt_sub {a : Array Keyed} {i : Nat} {x : Keyed} (h : x ∈ rt a i) : x ∈ a.toList := List.mem_of_mem_take (List.mem_reverse.mp h)
theorem rt_sorted {a : Array Keyed} (sa : SortedL a.toList) (i : Nat) : SortedG (rt a i) := List.pairwise_reverse.mpr (sa.sublist (List.take_sublist _ _))
theorem ge_head {l : List Keyed} {x y : Keyed} {r : List Keyed} (s : SortedG l) (e : l = y :: r) (h : kk y ≤ kk x) : GeL [x] l := by
  subst e
  intro z hz u hu
  rw [List.mem_singleton.mp hz]
  rcases List.mem_cons.mp hu with rfl | hu
  · exact h
  · exact Int.le_trans ((List.pairwise_cons.mp s).1 u hu) h
section steps
variable {a b out : Array Keyed} {na nb k : Nat} {all : List Keyed}
theorem HInv.pushB (h : HInv all out.toList (rt a na) (rt b (nb + 1))) (hb : nb < b.size) (k : GeL [b[nb]] (rt a na)) : HInv all (out.push b[nb]).toList (rt a na) (rt b nb) := by
  rw [Array.toList_push]
  rw [rt_cons hb] at h
  exact HInv.takeB (b1 := [b[nb]]) h k
theorem HInv.pushA (h : HInv all out.toList (rt a (na + 1)) (rt b nb)) (ha : na < a.size) (k : GeL [a[na]] (rt b nb)) : HInv all (out.push a[na]).toList (rt a na) (rt b nb) := by
  rw [Array.toList_push]
  rw [rt_cons ha] at h
  exact HInv.takeA (a1 := [a[na]]) h k
theorem HInv.blockA (h : HInv all out.toList (rt a na) (rt b nb)) (hk : k ≤ na) (q : GeL (a.extract k na).reverse.toList (rt b nb)) : HInv all (out ++ (a.extract k na).reverse).toList (rt a k) (rt b nb) := by
  rw [Array.toList_append]
  rw [ext_radd hk] at h
  exact HInv.takeA h q
theorem HInv.blockB (h : HInv all out.toList (rt a na) (rt b nb)) (hk : k ≤ nb) (q : GeL (b.extract k nb).reverse.toList (rt a na)) : HInv all (out ++ (b.extract k nb).reverse).toList (rt a na) (rt b k) := by
  rw [Array.toList_append]
  rw [ext_radd hk] at h
  exact HInv.takeB h q
theorem HInv.finAB (h : HInv all out.toList (rt a na) (rt b nb)) (q : GeL (rt b nb) (rt a na)) : (a.extract 0 na ++ b.extract 0 nb ++ out.reverse).toList.Perm all ∧ SortedL (a.extract 0 na ++ b.extract 0 nb ++ out.reverse).toList := by
  rw [Array.toList_append, Array.toList_append, ext_rt, ext_rt, Array.toList_reverse]
  have e : (rt a na).reverse ++ (rt b nb).reverse ++ out.toList.reverse = (out.toList ++ rt b nb ++ rt a na).reverse := by simp only [List.reverse_append, List.append_assoc]
  rw [e]
  obtain ⟨p, s⟩ := h.doneB q
  exact ⟨(List.reverse_perm _).trans p, List.pairwise_reverse.mpr s⟩
theorem HInv.finBA (h : HInv all out.toList (rt a na) (rt b nb)) (q : GeL (rt a na) (rt b nb)) : (b.extract 0 nb ++ a.extract 0 na ++ out.reverse).toList.Perm all ∧ SortedL (b.extract 0 nb ++ a.extract 0 na ++ out.reverse).toList := by
  rw [Array.toList_append, Array.toList_append, ext_rt, ext_rt, Array.toList_reverse]
  have e : (rt b nb).reverse ++ (rt a na).reverse ++ out.toList.reverse = (out.toList ++ rt a na ++ rt b nb).reverse := by simp only [List.reverse_append, List.append_assoc]
  rw [e]
  obtain ⟨p, s⟩ := h.doneA q
  exact ⟨(List.reverse_perm _).trans p, List.pairwise_reverse.mpr s⟩
theorem rext_mem {a : Array Keyed} {i k : Nat} {x : Keyed} (h : x ∈ (a.extract k i).reverse.toList) : ∃ j, k ≤ j ∧ j < i ∧ j < a.size ∧ kk x = K a j := by
  rw [Array.toList_reverse] at h
  obtain ⟨j, hj, e⟩ := List.mem_iff_getElem.mp (List.mem_reverse.mp h)
  have h1 : j < min (i - k) (a.size - k) := by simpa using hj
  refine ⟨k + j, by (first | lia | omega), by (first | lia | omega), by (first | lia | omega), ?_⟩
  rw [K_get (by (first | lia | omega)), ← e]
  simp
theorem ge_block {a b : Array Keyed} {na nb k : Nat} (sb : SortedG (rt b (nb + 1))) (hb : nb < b.size) (h : ∀ i, k ≤ i → i < na → kk b[nb] ≤ K a i) : GeL (a.extract k na).reverse.toList (rt b (nb + 1)) := by
  intro x hx y hy
  obtain ⟨j, h1, h2, _, h3⟩ := rext_mem hx
  have h4 := h j h1 h2
  rw [← h3] at h4
  exact ge_head sb (rt_cons hb) h4 x (by simp) y hy
theorem ge_rest {a : Array Keyed} {i : Nat} {x : Keyed} (sa : SortedG (rt a i)) (hi : i ≤ a.size) (h : ∀ j, j + 1 = i → K a j ≤ kk x) : GeL [x] (rt a i) := by
  cases i with
  | zero => intro _ _ _ hy; nomatch hy
  | succ j =>
    have := h j rfl
    rw [K_get (by (first | lia | omega))] at this
    exact ge_head sa (rt_cons (by (first | lia | omega))) this
end steps
structure PHi (a b out : Array Keyed) (na nb : Nat) : Prop where
  inv : HInv (a.toList ++ b.toList) out.toList (rt a (na + 1)) (rt b (nb + 1 + 1))
  ha : na + 1 ≤ a.size
  hb : nb + 1 + 1 ≤ b.size
noncomputable def mergeHi' : Array Keyed → Array Keyed → StateT SortSt Sem (Array Keyed) := sortPriv% PySem.Builtin.mergeHi
section ts
variable {prog : Program} {w : World} {A : Around} {E : Value → Shared → Prop} {s : Shared}
noncomputable abbrev HiS := Option (Array Keyed) × Nat × Nat × Array Keyed × Nat × Nat × Nat
/-- the last part of a turn of the gallop; na: one less than a's rest -/
noncomputable def hiT2 (a b : Array Keyed) (mg k m na nb : Nat) (out : Array Keyed) : StateT SortSt Sem (ForInStep HiS) := do
  let y ← elem' a na
  if na == 0 then pure (.done (some (a.extract 0 na ++ b.extract 0 nb ++ (out.push y).reverse), na, nb, out.push y, mg, k, m))
  else if decide (k < 7) && decide (m < 7) then pure (.done (none, na, nb, out.push y, mg, k, m)) else pure (.yield (none, na, nb, out.push y, mg, k, m))
/-- behind a's block; nb: one less than b's rest -/
noncomputable def hiT1 (a b : Array Keyed) (mg k bc na nb : Nat) (out : Array Keyed) : StateT SortSt Sem (ForInStep HiS) := do
  let x ← elem' b nb
  if nb == 1 then pure (.done (some (b.extract 0 nb ++ a.extract 0 na ++ (out.push x).reverse), na, nb, out.push x, mg, k, bc))
  else do
    let y ← elem' a (na - 1)
    let some m ← gallop' true y b 0 nb (nb - 1) | pure (.done (some (a.extract 0 na ++ b.extract 0 nb ++ (out.push x).reverse), na, nb, out.push x, mg, k, bc))
    if nb - m > 0 then
      if m == 1 then pure (.done (some (b.extract 0 m ++ a.extract 0 na ++ (out.push x ++ (b.extract m nb).reverse).reverse), na, m, out.push x ++ (b.extract m nb).reverse, mg, k, nb - m))
      else if m == 0 then pure (.done (some (a.extract 0 na ++ b.extract 0 m ++ (out.push x ++ (b.extract m nb).reverse).reverse), na, m, out.push x ++ (b.extract m nb).reverse, mg, k, nb - m))
      else hiT2 a b mg k (nb - m) (na - 1) m (out.push x ++ (b.extract m nb).reverse)
    else hiT2 a b mg k (nb - m) (na - 1) nb (out.push x)
/-- a turn of the gallop -/
noncomputable def hiT0 (a b : Array Keyed) (mg ac bc na nb : Nat) (out : Array Keyed) : StateT SortSt Sem (ForInStep HiS) := do
  setMinGallop' mg
  let x ← elem' b (nb - 1)
  let some k ← gallop' false x a 0 na (na - 1) | pure (.done (some (a.extract 0 na ++ b.extract 0 nb ++ out.reverse), na, nb, out, mg, ac, bc))
  if na - k > 0 then
    if k == 0 then pure (.done (some (a.extract 0 k ++ b.extract 0 nb ++ (out ++ (a.extract k na).reverse).reverse), k, nb, out ++ (a.extract k na).reverse, mg, na - k, bc))
    else hiT1 a b mg (na - k) bc k (nb - 1) (out ++ (a.extract k na).reverse)
  else hiT1 a b mg (na - k) bc na (nb - 1) out
def HiSQ (a b : Array Keyed) (st : SortSt) (X : Nat) (c : HiS) (st' : SortSt) : Prop := Same st st' ∧ ((∃ r o, c = (some r, o) ∧ Good a b r) ∨ ∃ na nb out mg ac bc, c = (none, na + 1, nb + 1 + 1, out, mg, ac, bc) ∧ PHi a b out na nb ∧ X + (na + 1 + (nb + 1 + 1)) ≤ a.size + b.size)
def HiSI (a b : Array Keyed) (st : SortSt) (X : Nat) (c : HiS) (st' : SortSt) : Prop := Same st st' ∧ ∃ na nb out mg ac bc, c = (none, na + 1, nb + 1 + 1, out, mg, ac, bc) ∧ PHi a b out na nb ∧ X + (na + 1 + (nb + 1 + 1)) ≤ a.size + b.size
abbrev HiTQ (a b : Array Keyed) (st : SortSt) (X : Nat) : ForInStep HiS → SortSt → Prop := StepQ (HiSQ a b st X) (HiSI a b st X)
theorem HiTQ.fin {a b r : Array Keyed} {st st' : SortSt} {X : Nat} {o} (h : Same st st') (g : Good a b r) : HiTQ a b st X (.done (some r, o)) st' := ⟨h, .inl ⟨_, _, rfl, g⟩⟩
theorem hi_last {a b : Array Keyed} (h0 : GeL a.toList (rt b 1)) {na nb : Nat} (e : nb = 1) : GeL (rt a na) (rt b nb) := by
  intro x hx y hy
  subst e
  exact h0 x (rt_sub hx) y hy
theorem hi_nil {a b : Array Keyed} {na nb : Nat} (e : na = 0) : GeL (rt b nb) (rt a na) := by
  intro x hx y hy
  rw [rt_zero e] at hy
  nomatch hy
section tail
variable {a b : Array Keyed} {st st5 : SortSt} {X mg k bc : Nat}
theorem hiT2_ok {out : Array Keyed} {m na nb : Nat} (hS : Same st st5) (i5 : HInv (a.toList ++ b.toList) out.toList (rt a (na + 1)) (rt b (nb + 1 + 1))) (q1 : na < a.size) (p : nb + 1 + 1 ≤ b.size)
    (j4 : GeL [a[na]] (rt b (nb + 1 + 1))) (hX : X + (na + (nb + 1 + 1)) ≤ a.size + b.size) : wpS (model prog w) A E s (hiT2 a b mg k m na (nb + 1 + 1) out) (HiTQ a b st X) st5 := by
  have i6 := i5.pushA q1 j4
  refine wpS_bind (wpS_elem2 q1 ?_)
  refine wpS_ifb (fun e => wpS_pure (HiTQ.fin hS (i6.finAB (hi_nil e)))) fun e => ?_
  obtain ⟨na2, rfl⟩ := Nat.exists_eq_succ_of_ne_zero e
  have P : PHi a b (out.push a[na2.succ]) na2 nb := ⟨i6, Nat.le_of_lt q1, p⟩
  exact wpS_if (fun _ => wpS_pure ⟨hS, .inr ⟨_, _, _, _, _, _, rfl, P, hX⟩⟩) (fun _ => wpS_pure ⟨hS, _, _, _, _, _, _, rfl, P, hX⟩)
theorem hiT1_ok {out : Array Keyed} {na nb : Nat} (hk : kindOf st = oneType') (hIa : ∀ p ∈ a.toList, IsI p) (hIb : ∀ p ∈ b.toList, IsI p) (sb : SortedL b.toList) (h0 : GeL a.toList (rt b 1))
    (hS : Same st st5) (i3 : HInv (a.toList ++ b.toList) out.toList (rt a (na + 1)) (rt b (nb + 1 + 1))) (q1 : na < a.size) (p4 : nb + 1 < b.size) (j2 : GeL [b[nb + 1]] (rt a (na + 1))) (hX : X + (na + (nb + 1)) ≤ a.size + b.size) :
    wpS (model prog w) A E s (hiT1 a b mg k bc (na + 1) (nb + 1) out) (HiTQ a b st X) st5 := by
  have i4 := i3.pushB p4 j2
  refine wpS_bind (wpS_elem2 p4 ?_)
  refine wpS_ifb (fun e => wpS_pure (HiTQ.fin hS (i4.finBA (hi_last h0 e)))) fun e => ?_
  refine wpS_bind (wpS_elem2 (i := na) q1 ?_)
  refine wpS_bind (wpS_gallop (hint := nb) (hS.kind.trans hk) (hIa _ (by simp)) hIb (by rw [Nat.zero_add]; exact Nat.le_of_lt p4) (Nat.lt_succ_self _) (fun i j h1 h2 => K_sorted sb (Nat.add_le_add_left h1 _) (by rw [Nat.zero_add]; exact Nat.lt_trans h2 p4)) ?_)
  intro m m1 m2 m3
  dsimp only
  simp only [bey, if_true, decide_eq_true_eq, decide_eq_false_iff_not, Nat.zero_add] at m2 m3
  have j4 : GeL [a[na]] (rt b m) := ge_rest (rt_sorted sb _) (Nat.le_trans m1 (Nat.le_of_lt p4)) fun j e => Int.le_of_lt (m2 j (e ▸ Nat.lt_succ_self j))
  refine wpS_if (fun m0 => ?_) fun m0 => ?_
  · have i5 := i4.blockB (k := m) m1 (ge_block i4.sa q1 fun i h1 h2 => Int.not_lt.mp (m3 i h1 h2))
    refine wpS_ifb (fun e4 => wpS_pure (HiTQ.fin hS (i5.finBA (hi_last h0 e4)))) fun e4 => ?_
    refine wpS_ifb (fun e4 => wpS_pure (HiTQ.fin hS (i5.finAB (fun x hx y hy => by rw [rt_zero e4] at hx; nomatch hx)))) fun e5 => ?_
    obtain ⟨m', rfl⟩ : ∃ m', m = m' + 1 + 1 := ⟨m - 2, by (first | lia | omega)⟩
    exact hiT2_ok hS i5 q1 (Nat.le_trans m1 (Nat.le_of_lt p4)) j4 (Nat.le_trans (Nat.add_le_add_left (Nat.add_le_add_left m1 _) _) hX)
  · have m9 : m = nb + 1 := Nat.le_antisymm m1 (Nat.sub_eq_zero_iff_le.mp (Nat.eq_zero_of_not_pos m0))
    subst m9
    obtain ⟨nb', rfl⟩ := Nat.exists_eq_succ_of_ne_zero (fun h => e (congrArg (· + 1) h))
    exact hiT2_ok hS i4 q1 (Nat.le_of_lt p4) j4 hX
theorem hiT0_ok {out : Array Keyed} {ac na nb : Nat} (hk : kindOf st = oneType') (hIa : ∀ p ∈ a.toList, IsI p) (hIb : ∀ p ∈ b.toList, IsI p) (sa : SortedL a.toList) (sb : SortedL b.toList) (h0 : GeL a.toList (rt b 1))
    (hS : Same st st5) (i2 : HInv (a.toList ++ b.toList) out.toList (rt a (na + 1)) (rt b (nb + 1 + 1))) (p1 : na + 1 ≤ a.size) (p2 : nb + 1 + 1 ≤ b.size) (hX : X + (na + 1 + (nb + 1 + 1)) ≤ a.size + b.size) :
    wpS (model prog w) A E s (hiT0 a b mg ac bc (na + 1) (nb + 1 + 1) out) (HiTQ a b st X) st5 := by
  refine wpS_bind (wpS_setGallop fun st4 hS4 => ?_)
  have hS5 := hS.trans hS4
  refine wpS_bind (wpS_elem2 (i := nb + 1) p2 ?_)
  refine wpS_bind (wpS_gallop (hint := na) (hS5.kind.trans hk) (hIb _ (by simp)) hIa (by rw [Nat.zero_add]; exact p1) (Nat.lt_succ_self _) (fun i j h1 h2 => K_sorted sa (Nat.add_le_add_left h1 _) (by rw [Nat.zero_add]; exact Nat.lt_of_lt_of_le h2 p1)) ?_)
  intro k k1 k2 k3
  dsimp only
  simp only [bey, Bool.false_eq_true, if_false, decide_eq_true_eq, decide_eq_false_iff_not, Nat.zero_add] at k2 k3
  have j2 : GeL [b[nb + 1]] (rt a k) := ge_rest (rt_sorted sa _) (Nat.le_trans k1 p1) fun j e => k2 j (e ▸ Nat.lt_succ_self j)
  refine wpS_if (fun k0 => ?_) fun k0 => ?_
  · have i3 := i2.blockA (k := k) k1 (ge_block i2.sb p2 fun i h1 h2 => Int.le_of_lt (Int.not_le.mp (k3 i h1 h2)))
    refine wpS_ifb (fun e2 => wpS_pure (HiTQ.fin hS5 (i3.finAB (hi_nil e2)))) fun e2 => ?_
    obtain ⟨k', rfl⟩ := Nat.exists_eq_succ_of_ne_zero e2
    exact hiT1_ok hk hIa hIb sb h0 hS5 i3 (Nat.le_trans k1 p1) p2 j2 (by (first | lia | omega))
  · have k9 : k = na + 1 := Nat.le_antisymm k1 (Nat.sub_eq_zero_iff_le.mp (Nat.eq_zero_of_not_pos k0))
    subst k9
    exact hiT1_ok hk hIa hIb sb h0 hS5 i2 p1 p2 j2 (by (first | lia | omega))
end tail
noncomputable abbrev Hi1 := Option (Array Keyed) × Nat × Nat × Array Keyed × Nat × Nat
noncomputable abbrev Hi9 := Option (Array Keyed) × Nat × Nat × Array Keyed × Nat
/-- a turn of the first loop; na, nb: one less -/
noncomputable def hiB0 (a b : Array Keyed) (mg na nb : Nat) (out : Array Keyed) (ac bc : Nat) : StateT SortSt Sem (ForInStep Hi1) := do
  let some aWins ← lt' (← elem' b (nb - 1)) (← elem' a (na - 1)) | pure (.done (some (a.extract 0 na ++ b.extract 0 nb ++ out.reverse), na, nb, out, ac, bc))
  if aWins then do
    let z ← elem' a (na - 1)
    if na - 1 == 0 then pure (.done (some (a.extract 0 (na - 1) ++ b.extract 0 nb ++ (out.push z).reverse), na - 1, nb, out.push z, ac + 1, 0))
    else if ac + 1 ≥ mg then pure (.done (none, na - 1, nb, out.push z, ac + 1, 0)) else pure (.yield (none, na - 1, nb, out.push z, ac + 1, 0))
  else do
    let z ← elem' b (nb - 1)
    if nb - 1 == 1 then pure (.done (some (b.extract 0 (nb - 1) ++ a.extract 0 na ++ (out.push z).reverse), na, nb - 1, out.push z, 0, bc + 1))
    else if bc + 1 ≥ mg then pure (.done (none, na, nb - 1, out.push z, 0, bc + 1)) else pure (.yield (none, na, nb - 1, out.push z, 0, bc + 1))
noncomputable def hiB1 (a b : Array Keyed) (mg : Nat) (c : Hi1) : StateT SortSt Sem (ForInStep Hi1) := hiB0 a b mg c.2.1 c.2.2.1 c.2.2.2.1 c.2.2.2.2.1 c.2.2.2.2.2
/-- a turn of the second -/
noncomputable def hiB2 (a b : Array Keyed) (c : HiS) : StateT SortSt Sem (ForInStep HiS) :=
  if c.2.2.2.2.1 > 1 then hiT0 a b (c.2.2.2.2.1 - 1) c.2.2.2.2.2.1 c.2.2.2.2.2.2 c.2.1 c.2.2.1 c.2.2.2.1 else hiT0 a b c.2.2.2.2.1 c.2.2.2.2.2.1 c.2.2.2.2.2.2 c.2.1 c.2.2.1 c.2.2.2.1
/-- behind the first loop -/
noncomputable def hiC (a b : Array Keyed) (mg : Nat) (r : Hi1) : StateT SortSt Sem (ForInStep Hi9) :=
  match r.1 with
  | some q => pure (.done (some q, r.2.1, r.2.2.1, r.2.2.2.1, mg))
  | none => do
    liftM (rule "list.sort.gallop")
    let q ← forIn [:a.size + b.size] ((none, r.2.1, r.2.2.1, r.2.2.2.1, mg + 1, r.2.2.2.2.1, r.2.2.2.2.2) : HiS) fun _ c => hiB2 a b c
    match q.1 with
    | some y => pure (.done (some y, q.2.1, q.2.2.1, q.2.2.2.1, q.2.2.2.2.1))
    | none => do
      setMinGallop' (q.2.2.2.2.1 + 1)
      pure (.yield (none, q.2.1, q.2.2.1, q.2.2.2.1, q.2.2.2.2.1 + 1))
/-- a turn of the outer loop -/
noncomputable def hiB (a b : Array Keyed) (c : Hi9) : StateT SortSt Sem (ForInStep Hi9) := do
  let r ← forIn [:a.size + b.size] ((none, c.2.1, c.2.2.1, c.2.2.2.1, 0, 0) : Hi1) fun _ r => hiB1 a b c.2.2.2.2 r
  hiC a b c.2.2.2.2 r
noncomputable def hiAll (a b : Array Keyed) : StateT SortSt Sem (Array Keyed) := do
  liftM (rule "list.sort.merge-hi")
  let x ← elem' a (a.size - 1)
  if a.size - 1 == 0 then pure (a.extract 0 (a.size - 1) ++ b.extract 0 b.size ++ #[x].reverse)
  else if b.size == 1 then pure (b.extract 0 b.size ++ a.extract 0 (a.size - 1) ++ #[x].reverse)
  else do
    let st ← get
    let c ← forIn [:a.size + b.size] ((none, a.size - 1, b.size, #[x], gallopOf st) : Hi9) fun _ c => hiB a b c
    match c.1 with
    | some r => pure r
    | none => liftM (unsupported "internal:list.sort.merge-bound")
def Hi1Q (a b : Array Keyed) (st : SortSt) (X : Nat) (c : Hi1) (st' : SortSt) : Prop := Same st st' ∧ ((∃ r o, c = (some r, o) ∧ Good a b r) ∨ ∃ na nb out ac bc, c = (none, na + 1, nb + 1 + 1, out, ac, bc) ∧ PHi a b out na nb ∧ X + (na + 1 + (nb + 1 + 1)) ≤ a.size + b.size)
def Hi1I (a b : Array Keyed) (st : SortSt) (X : Nat) (c : Hi1) (st' : SortSt) : Prop := Same st st' ∧ ∃ na nb out ac bc, c = (none, na + 1, nb + 1 + 1, out, ac, bc) ∧ PHi a b out na nb ∧ X + (na + 1 + (nb + 1 + 1)) ≤ a.size + b.size
def Hi9Q (a b : Array Keyed) (st : SortSt) (c : Hi9) (st' : SortSt) : Prop := Same st st' ∧ ∃ r o, c = (some r, o) ∧ Good a b r
def Hi9I (a b : Array Keyed) (st : SortSt) (X : Nat) (c : Hi9) (st' : SortSt) : Prop := Same st st' ∧ ∃ na nb out mg, c = (none, na + 1, nb + 1 + 1, out, mg) ∧ PHi a b out na nb ∧ X + 1 + (na + 1 + (nb + 1 + 1)) ≤ a.size + b.size
section loops
variable {a b : Array Keyed} {st st2 : SortSt} {X mg : Nat}
theorem hiB1_ok {y : Nat} {c : Hi1} (hk : kindOf st = oneType') (hIa : ∀ p ∈ a.toList, IsI p) (hIb : ∀ p ∈ b.toList, IsI p) (h0 : GeL a.toList (rt b 1)) (hX : X ≤ y + 1) (h : Hi1I a b st y c st2) :
    wpS (model prog w) A E s (hiB1 a b mg c) (StepQ (Hi1Q a b st X) (Hi1I a b st (y + 1))) st2 := by
  obtain ⟨hS2, na, nb, out, ac, bc, rfl, ⟨i2, p1, p2⟩, hy1⟩ := h
  show wpS (model prog w) A E s (hiB0 a b mg (na + 1) (nb + 1 + 1) out ac bc) _ st2
  refine wpS_bind (wpS_elem2 (i := nb + 1) p2 ?_)
  refine wpS_bind (wpS_elem2 (i := na) p1 ?_)
  refine wpS_bind (wpS_lt2 (hS2.kind.trans hk) (hIb _ (by simp)) (hIa _ (by simp)) ?_)
  dsimp only
  refine wpS_if (fun hw => ?_) fun hw => ?_
  · have i3 := i2.pushA p1 (ge_head i2.sb (rt_cons p2) (Int.le_of_lt (of_decide_eq_true hw)))
    refine wpS_bind (wpS_elem2 (i := na) p1 ?_)
    refine wpS_ifb (fun e1 => wpS_pure ⟨hS2, .inl ⟨_, _, rfl, i3.finAB (hi_nil e1)⟩⟩) fun e1 => ?_
    obtain ⟨na2, rfl⟩ := Nat.exists_eq_succ_of_ne_zero (show na ≠ 0 from e1)
    have P : PHi a b (out.push a[na2.succ]) na2 nb := ⟨i3, Nat.le_of_lt p1, p2⟩
    have hy2 : y + 1 + (na2 + 1 + (nb + 1 + 1)) ≤ a.size + b.size := by (first | lia | omega)
    exact wpS_if (fun _ => wpS_pure ⟨hS2, .inr ⟨_, _, _, _, _, rfl, P, Nat.le_trans (Nat.add_le_add_right hX _) hy2⟩⟩) (fun _ => wpS_pure ⟨hS2, _, _, _, _, _, rfl, P, hy2⟩)
  · have i3 := i2.pushB p2 (ge_head i2.sa (rt_cons p1) (Int.not_lt.mp (of_decide_eq_false (Bool.eq_false_iff.mpr hw))))
    refine wpS_bind (wpS_elem2 (i := nb + 1) p2 ?_)
    refine wpS_ifb (fun e1 => wpS_pure ⟨hS2, .inl ⟨_, _, rfl, i3.finBA (hi_last h0 e1)⟩⟩) fun e1 => ?_
    obtain ⟨nb2, rfl⟩ := Nat.exists_eq_succ_of_ne_zero (fun h : nb = 0 => e1 (congrArg (· + 1) h))
    have P : PHi a b (out.push b[nb2.succ + 1]) na nb2 := ⟨i3, p1, Nat.le_of_lt p2⟩
    have hy2 : y + 1 + (na + 1 + (nb2 + 1 + 1)) ≤ a.size + b.size := by (first | lia | omega)
    exact wpS_if (fun _ => wpS_pure ⟨hS2, .inr ⟨_, _, _, _, _, rfl, P, Nat.le_trans (Nat.add_le_add_right hX _) hy2⟩⟩) (fun _ => wpS_pure ⟨hS2, _, _, _, _, _, rfl, P, hy2⟩)
theorem hiB2_ok {c : HiS} (hk : kindOf st = oneType') (hIa : ∀ p ∈ a.toList, IsI p) (hIb : ∀ p ∈ b.toList, IsI p) (sa : SortedL a.toList) (sb : SortedL b.toList) (h0 : GeL a.toList (rt b 1)) (h : HiSI a b st X c st2) :
    wpS (model prog w) A E s (hiB2 a b c) (HiTQ a b st X) st2 := by
  obtain ⟨hS3, na, nb, out, mg, ac, bc, rfl, ⟨i2, p1, p2⟩, hx3⟩ := h
  have key := fun mg => hiT0_ok (X := X) (mg := mg) (ac := ac) (bc := bc) (A := A) (E := E) (s := s) (prog := prog) (w := w) hk hIa hIb sa sb h0 hS3 i2 p1 p2 hx3
  exact wpS_if (fun _ => key (mg - 1)) (fun _ => key mg)
theorem hiB_ok {x : Nat} {c : Hi9} (hk : kindOf st = oneType') (hIa : ∀ p ∈ a.toList, IsI p) (hIb : ∀ p ∈ b.toList, IsI p) (sa : SortedL a.toList) (sb : SortedL b.toList) (h0 : GeL a.toList (rt b 1)) (hz : 1 ≤ a.size + b.size) (h : Hi9I a b st x c st2) :
    wpS (model prog w) A E s (hiB a b c) (StepQ (Hi9Q a b st) (Hi9I a b st (x + 1))) st2 := by
  obtain ⟨hS1, na, nb, out, mg, rfl, hP, hx1⟩ := h
  refine wpS_bind (wpS_mono (wpS_range (I := fun y => Hi1I a b st (x + 1 + y)) (Q := Hi1Q a b st (x + 2)) (fun y c st' h => hiB1_ok hk hIa hIb h0 (Nat.add_le_add_left (Nat.le_add_left 1 y) _ ) h) (fun c st' h => ?_) ⟨hS1, _, _, _, _, _, rfl, hP, hx1⟩) ?_)
  · obtain ⟨hS, na, nb, out, ac, bc, rfl, hP, h3⟩ := h
    exact ⟨hS, .inr ⟨_, _, _, _, _, rfl, hP, Nat.le_trans (Nat.add_le_add_right (Nat.add_le_add_left hz _) _) h3⟩⟩
  · rintro c st2 ⟨hS2, ⟨r, o, rfl, hG⟩ | ⟨na, nb, out, ac, bc, rfl, hP, hx2⟩⟩
    · exact wpS_pure ⟨hS2, _, _, rfl, hG⟩
    refine wpS_bind (wpS_lift (wpAny_rule ⟨rfl, ?_⟩))
    refine wpS_bind (wpS_mono (wpS_range (I := fun _ => HiSI a b st (x + 2)) (Q := HiSQ a b st (x + 2)) (fun y c st' h => hiB2_ok hk hIa hIb sa sb h0 h) (fun c st' h => ?_) ⟨hS2, _, _, _, _, _, _, rfl, hP, hx2⟩) ?_)
    · exact ⟨h.1, .inr h.2⟩
    · rintro c st3 ⟨hS3, ⟨r, o, rfl, hG⟩ | ⟨na, nb, out, mg, ac, bc, rfl, hP, hx2⟩⟩
      · exact wpS_pure ⟨hS3, _, _, rfl, hG⟩
      refine wpS_bind (wpS_setGallop fun st4 hS4 => ?_)
      exact wpS_pure ⟨hS3.trans hS4, _, _, _, _, rfl, hP, hx2⟩
end loops
theorem mergeHi_eq (a b : Array Keyed) : mergeHi' a b = hiAll a b := by kernel_rfl
theorem hi_start {a b : Array Keyed} {o : Array Keyed} {na nb : Nat} {mg : Nat} {st : SortSt} (ea : na + 1 = a.size) (ha : na ≠ 0) (hb : b.size ≠ 1) (hb0 : 0 < b.size) (i1 : HInv (a.toList ++ b.toList) o.toList (rt a na) (rt b nb)) (eb : nb = b.size) :
    Hi9I a b st 0 (none, na, nb, o, mg) st := by
  obtain ⟨n, rfl⟩ := Nat.exists_eq_succ_of_ne_zero ha
  obtain ⟨m, rfl⟩ : ∃ m, nb = m + 1 + 1 := ⟨nb - 2, by (first | lia | omega)⟩
  exact ⟨Same.rfl' st, n, m, o, mg, rfl, ⟨i1, ea ▸ Nat.le_succ _, Nat.le_of_eq eb⟩, by rw [← ea, ← eb, Nat.zero_add, ← Nat.add_assoc]; (first | lia | omega)⟩
set_option maxHeartbeats 4000000 in
theorem wpS_mergeHi {a b : Array Keyed} {st : SortSt} {Q : Array Keyed → SortSt → Prop} (hk : kindOf st = oneType') (hIa : ∀ p ∈ a.toList, IsI p) (hIb : ∀ p ∈ b.toList, IsI p) (ha : 0 < a.size) (hb : 0 < b.size)
    (sa : SortedL a.toList) (sb : SortedL b.toList) (hl : GeL (rt a a.size) (rt b b.size)  ∨ GeL [a[a.size - 1]] (rt b b.size)) (h0 : GeL a.toList (rt b 1))
    (h : ∀ r st', Same st st' → Good a b r → Q r st') : wpS (model prog w) A E s (mergeHi' a b) Q st := by
  rw [mergeHi_eq]
  have ea : a.size - 1 + 1 = a.size := Nat.sub_add_cancel ha
  have la : a.size - 1 < a.size := Nat.sub_lt ha Nat.one_pos
  have hl : GeL [a[a.size - 1]] (rt b b.size) := by
    rcases hl with h | h
    · intro x hx y hy
      rw [List.mem_singleton.mp hx]
      refine h _ ?_ y hy
      rw [show rt a a.size = a.toList.reverse by show (a.toList.take a.size).reverse = _; rw [List.take_of_length_le (by simp)]]
      simp
    · exact h
  have i0 : HInv (a.toList ++ b.toList) (#[] : Array Keyed).toList (rt a (a.size - 1 + 1)) (rt b b.size) :=
    ⟨by
      rw [ea]
      show ((a.toList.take a.size).reverse ++ (b.toList.take b.size).reverse).Perm _
      rw [List.take_of_length_le (by simp), List.take_of_length_le (by simp)]
      exact (List.reverse_perm _).append (List.reverse_perm _), .nil, (fun _ h => nomatch h), (fun _ h => nomatch h), rt_sorted sa _, rt_sorted sb _⟩
  have i1 := i0.pushA la hl
  refine wpS_bind (wpS_lift (wpAny_rule ⟨rfl, ?_⟩))
  refine wpS_bind (wpS_elem2 la ?_)
  refine wpS_ifb (fun e => wpS_pure (h _ _ (Same.rfl' st) (i1.finAB (hi_nil e)))) fun ha1 => ?_
  refine wpS_ifb (fun e => wpS_pure (h _ _ (Same.rfl' st) (i1.finBA (hi_last h0 e)))) fun hb1 => ?_
  refine wpS_bind (wpS_get ?_)
  refine wpS_bind (wpS_mono (wpS_range (I := Hi9I a b st) (Q := Hi9Q a b st) (fun x c st' h => hiB_ok hk hIa hIb sa sb h0 (Nat.le_trans hb (Nat.le_add_left _ _)) h) ?_ (hi_start ea ha1 hb1 hb i1 rfl)) ?_)
  · rintro c st' ⟨hS, na, nb, out, mg, rfl, ⟨_, h1, h2⟩, h3⟩
    (first | lia | omega)
  · rintro c st' ⟨hS, r, o, rfl, hG⟩
    exact wpS_pure (h _ _ hS hG)
end ts
end
section
open PySem PyProof.Rows
set_option maxHeartbeats 2000000
/-- a merged stretch written back -/
noncomputable def wback (lo : Nat) (l : List (Keyed × Nat)) (a : Array Keyed) : Array Keyed := l.foldl (fun a x => a.setIfInBounds (lo + x.2) x.1) a
theorem wback_get (lo : Nat) : ∀ (l : List Keyed) (k : Nat) (a : Array Keyed) (m : Nat), lo + k + l.length ≤ a.size →
    (wback lo (l.zipIdx k) a)[m]? = if lo + k ≤ m ∧ m < lo + k + l.length then l[m - (lo + k)]? else a[m]?
  | [], k, a, m, _ => by
    rw [if_neg (by simp)]; rfl
  | p :: l, k, a, m, h => by
    rw [List.length_cons] at h
    have e : wback lo ((p :: l).zipIdx k) a = wback lo (l.zipIdx (k + 1)) (a.setIfInBounds (lo + k) p) := by rw [List.zipIdx_cons]; rfl
    rw [e, wback_get lo l (k + 1) _ m (by simp; (first | lia | omega)), List.length_cons]
    by_cases h1 : lo + (k + 1) ≤ m ∧ m < lo + (k + 1) + l.length
    · rw [if_pos h1, if_pos (by (first | lia | omega)), show m - (lo + k) = m - (lo + (k + 1)) + 1 by (first | lia | omega), List.getElem?_cons_succ]
    · rw [if_neg h1, Array.getElem?_setIfInBounds]
      by_cases h2 : lo + k = m
      · rw [if_pos h2, if_pos (by (first | lia | omega)), if_pos (by (first | lia | omega)), ← h2, Nat.sub_self]; rfl
      · rw [if_neg h2, if_neg (by (first | lia | omega))]
theorem wback_list {lo : Nat} {r a : Array Keyed} (h : lo + r.size ≤ a.size) : (wback lo r.toList.zipIdx a).toList = a.toList.take lo ++ (r.toList ++ a.toList.drop (lo + r.size)) := by
  apply List.ext_getElem?
  intro m
  rw [Array.getElem?_toList, wback_get lo r.toList 0 a m (by simpa using h)]
  rw [Array.length_toList, Nat.add_zero]
  by_cases h1 : m < lo
  · rw [if_neg (by (first | lia | omega)), List.getElem?_append_left (by simp; (first | lia | omega)), List.getElem?_take_of_lt h1, Array.getElem?_toList]
  · rw [List.getElem?_append_right (by simp; (first | lia | omega)), List.length_take, Array.length_toList, show min lo a.size = lo by (first | lia | omega)]
    by_cases h2 : m < lo + r.size
    · rw [if_pos (by (first | lia | omega)), List.getElem?_append_left (by simp; (first | lia | omega))]
    · rw [if_neg (by (first | lia | omega)), List.getElem?_append_right (by simp; (first | lia | omega)), List.getElem?_drop, Array.getElem?_toList, Array.length_toList]
      congr 1; (first | lia | omega)
/-- a stretch in order -/
def RunAt (a : Array Keyed) (lo n : Nat) : Prop := ∀ i j, lo ≤ i → i ≤ j → j < lo + n → K a i ≤ K a j
theorem RunAt.slice {a : Array Keyed} {lo n : Nat} (h : RunAt a lo n) (hn : lo + n ≤ a.size) : SortedL (a.extract lo (lo + n)).toList := by
  refine List.pairwise_iff_getElem.mpr ?_
  intro i j hi hj hij
  have hj' : j < min n (a.size - lo) := by simpa using hj
  have := h (lo + i) (lo + j) (by (first | lia | omega)) (by (first | lia | omega)) (by (first | lia | omega))
  rw [K_get (by (first | lia | omega)), K_get (by (first | lia | omega))] at this
  simpa using this
/-- what a merge at (sa, na), (sb, nb) leaves -/
structure Merged (a a' : Array Keyed) (lo n : Nat) : Prop where
  perm : a'.Perm a
  run : RunAt a' lo n
  out : ∀ k, (k < lo ∨ lo + n ≤ k) → K a' k = K a k
theorem merged_intro {a r : Array Keyed} {sa na nb k m : Nat} (hn : sa + na + nb ≤ a.size) (ra : RunAt a sa na) (rb : RunAt a (sa + na) nb) (hk : k ≤ na) (hm : m ≤ nb) (ha : 0 < na) (hb : 0 < nb)
    (k1 : ∀ i, i < k → K a (sa + i) ≤ K a (sa + na)) (k2 : ∀ i, k ≤ i → i < na → K a (sa + na) ≤ K a (sa + i))
    (m1 : ∀ i, i < m → K a (sa + na + i) ≤ K a (sa + na - 1)) (m2 : ∀ i, m ≤ i → i < nb → K a (sa + na - 1) ≤ K a (sa + na + i))
    (g : Good (a.extract (sa + k) (sa + na)) (a.extract (sa + na) (sa + na + m)) r) : Merged a (wback (sa + k) r.toList.zipIdx a) sa (na + nb) := by
  obtain ⟨gp, gs⟩ := g
  have hr : r.size = (na - k) + m := by
    have := gp.length_eq
    simp only [List.length_append, Array.length_toList, Array.size_extract] at this
    (first | lia | omega)
  have hx : ∀ p ∈ r.toList, ∃ j, sa + k ≤ j ∧ j < sa + na + m ∧ kk p = K a j := by
    intro p hp
    rcases List.mem_append.mp (gp.mem_iff.mp hp) with h | h
    · rw [show sa + na = sa + k + (na - k) by (first | lia | omega)] at h
      obtain ⟨j, h1, h2, h3⟩ := ext_mem h
      exact ⟨_, by (first | lia | omega), by (first | lia | omega), h3⟩
    · obtain ⟨j, h1, h2, h3⟩ := ext_mem h
      exact ⟨_, by (first | lia | omega), by (first | lia | omega), h3⟩
  have hget := fun i => wback_get (sa + k) r.toList 0 a i (by simp; (first | lia | omega))
  simp only [Nat.add_zero, Array.length_toList] at hget
  have hK1 : ∀ i, (i < sa + k ∨ sa + na + m ≤ i) → K (wback (sa + k) r.toList.zipIdx a) i = K a i := fun i hi => K_congr (by rw [hget, if_neg (by (first | lia | omega))])
  have hK2 : ∀ i, sa + k ≤ i → i < sa + na + m → K (wback (sa + k) r.toList.zipIdx a) i = K r (i - (sa + k)) := fun i h1 h2 => K_congr (by rw [hget, if_pos (by (first | lia | omega)), Array.getElem?_toList])
  have hK3 : ∀ i, sa + k ≤ i → i < sa + na + m → ∃ j, sa + k ≤ j ∧ j < sa + na + m ∧ K (wback (sa + k) r.toList.zipIdx a) i = K a j := by
    intro i h1 h2
    have hi : i - (sa + k) < r.size := by (first | lia | omega)
    obtain ⟨j, a1, a2, a3⟩ := hx r[i - (sa + k)] (by simp)
    exact ⟨j, a1, a2, by rw [hK2 i h1 h2, K_get hi, a3]⟩
  refine ⟨?_, ?_, ?_⟩
  · rw [Array.perm_iff_toList_perm, wback_list (by (first | lia | omega))]
    have e : a.toList = a.toList.take (sa + k) ++ (((a.extract (sa + k) (sa + na)).toList ++ (a.extract (sa + na) (sa + na + m)).toList) ++ a.toList.drop (sa + k + r.size)) := by
      have e1 := ext_add a (sa + k) (na - k)
      have e2 := ext_add a (sa + na) m
      rw [show sa + k + (na - k) = sa + na by (first | lia | omega)] at e1
      rw [show sa + k + r.size = sa + na + m by (first | lia | omega), List.append_assoc]
      show a.toList = a.toList.take (sa + k) ++ (_ ++ (_ ++ dr a (sa + na + m)))
      rw [← e2, ← e1]
      exact (List.take_append_drop _ _).symm
    exact ((gp.append_right _).append_left _).trans (List.Perm.of_eq e.symm)
  · intro i j h1 h2 h3
    by_cases c1 : i < sa + k
    · rw [hK1 i (.inl c1)]
      have b1 : K a i ≤ K a (sa + na) := by have := k1 (i - sa) (by (first | lia | omega)); rwa [show sa + (i - sa) = i by (first | lia | omega)] at this
      by_cases c2 : j < sa + k
      · rw [hK1 j (.inl c2)]; exact ra i j h1 h2 (by (first | lia | omega))
      · by_cases c3 : j < sa + na + m
        · obtain ⟨q, q1, q2, q3⟩ := hK3 j (by (first | lia | omega)) c3
          rw [q3]
          refine Int.le_trans b1 ?_
          by_cases c4 : q < sa + na
          · have := k2 (q - sa) (by (first | lia | omega)) (by (first | lia | omega)); rwa [show sa + (q - sa) = q by (first | lia | omega)] at this
          · exact rb _ _ (Nat.le_refl _) (by (first | lia | omega)) (by (first | lia | omega))
        · rw [hK1 j (.inr (by (first | lia | omega)))]
          exact Int.le_trans b1 (rb _ _ (Nat.le_refl _) (by (first | lia | omega)) (by (first | lia | omega)))
    · by_cases c2 : i < sa + na + m
      · by_cases c3 : j < sa + na + m
        · rw [hK2 i (by (first | lia | omega)) c2, hK2 j (by (first | lia | omega)) c3]
          exact K_sorted gs (by (first | lia | omega)) (by (first | lia | omega))
        · obtain ⟨q, q1, q2, q3⟩ := hK3 i (by (first | lia | omega)) c2
          rw [q3, hK1 j (.inr (by (first | lia | omega)))]
          by_cases c4 : q < sa + na
          · refine Int.le_trans (ra q (sa + na - 1) (by (first | lia | omega)) (by (first | lia | omega)) (by (first | lia | omega))) ?_
            have := m2 (j - (sa + na)) (by (first | lia | omega)) (by (first | lia | omega)); rwa [show sa + na + (j - (sa + na)) = j by (first | lia | omega)] at this
          · exact rb _ _ (by (first | lia | omega)) (by (first | lia | omega)) (by (first | lia | omega))
      · rw [hK1 i (.inr (by (first | lia | omega))), hK1 j (.inr (by (first | lia | omega)))]
        exact rb _ _ (by (first | lia | omega)) h2 (by (first | lia | omega))
  · intro i hi
    exact hK1 i (by (first | lia | omega))
theorem merged_same {a : Array Keyed} {sa na nb : Nat} {x : Int} (ra : RunAt a sa na) (rb : RunAt a (sa + na) nb) (h1 : ∀ i, i < na → K a (sa + i) ≤ x) (h2 : ∀ i, i < nb → x ≤ K a (sa + na + i)) : Merged a a sa (na + nb) := by
  refine ⟨.refl _, fun i j a1 a2 a3 => ?_, fun _ _ => rfl⟩
  by_cases c1 : j < sa + na
  · exact ra i j a1 a2 c1
  · by_cases c2 : i < sa + na
    · have b1 := h1 (i - sa) (by (first | lia | omega))
      have b2 := h2 (j - (sa + na)) (by (first | lia | omega))
      rw [show sa + (i - sa) = i by (first | lia | omega)] at b1
      rw [show sa + na + (j - (sa + na)) = j by (first | lia | omega)] at b2
      (first | lia | omega)
    · exact rb i j (by (first | lia | omega)) a2 (by (first | lia | omega))
theorem RunAt.sub {a : Array Keyed} {lo n lo' n' : Nat} (h : RunAt a lo n) (h1 : lo ≤ lo') (h2 : lo' + n' ≤ lo + n) : RunAt a lo' n' := fun i j a1 a2 a3 => h i j (by (first | lia | omega)) a2 (by (first | lia | omega))
section ts
variable {prog : Program} {w : World} {A : Around} {E : Value → Shared → Prop} {s : Shared}
theorem wpS_set {σ : Type} {M : Model} {st st' : σ} {Q : PUnit → σ → Prop} (h : Q ⟨⟩ st') : wpS M A E s (set st' : StateT σ Sem PUnit) Q st := by
  unfold wpS; rw [StateT.run_set]; exact wpAny_pure ⟨rfl, h⟩
theorem wpS_mergeAt {i sa na nb pw q : Nat} {st : SortSt} {Q : Bool → SortSt → Prop} (hk : kindOf st = oneType') (hf : failedOf st = none) (hI : ∀ p ∈ (arrOf st).toList, IsI p)
    (h1 : (pendingOf st)[i]? = some (sa, na, pw)) (h2 : (pendingOf st)[i + 1]? = some (sa + na, nb, q)) (ha : 0 < na) (hb : 0 < nb) (hn : sa + na + nb ≤ (arrOf st).size)
    (ra : RunAt (arrOf st) sa na) (rb : RunAt (arrOf st) (sa + na) nb)
    (h : ∀ st', kindOf st' = oneType' → failedOf st' = none → pendingOf st' = ((pendingOf st).setIfInBounds i (sa, na + nb, pw)).eraseIdxIfInBounds (i + 1) → Merged (arrOf st) (arrOf st') sa (na + nb) → Q true st') :
    wpS (model prog w) A E s (mergeAt' i) Q st := by
  refine wpS_bind (wpS_get ?_)
  have e1 : (pendingOf st)[i]? = some (sa, na, pw) := h1
  rw [h1, h2]
  try dsimp only
  refine wpS_bind (wpS_set ?_)
  have g1 : sa + na < (arrOf st).size := by (first | lia | omega)
  refine wpS_bind (wpS_elem2 (i := sa + na) g1 ?_)
  refine wpS_bind (wpS_gallop hk (hI _ (by simp)) hI (show sa + na ≤ (arrOf st).size by (first | lia | omega)) ha (fun i j h1 h2 => ra _ _ (by (first | lia | omega)) (by (first | lia | omega)) (by (first | lia | omega))) ?_)
  intro k k1 k2 k3
  try dsimp only
  simp only [bey, Bool.false_eq_true, if_false, decide_eq_true_eq, decide_eq_false_iff_not] at k2 k3
  rw [← K_get g1] at k2 k3
  have k2' : ∀ i, i < k → K (arrOf st) (sa + i) ≤ K (arrOf st) (sa + na) := k2
  have k3' : ∀ i, k ≤ i → i < na → K (arrOf st) (sa + na) ≤ K (arrOf st) (sa + i) := fun i a b => Int.le_of_lt (Int.not_le.mp (k3 i a b))
  by_cases c1 : na - k = 0
  · rw [if_pos (by simpa using c1)]
    refine wpS_pure (h _ hk hf rfl (merged_same (x := K (arrOf st) (sa + na)) ra rb (fun i hi => k2' i (by (first | lia | omega))) fun i hi => rb _ _ (Nat.le_refl _) (by (first | lia | omega)) (by (first | lia | omega))))
  rw [if_neg (by simpa using c1)]
  have e2 : sa + k + (na - k) - 1 = sa + na - 1 := by (first | lia | omega)
  rw [e2]
  have g2 : sa + na - 1 < (arrOf st).size := by (first | lia | omega)
  refine wpS_bind (wpS_elem2 (i := sa + na - 1) g2 ?_)
  refine wpS_bind (wpS_gallop hk (hI _ (by simp)) hI (show sa + na + nb ≤ (arrOf st).size by (first | lia | omega)) (by (first | lia | omega)) (fun i j h1 h2 => rb _ _ (by (first | lia | omega)) (by (first | lia | omega)) (by (first | lia | omega))) ?_)
  intro m m1 m2 m3
  try dsimp only
  simp only [bey, if_true, decide_eq_true_eq, decide_eq_false_iff_not] at m2 m3
  rw [← K_get g2] at m2 m3
  have m2' : ∀ i, i < m → K (arrOf st) (sa + na + i) ≤ K (arrOf st) (sa + na - 1) := fun i a => Int.le_of_lt (m2 i a)
  have m3' : ∀ i, m ≤ i → i < nb → K (arrOf st) (sa + na - 1) ≤ K (arrOf st) (sa + na + i) := fun i a b => Int.not_lt.mp (m3 i a b)
  by_cases c2 : m = 0
  · rw [if_pos (by simpa using c2)]
    refine wpS_pure (h _ hk hf rfl (merged_same (x := K (arrOf st) (sa + na - 1)) ra rb (fun i hi => ra _ _ (by (first | lia | omega)) (by (first | lia | omega)) (by (first | lia | omega))) fun i hi => m3' i (by (first | lia | omega)) hi))
  rw [if_neg (by simpa using c2)]
  have hx : ((arrOf st).extract (sa + k) (sa + na)).size = na - k := by simp only [Array.size_extract]; (first | lia | omega)
  have hy : ((arrOf st).extract (sa + na) (sa + na + m)).size = m := by simp only [Array.size_extract]; (first | lia | omega)
  have xI : ∀ p ∈ ((arrOf st).extract (sa + k) (sa + na)).toList, IsI p := fun p hp => hI p (by rw [Array.toList_extract] at hp; exact List.mem_of_mem_drop (List.mem_of_mem_take hp))
  have yI : ∀ p ∈ ((arrOf st).extract (sa + na) (sa + na + m)).toList, IsI p := fun p hp => hI p (by rw [Array.toList_extract] at hp; exact List.mem_of_mem_drop (List.mem_of_mem_take hp))
  have xs : SortedL ((arrOf st).extract (sa + k) (sa + na)).toList := by
    have := (ra.sub (lo' := sa + k) (n' := na - k) (by (first | lia | omega)) (by (first | lia | omega))).slice (by (first | lia | omega))
    rwa [show sa + k + (na - k) = sa + na by (first | lia | omega)] at this
  have ys : SortedL ((arrOf st).extract (sa + na) (sa + na + m)).toList := (rb.sub (lo' := sa + na) (n' := m) (by (first | lia | omega)) (by (first | lia | omega))).slice (by (first | lia | omega))
  have xm : ∀ p ∈ ((arrOf st).extract (sa + k) (sa + na)).toList, K (arrOf st) (sa + na) ≤ kk p := by
    intro p hp
    rw [show sa + na = sa + k + (na - k) by (first | lia | omega)] at hp
    obtain ⟨j, a1, a2, a3⟩ := ext_mem hp
    rw [a3, show sa + k + j = sa + (k + j) by (first | lia | omega)]
    exact k3' _ (by (first | lia | omega)) (by (first | lia | omega))
  have ym : ∀ p ∈ ((arrOf st).extract (sa + na) (sa + na + m)).toList, kk p ≤ K (arrOf st) (sa + na - 1) := by
    intro p hp
    obtain ⟨j, a1, a2, a3⟩ := ext_mem hp
    rw [a3]
    exact m2' j a1
  have fin : ∀ (r : Array Keyed) (st1 st2 : SortSt), kindOf st1 = kindOf st → failedOf st1 = failedOf st → arrOf st1 = arrOf st → pendingOf st1 = ((pendingOf st).setIfInBounds i (sa, na + nb, pw)).eraseIdxIfInBounds (i + 1) → Same st1 st2 →
      Good ((arrOf st).extract (sa + k) (sa + na)) ((arrOf st).extract (sa + na) (sa + na + m)) r →
      wpS (model prog w) A E s (do
        modify fun s => setArr s (wback (sa + k) r.toList.zipIdx (arrOf s))
        let __do_lift ← get
        pure (failedOf __do_lift).isNone) Q st2 := by
    intro r st1 st2 q1 q2 q3 q4 hS g
    refine wpS_bind (wpS_modify ?_)
    refine wpS_bind (wpS_get (wpS_pure ?_))
    have e1 : failedOf st2 = none := by rw [hS.failed, q2, hf]
    have e2 : (failedOf (setArr st2 (wback (sa + k) r.toList.zipIdx (arrOf st2)))).isNone = true := by show (failedOf st2).isNone = true; rw [e1]; rfl
    rw [e2]
    refine h _ ?_ ?_ ?_ ?_
    · show kindOf st2 = _; rw [hS.kind, q1, hk]
    · exact e1
    · show pendingOf st2 = _; rw [hS.pend, q4]
    · show Merged (arrOf st) (wback (sa + k) r.toList.zipIdx (arrOf st2)) sa (na + nb)
      rw [hS.arr, q3]
      exact merged_intro hn ra rb k1 m1 ha hb k2' k3' m2' m3' g
  refine wpS_if (fun c3 => ?_) (fun c3 => ?_)
  · refine wpS_bind (wpS_mergeLo (a := (arrOf st).extract (sa + k) (sa + na)) (b := (arrOf st).extract (sa + na) (sa + na + m)) hk xI yI (by (first | lia | omega)) (by (first | lia | omega)) xs ys ?_ ?_ ?_)
    · intro x hx1 y hy1
      rw [dr_cons (by omega), dr_nil (by omega), List.mem_singleton] at hy1
      subst hy1
      rw [← K_get, K_congr (j := sa + na - 1)]
      · exact ym x hx1
      · rw [Array.getElem?_extract, if_pos (by (first | lia | omega))]; congr 1; (first | lia | omega)
    · intro x hx1 y hy1
      rw [List.mem_singleton.mp hx1, ← K_get, K_congr (j := sa + na)]
      · exact xm y hy1
      · rw [Array.getElem?_extract, if_pos (by (first | lia | omega))]; rfl
    · intro r st2 hS g
      exact fin r (setPending st (((pendingOf st).setIfInBounds i (sa, na + nb, pw)).eraseIdxIfInBounds (i + 1))) st2 rfl rfl rfl rfl hS g
  · refine wpS_bind (wpS_mergeHi (a := (arrOf st).extract (sa + k) (sa + na)) (b := (arrOf st).extract (sa + na) (sa + na + m)) hk xI yI (by (first | lia | omega)) (by (first | lia | omega)) xs ys (.inr ?_) ?_ ?_)
    · intro x hx1 y hy1
      rw [List.mem_singleton.mp hx1, ← K_get, K_congr (j := sa + na - 1)]
      · exact ym y (rt_sub hy1)
      · rw [Array.getElem?_extract, if_pos (by (first | lia | omega))]; congr 1; (first | lia | omega)
    · intro x hx1 y hy1
      rw [rt_cons (by omega), rt_zero rfl, List.mem_singleton] at hy1
      subst hy1
      rw [← K_get, K_congr (j := sa + na)]
      · exact xm x hx1
      · rw [Array.getElem?_extract, if_pos (by (first | lia | omega))]; rfl
    · intro r st2 hS g
      exact fin r (setPending st (((pendingOf st).setIfInBounds i (sa, na + nb, pw)).eraseIdxIfInBounds (i + 1))) st2 rfl rfl rfl rfl hS g
end ts
end
section
open PySem PyProof.Rows
set_option maxHeartbeats 2000000
noncomputable abbrev Pend := Array (Nat × Nat × Nat)
/-- the state while the stretch from lo on is worked at -/
structure TB (a₀ : Array Keyed) (pend : Pend) (lo : Nat) (b : Array Keyed) (st : SortSt) : Prop where
  perm : (arrOf st).Perm a₀
  kind : kindOf st = oneType'
  failed : failedOf st = none
  pend : pendingOf st = pend
  pre : ∀ k, k < lo → K (arrOf st) k = K b k
def SrtO (xs : Array Keyed) (lo k : Nat) : Prop := ∀ i j, i ≤ j → j < k → K xs (lo + i) ≤ K xs (lo + j)
def NonO (xs : Array Keyed) (lo k : Nat) : Prop := ∀ i j, i ≤ j → j < k → K xs (lo + j) ≤ K xs (lo + i)
theorem SrtO.run {xs : Array Keyed} {lo k : Nat} (h : SrtO xs lo k) : RunAt xs lo k := fun i j h1 h2 h3 => by
  have := h (i - lo) (j - lo) (by (first | lia | omega)) (by (first | lia | omega))
  rwa [show lo + (i - lo) = i by (first | lia | omega), show lo + (j - lo) = j by (first | lia | omega)] at this
theorem K_mirO {xs : Array Keyed} {lo n : Nat} (hn : lo + n ≤ xs.size) (k : Nat) : K (mirror xs lo (lo + n) ((lo + n - lo) / 2)) (lo + k) = if k < n then K xs (lo + (n - 1 - k)) else K xs (lo + k) := by
  rw [K_mirror hn]
  by_cases h : k < n
  · rw [if_pos (by (first | lia | omega)), if_pos h]; congr 1; (first | lia | omega)
  · rw [if_neg (by (first | lia | omega)), if_neg h]
theorem K_mirO_eq {xs : Array Keyed} {lo n m : Nat} (hmn : m ≤ n) (hn : lo + n ≤ xs.size) (heq : ∀ k, m ≤ k → k < n → K xs (lo + k) = K xs (lo + (n - 1))) (k : Nat) :
    K (mirror xs (lo + m) (lo + n) ((lo + n - (lo + m)) / 2)) k = K xs k := by
  rw [K_mirror hn]
  split
  · rename_i h
    have a1 := heq (lo + m + (lo + n) - 1 - k - lo) (by (first | lia | omega)) (by (first | lia | omega))
    have a2 := heq (k - lo) (by (first | lia | omega)) (by (first | lia | omega))
    rw [show lo + (lo + m + (lo + n) - 1 - k - lo) = lo + m + (lo + n) - 1 - k by (first | lia | omega)] at a1
    rw [show lo + (k - lo) = k by (first | lia | omega)] at a2
    rw [a1, a2]
  · rfl
theorem TB.size {a₀ : Array Keyed} {pend : Pend} {lo : Nat} {b : Array Keyed} {st : SortSt} (h : TB a₀ pend lo b st) : (arrOf st).size = a₀.size := h.perm.size_eq
theorem TB.set {a₀ : Array Keyed} {pend : Pend} {lo : Nat} {b : Array Keyed} {st : SortSt} (h : TB a₀ pend lo b st) {xs : Array Keyed} (hp : xs.Perm (arrOf st)) (hk : ∀ k, k < lo → K xs k = K (arrOf st) k) : TB a₀ pend lo b (setArr st xs) :=
  ⟨hp.trans h.perm, h.kind, h.failed, h.pend, fun k hl => (hk k hl).trans (h.pre k hl)⟩
theorem TB.mir {a₀ : Array Keyed} {pend : Pend} {lo i j : Nat} {b : Array Keyed} {st : SortSt} (h : TB a₀ pend lo b st) (hi : lo ≤ i) (hj : j ≤ (arrOf st).size) : TB a₀ pend lo b (setArr st (mirror (arrOf st) i j ((j - i) / 2))) :=
  h.set (mirror_perm _ _ _ _) fun k hk => by rw [K_mirror hj, if_neg (by (first | lia | omega))]
theorem TB.at {a₀ : Array Keyed} {pend : Pend} {lo : Nat} {b : Array Keyed} {st : SortSt} (h : TB a₀ pend lo b st) (h0 : IntKeys a₀) {i : Nat} (hi : i < a₀.size) :
    ∃ t q, (arrOf st)[i]? = some (.int (K (arrOf st) i) t, q) := by
  have hi' : i < (arrOf st).size := by rw [h.size]; exact hi
  have hm : (arrOf st)[i] ∈ a₀.toList := (Array.perm_iff_toList_perm.mp h.perm).mem_iff.mp (by simp)
  obtain ⟨n, t, hn⟩ := h0 _ hm
  refine ⟨t, (arrOf st)[i].2, ?_⟩
  have e : (arrOf st)[i]? = some (arrOf st)[i] := getElem?_pos _ i hi'
  have e2 : (arrOf st)[i] = (.int n t, (arrOf st)[i].2) := Prod.ext hn rfl
  unfold K
  rw [e, e2]
  rfl

noncomputable def ascO (lo a nrem : Nat) : StateT SortSt Sem AscSt :=
  forIn [a:nrem] ((none, a) : AscSt) fun _ __s => do
    let __x ← ltAt' (lo + __s.snd) (lo + __s.snd - 1)
    match __x with
    | some smaller => if smaller = true then pure (ForInStep.done (none, __s.snd)) else pure (ForInStep.yield (none, __s.snd + 1))
    | _ => pure (ForInStep.done (some none, __s.snd))
noncomputable def tailO (lo n nrem : Nat) : StateT SortSt Sem (Option Nat) := do
  reverseSlice' lo (lo + n)
  let __s ← ascO lo n nrem
  match __s.fst with
  | some r => pure r
  | none => pure (some __s.snd)
noncomputable def descO (lo n nrem : Nat) : StateT SortSt Sem DescSt :=
  forIn [n:nrem] ((none, n, 0) : DescSt) fun _ __s => do
    let __x ← ltAt' (lo + __s.snd.fst) (lo + __s.snd.fst - 1)
    match __x with
    | some smaller =>
      if smaller = true then
        if __s.snd.snd > 0 then do
          reverseSlice' (lo + __s.snd.fst - (__s.snd.snd + 1)) (lo + __s.snd.fst)
          pure (ForInStep.yield (none, __s.snd.fst + 1, 0))
        else pure (ForInStep.yield (none, __s.snd.fst + 1, 0))
      else do
        let __x ← ltAt' (lo + __s.snd.fst - 1) (lo + __s.snd.fst)
        match __x with
        | some larger =>
          if larger = true then pure (ForInStep.done (none, __s.snd.fst, __s.snd.snd))
          else pure (ForInStep.yield (none, __s.snd.fst + 1, __s.snd.snd + 1))
        | _ => pure (ForInStep.done (some none, __s.snd.fst, __s.snd.snd))
    | _ => pure (ForInStep.done (some none, __s.snd.fst, __s.snd.snd))
noncomputable def descPartO (lo n nrem : Nat) : StateT SortSt Sem (Option Nat) := do
  liftM (rule "list.sort.descending-run")
  let __s ← descO lo (n + 1) nrem
  match __s.fst with
  | some r => pure r
  | none =>
    if __s.snd.snd > 0 then do
      reverseSlice' (lo + __s.snd.fst - (__s.snd.snd + 1)) (lo + __s.snd.fst)
      tailO lo __s.snd.fst nrem
    else tailO lo __s.snd.fst nrem
theorem countO_eq (lo nrem : Nat) : countRun' lo nrem = (do
    let __s ← ascO lo 1 nrem
    match __s.fst with
    | some r => pure r
    | none =>
      if (__s.snd == nrem) = true then pure (some __s.snd)
      else if __s.snd > 1 then do
        let __x ← ltAt' lo (lo + __s.snd - 1)
        match __x with
        | some rose => if rose = true then pure (some __s.snd) else do
            reverseSlice' lo (lo + __s.snd)
            descPartO lo __s.snd nrem
        | _ => pure none
      else descPartO lo __s.snd nrem) := by
  rw [countRun'_eq]
  simp only [Nat.zero_add]
  unfold descPartO tailO descO ascO
  congr 1
  funext __s
  obtain ⟨r, n⟩ := __s
  cases r with
  | some r => rfl
  | none =>
    dsimp only
    split
    · rfl
    · split
      · congr 1
        funext x
        cases x with
        | none => rfl
        | some rose =>
          dsimp only
          split
          · rfl
          · congr 1
            funext _r
            congr 1
            funext u1
            congr 1
            congr 1
            funext s2
            obtain ⟨r2, n2, q2⟩ := s2
            cases r2 with
            | some r2 => rfl
            | none =>
              dsimp only
              split
              · congr 1
                funext v1
                (congr 1; funext w1; congr 1; (funext s3; obtain ⟨r3, n3⟩ := s3; cases r3 <;> rfl))
              · (congr 1; funext w1; congr 1; (funext s3; obtain ⟨r3, n3⟩ := s3; cases r3 <;> rfl))
      · congr 1
        funext u1
        congr 1
        congr 1
        funext s2
        obtain ⟨r2, n2, q2⟩ := s2
        cases r2 with
        | some r2 => rfl
        | none =>
          dsimp only
          split
          · congr 1
            funext v1
            (congr 1; funext w1; congr 1; (funext s3; obtain ⟨r3, n3⟩ := s3; cases r3 <;> rfl))
          · (congr 1; funext w1; congr 1; (funext s3; obtain ⟨r3, n3⟩ := s3; cases r3 <;> rfl))
section ts
variable {prog : Program} {w : World} {A : Around} {E : Value → Shared → Prop} {s : Shared} {a₀ b : Array Keyed} {pend : Pend} {lo : Nat}
theorem wpS_ltT {st : SortSt} {i j : Nat} {Q : Option Bool → SortSt → Prop} (hB : TB a₀ pend lo b st) (h0 : IntKeys a₀) (hi : i < a₀.size) (hj : j < a₀.size)
    (h : Q (some (decide (K (arrOf st) i < K (arrOf st) j))) st) : wpS (model prog w) A E s (ltAt' i j) Q st := by
  obtain ⟨t, p, e1⟩ := hB.at h0 hi
  obtain ⟨u, q, e2⟩ := hB.at h0 hj
  exact wpS_ltAt hB.kind e1 e2 h
theorem wpS_ascO {st : SortSt} {a nrem : Nat} {Q : AscSt → SortSt → Prop} (h0 : IntKeys a₀) (hn : lo + nrem ≤ a₀.size) (ha : 1 ≤ a) (han : a ≤ nrem) (hB : TB a₀ pend lo b st)
    (hs : SrtO (arrOf st) lo a)
    (h : ∀ n, a ≤ n → n ≤ nrem → SrtO (arrOf st) lo n → (n = nrem ∨ K (arrOf st) (lo + n) < K (arrOf st) (lo + (n - 1))) → Q (none, n) st) :
    wpS (model prog w) A E s (ascO lo a nrem) Q st := by
  unfold ascO
  refine wpS_forRange (I := fun x c st' => st' = st ∧ c = (none, x) ∧ SrtO (arrOf st) lo x) ?step ?fin ⟨rfl, rfl, hs⟩
  case fin =>
    rintro c st' ⟨rfl, rfl, hs'⟩
    rw [show max a nrem = nrem by (first | lia | omega)] at hs' ⊢
    exact h nrem han (Nat.le_refl _) hs' (.inl rfl)
  case step =>
    rintro x c st' hax hxn ⟨rfl, rfl, hs'⟩
    dsimp only
    refine wpS_bind (wpS_ltT hB h0 (by (first | lia | omega)) (by (first | lia | omega)) ?_)
    rw [show lo + x - 1 = lo + (x - 1) by (first | lia | omega)]
    by_cases hless : K (arrOf st') (lo + x) < K (arrOf st') (lo + (x - 1))
    · simp only [hless, decide_true, if_true]
      exact wpS_pure (h x hax (by (first | lia | omega)) hs' (.inr hless))
    · simp only [hless, decide_false, Bool.false_eq_true, if_false]
      refine wpS_pure ⟨rfl, rfl, fun i j hij hj => ?_⟩
      by_cases hjx : j < x
      · exact hs' i j hij hjx
      · have hj' : j = x := by (first | lia | omega)
        subst hj'
        by_cases hi' : i = j
        · subst hi'; exact Int.le_refl _
        · exact Int.le_trans (hs' i (j - 1) (by (first | lia | omega)) (by (first | lia | omega))) (Int.not_lt.mp hless)
theorem wpS_tailO {st : SortSt} {n nrem : Nat} {Q : Option Nat → SortSt → Prop} (h0 : IntKeys a₀) (hn : lo + nrem ≤ a₀.size) (h1 : 1 ≤ n) (hnn : n ≤ nrem) (hB : TB a₀ pend lo b st)
    (hs : NonO (arrOf st) lo n) (h : ∀ m st', TB a₀ pend lo b st' → 1 ≤ m → m ≤ nrem → SrtO (arrOf st') lo m → Q (some m) st') :
    wpS (model prog w) A E s (tailO lo n nrem) Q st := by
  unfold tailO
  have hsz : lo + n ≤ (arrOf st).size := by rw [hB.size]; (first | lia | omega)
  refine wpS_bind (wpS_reverse ?_)
  have hB' : TB a₀ pend lo b (setArr st (mirror (arrOf st) lo (lo + n) ((lo + n - lo) / 2))) := hB.mir (Nat.le_refl _) hsz
  refine wpS_bind (wpS_ascO h0 hn h1 hnn hB' ?_ fun m hm1 hm2 hsm _ => wpS_pure (h m _ hB' (by (first | lia | omega)) hm2 hsm))
  intro i j hij hj
  show K (mirror (arrOf st) lo (lo + n) ((lo + n - lo) / 2)) (lo + i) ≤ K (mirror (arrOf st) lo (lo + n) ((lo + n - lo) / 2)) (lo + j)
  rw [K_mirO hsz, K_mirO hsz, if_pos (by (first | lia | omega)), if_pos (by (first | lia | omega))]
  exact hs _ _ (by (first | lia | omega)) (by (first | lia | omega))
theorem wpS_descO {st : SortSt} {n nrem : Nat} {Q : DescSt → SortSt → Prop} (h0 : IntKeys a₀) (hn : lo + nrem ≤ a₀.size) (h1 : 1 ≤ n) (hnn : n ≤ nrem) (hB : TB a₀ pend lo b st)
    (hs : NonO (arrOf st) lo n)
    (h : ∀ m neq st', TB a₀ pend lo b st' → n ≤ m → m ≤ nrem → NonO (arrOf st') lo m → neq + 1 ≤ m → (∀ i, m - (neq + 1) ≤ i → i < m → K (arrOf st') (lo + i) = K (arrOf st') (lo + (m - 1))) → Q (none, m, neq) st') :
    wpS (model prog w) A E s (descO lo n nrem) Q st := by
  unfold descO
  refine wpS_forRange (I := fun x c st' => ∃ neq, c = (none, x, neq) ∧ TB a₀ pend lo b st' ∧ NonO (arrOf st') lo x ∧ neq + 1 ≤ x ∧
      (∀ i, x - (neq + 1) ≤ i → i < x → K (arrOf st') (lo + i) = K (arrOf st') (lo + (x - 1)))) ?step ?fin ⟨0, rfl, hB, hs, by (first | lia | omega), fun i h1 h2 => by congr 1; (first | lia | omega)⟩
  case fin =>
    rintro c st' ⟨neq, rfl, hB', hs', hq, he⟩
    rw [show max n nrem = nrem by (first | lia | omega)] at hs' hq he ⊢
    exact h nrem neq st' hB' hnn (Nat.le_refl _) hs' hq he
  case step =>
    rintro x c st' hax hxn ⟨neq, rfl, hB', hs', hq, he⟩
    dsimp only
    have hsz : lo + x ≤ (arrOf st').size := by rw [hB'.size]; (first | lia | omega)
    refine wpS_bind (wpS_ltT hB' h0 (by (first | lia | omega)) (by (first | lia | omega)) ?_)
    rw [show lo + x - 1 = lo + (x - 1) by (first | lia | omega), show lo + x - (neq + 1) = lo + (x - (neq + 1)) by (first | lia | omega)]
    by_cases hless : K (arrOf st') (lo + x) < K (arrOf st') (lo + (x - 1))
    · simp only [hless, decide_true, if_true]
      have step1 : ∀ xs : Array Keyed, (∀ k, K xs k = K (arrOf st') k) → NonO xs lo (x + 1) := by
        intro xs hk i j hij hj
        rw [hk, hk]
        by_cases hjx : j < x
        · exact hs' i j hij hjx
        · have hj' : j = x := by (first | lia | omega)
          subst hj'
          by_cases hi' : i = j
          · subst hi'; exact Int.le_refl _
          · exact Int.le_trans (Int.le_of_lt hless) (hs' i (j - 1) (by (first | lia | omega)) (by (first | lia | omega)))
      by_cases hneq : neq > 0
      · rw [if_pos hneq]
        refine wpS_bind (wpS_reverse (wpS_pure ⟨0, rfl, hB'.mir (by (first | lia | omega)) hsz, step1 _ (K_mirO_eq (by (first | lia | omega)) hsz he), by (first | lia | omega), fun i h1 h2 => by congr 1; (first | lia | omega)⟩))
      · rw [if_neg hneq]
        exact wpS_pure ⟨0, rfl, hB', step1 _ (fun _ => rfl), by (first | lia | omega), fun i h1 h2 => by congr 1; (first | lia | omega)⟩
    · simp only [hless, decide_false, Bool.false_eq_true, if_false]
      refine wpS_bind (wpS_ltT hB' h0 (by (first | lia | omega)) (by (first | lia | omega)) ?_)
      by_cases hlarger : K (arrOf st') (lo + (x - 1)) < K (arrOf st') (lo + x)
      · simp only [hlarger, decide_true, if_true]
        exact wpS_pure (h x neq st' hB' hax (by (first | lia | omega)) hs' hq he)
      · simp only [hlarger, decide_false, Bool.false_eq_true, if_false]
        have heqx : K (arrOf st') (lo + x) = K (arrOf st') (lo + (x - 1)) := by (first | lia | omega)
        refine wpS_pure ⟨neq + 1, rfl, hB', fun i j hij hj => ?_, by (first | lia | omega), fun i h1 h2 => ?_⟩
        · by_cases hjx : j < x
          · exact hs' i j hij hjx
          · have hj' : j = x := by (first | lia | omega)
            subst hj'
            by_cases hi' : i = j
            · subst hi'; exact Int.le_refl _
            · rw [heqx]; exact hs' i (j - 1) (by (first | lia | omega)) (by (first | lia | omega))
        · rw [show x + 1 - 1 = x by (first | lia | omega)]
          by_cases hix : i = x
          · subst hix; rfl
          · rw [heqx]; exact he i (by (first | lia | omega)) (by (first | lia | omega))
theorem wpS_descPartO {st : SortSt} {n nrem : Nat} {Q : Option Nat → SortSt → Prop} (h0 : IntKeys a₀) (hn : lo + nrem ≤ a₀.size) (hnn : n + 1 ≤ nrem) (hB : TB a₀ pend lo b st)
    (hs : NonO (arrOf st) lo (n + 1)) (h : ∀ m st', TB a₀ pend lo b st' → 1 ≤ m → m ≤ nrem → SrtO (arrOf st') lo m → Q (some m) st') :
    wpS (model prog w) A E s (descPartO lo n nrem) Q st := by
  unfold descPartO
  refine wpS_bind (wpS_lift (wpAny_rule ⟨rfl, ?_⟩))
  refine wpS_bind (wpS_descO h0 hn (by (first | lia | omega)) hnn hB hs fun m neq st' hB' hm1 hm2 hs' hq he => ?_)
  dsimp only
  have hsz : lo + m ≤ (arrOf st').size := by rw [hB'.size]; (first | lia | omega)
  by_cases hneq : neq > 0
  · rw [if_pos hneq, show lo + m - (neq + 1) = lo + (m - (neq + 1)) by (first | lia | omega)]
    refine wpS_bind (wpS_reverse (wpS_tailO h0 hn (by (first | lia | omega)) hm2 (hB'.mir (by (first | lia | omega)) hsz) ?_ h))
    intro i j hij hj
    show K (mirror (arrOf st') _ _ _) (lo + j) ≤ K (mirror (arrOf st') _ _ _) (lo + i)
    rw [K_mirO_eq (by (first | lia | omega)) hsz he, K_mirO_eq (by (first | lia | omega)) hsz he]
    exact hs' i j hij hj
  · rw [if_neg hneq]
    exact wpS_tailO h0 hn (by (first | lia | omega)) hm2 hB' hs' h
theorem wpS_countO {st : SortSt} {nrem : Nat} {Q : Option Nat → SortSt → Prop} (h0 : IntKeys a₀) (hn : lo + nrem ≤ a₀.size) (h1 : 1 ≤ nrem) (hB : TB a₀ pend lo b st)
    (h : ∀ m st', TB a₀ pend lo b st' → 1 ≤ m → m ≤ nrem → SrtO (arrOf st') lo m → Q (some m) st') :
    wpS (model prog w) A E s (countRun' lo nrem) Q st := by
  rw [countO_eq]
  refine wpS_bind (wpS_ascO h0 hn (Nat.le_refl 1) h1 hB (fun i j hij hj => by have : i = j := by (first | lia | omega)
                                                                              subst this; exact Int.le_refl _) fun n hn1 hn2 hsn hor => ?_)
  dsimp only
  by_cases hnn : n = nrem
  · rw [if_pos (by simpa using hnn)]
    exact wpS_pure (h n st hB hn1 hn2 hsn)
  · rw [if_neg (by simpa using hnn)]
    have hlt : K (arrOf st) (lo + n) < K (arrOf st) (lo + (n - 1)) := hor.resolve_left hnn
    by_cases hgt : n > 1
    · rw [if_pos hgt]
      refine wpS_bind (wpS_ltT hB h0 (by (first | lia | omega)) (by (first | lia | omega)) ?_)
      rw [show lo + n - 1 = lo + (n - 1) by (first | lia | omega)]
      by_cases hrose : K (arrOf st) lo < K (arrOf st) (lo + (n - 1))
      · simp only [hrose, decide_true, if_true]
        exact wpS_pure (h n st hB hn1 hn2 hsn)
      · simp only [hrose, decide_false, Bool.false_eq_true, if_false]
        have hsz : lo + n ≤ (arrOf st).size := by rw [hB.size]; (first | lia | omega)
        have hall : ∀ k, 0 ≤ k → k < n → K (arrOf st) (lo + k) = K (arrOf st) (lo + (n - 1)) := by
          intro k _ hk
          have a1 := hsn 0 k (by (first | lia | omega)) hk
          have a2 := hsn k (n - 1) (by (first | lia | omega)) (by (first | lia | omega))
          rw [Nat.add_zero] at a1
          (first | lia | omega)
        have hmir : ∀ k, K (mirror (arrOf st) lo (lo + n) ((lo + n - lo) / 2)) k = K (arrOf st) k := K_mirO_eq (m := 0) (by (first | lia | omega)) hsz hall
        refine wpS_bind (wpS_reverse (wpS_descPartO h0 hn (by (first | lia | omega)) (hB.mir (Nat.le_refl _) hsz) ?_ h))
        intro i j hij hj
        show K (mirror (arrOf st) _ _ _) (lo + j) ≤ K (mirror (arrOf st) _ _ _) (lo + i)
        rw [hmir, hmir]
        by_cases hjn : j < n
        · rw [hall i (by (first | lia | omega)) (by (first | lia | omega)), hall j (by (first | lia | omega)) hjn]; exact Int.le_refl _
        · have hj' : j = n := by (first | lia | omega)
          subst hj'
          by_cases hi' : i = j
          · subst hi'; exact Int.le_refl _
          · rw [hall i (by (first | lia | omega)) (by (first | lia | omega))]; exact Int.le_of_lt hlt
    · rw [if_neg hgt]
      have hn1' : n = 1 := by (first | lia | omega)
      subst hn1'
      refine wpS_descPartO h0 hn (by (first | lia | omega)) hB ?_ h
      intro i j hij hj
      by_cases hi' : i = j
      · subst hi'; exact Int.le_refl _
      · have hi0 : i = 0 := by (first | lia | omega)
        have hj1 : j = 1 := by (first | lia | omega)
        subst hi0; subst hj1
        exact Int.le_of_lt hlt
theorem wpS_binO {st : SortSt} {n ok : Nat} {Q : Bool → SortSt → Prop} (h0 : IntKeys a₀) (hn : lo + n ≤ a₀.size) (hok : ok ≤ n) (hB : TB a₀ pend lo b st) (hs : SrtO (arrOf st) lo ok)
    (h : ∀ st', TB a₀ pend lo b st' → SrtO (arrOf st') lo n → Q true st') : wpS (model prog w) A E s (binarySort' lo n ok) Q st := by
  rw [binarySort'_eq]
  refine wpS_bind (wpS_mono (wpS_forRange (I := fun k c st' => c = (none, ()) ∧ TB a₀ pend lo b st' ∧ SrtO (arrOf st') lo (min k n))
    (Q := fun c st' => c = (none, ()) ∧ TB a₀ pend lo b st' ∧ SrtO (arrOf st') lo n) ?step ?fin ?init) ?post)
  case post =>
    rintro c st' ⟨rfl, hB', hs'⟩
    exact wpS_pure (h st' hB' hs')
  case init =>
    refine ⟨rfl, hB, fun i j hij hj => ?_⟩
    by_cases h1 : ok = 0
    · have : i = j := by (first | lia | omega)
      subst this; exact Int.le_refl _
    · exact hs i j hij (by (first | lia | omega))
  case fin =>
    rintro c st' ⟨hc, hB', hs'⟩
    refine ⟨hc, hB', ?_⟩
    rwa [show min (max (max ok 1) n) n = n by (first | lia | omega)] at hs'
  case step =>
    rintro k c st' hak hkn ⟨rfl, hB', hs'⟩
    rw [show min k n = k by (first | lia | omega)] at hs'
    have hk : lo + k < a₀.size := by (first | lia | omega)
    refine wpS_bind (wpS_mono (wpS_forRange (I := fun x c st'' => st'' = st' ∧ ∃ l r, c = (none, l, r) ∧ l ≤ r ∧ r ≤ k ∧ r - l ≤ k - x ∧
        (∀ i, i < l → K (arrOf st') (lo + i) ≤ K (arrOf st') (lo + k)) ∧ (∀ i, r ≤ i → i < k → K (arrOf st') (lo + k) < K (arrOf st') (lo + i)))
      (Q := fun c st'' => st'' = st' ∧ ∃ l r, c = (none, l, r) ∧ l ≤ k ∧
        (∀ i, i < l → K (arrOf st') (lo + i) ≤ K (arrOf st') (lo + k)) ∧ (∀ i, l ≤ i → i < k → K (arrOf st') (lo + k) < K (arrOf st') (lo + i))) ?istep ?ifin ?iinit) ?ipost)
    case iinit => exact ⟨rfl, 0, k, rfl, by (first | lia | omega), by (first | lia | omega), by (first | lia | omega), fun i hi => by (first | lia | omega), fun i h1 h2 => by (first | lia | omega)⟩
    case ifin =>
      rintro c st'' ⟨rfl, l, r, rfl, hlr, hrk, hm, hlo, hhi⟩
      have : l = r := by (first | lia | omega)
      subst this
      exact ⟨rfl, l, l, rfl, hrk, hlo, hhi⟩
    case istep =>
      rintro x c st'' _ hxk ⟨rfl, l, r, rfl, hlr, hrk, hm, hlo, hhi⟩
      dsimp only
      by_cases hge : l ≥ r
      · rw [if_pos hge]
        have : l = r := by (first | lia | omega)
        subst this
        exact wpS_pure ⟨rfl, l, l, rfl, hrk, hlo, hhi⟩
      · rw [if_neg hge]
        refine wpS_bind (wpS_ltT hB' h0 hk (by (first | lia | omega)) ?_)
        by_cases hless : K (arrOf st'') (lo + k) < K (arrOf st'') (lo + (l + r) / 2)
        · simp only [hless, decide_true, if_true]
          refine wpS_pure ⟨rfl, l, (l + r) / 2, rfl, by (first | lia | omega), by (first | lia | omega), by (first | lia | omega), hlo, fun i h1 h2 => ?_⟩
          exact Int.lt_of_lt_of_le hless (hs' _ _ h1 h2)
        · simp only [hless, decide_false, Bool.false_eq_true, if_false]
          refine wpS_pure ⟨rfl, (l + r) / 2 + 1, r, rfl, by (first | lia | omega), by (first | lia | omega), by (first | lia | omega), fun i h1 => ?_, hhi⟩
          exact Int.le_trans (hs' i ((l + r) / 2) (by (first | lia | omega)) (by (first | lia | omega))) (Int.not_lt.mp hless)
    case ipost =>
      rintro c st'' ⟨rfl, l, r, rfl, hlk, hlo, hhi⟩
      show wpS _ _ _ _ (do moveDown' (lo + k) (lo + l); pure (ForInStep.yield (none, ()))) _ _
      rw [moveDown'_eq]
      have hks : lo + k < (arrOf st'').size := by rw [hB'.size]; exact hk
      refine wpS_bind (wpS_modify (wpS_pure ⟨rfl, hB'.set (bubble_perm _ _ _) (fun q hq => by rw [K_bubble hks (by (first | lia | omega)), if_neg (by (first | lia | omega)), if_neg (by (first | lia | omega))]), ?_⟩))
      rw [show min (k + 1) n = k + 1 by (first | lia | omega)]
      intro i j hij hj
      show K (bubble (arrOf st'') (lo + k) (lo + k - (lo + l))) (lo + i) ≤ K (bubble (arrOf st'') (lo + k) (lo + k - (lo + l))) (lo + j)
      rw [K_bubble hks (by (first | lia | omega)), K_bubble hks (by (first | lia | omega)), show lo + k - (lo + k - (lo + l)) = lo + l by (first | lia | omega)]
      have sub1 : ∀ q, lo < q → q - 1 = lo + (q - lo - 1) := fun q hq => by (first | lia | omega)
      repeat' split
      all_goals first
        | (exfalso; (first | lia | omega))
        | exact Int.le_refl _
        | exact hlo _ (by (first | lia | omega))
        | exact hs' _ _ (by (first | lia | omega)) (by (first | lia | omega))
        | (rw [sub1 (lo + j) (by (first | lia | omega))]; exact Int.le_of_lt (hhi _ (by (first | lia | omega)) (by (first | lia | omega))))
        | (rw [sub1 (lo + i) (by (first | lia | omega)), sub1 (lo + j) (by (first | lia | omega))]; exact hs' _ _ (by (first | lia | omega)) (by (first | lia | omega)))
        | (rw [sub1 (lo + j) (by (first | lia | omega))]; exact hs' _ _ (by (first | lia | omega)) (by (first | lia | omega)))
        | (rw [sub1 (lo + i) (by (first | lia | omega))]; exact hs' _ _ (by (first | lia | omega)) (by (first | lia | omega)))
end ts
end
section
open PySem PyProof.Rows
set_option maxHeartbeats 2000000
/-- the stretches that are pending tile s to e, each in order -/
noncomputable def TR (a : Array Keyed) : List (Nat × Nat × Nat) → Nat → Nat → Prop
  | [], s, e => s = e
  | x :: l, s, e => x.1 = s ∧ 0 < x.2.1 ∧ RunAt a s x.2.1 ∧ TR a l (s + x.2.1) e
theorem TR.le {a : Array Keyed} : ∀ {l : List (Nat × Nat × Nat)} {s e : Nat}, TR a l s e → s + l.length ≤ e
  | [], s, e, h => by cases h; simp
  | x :: l, s, e, h => by have := h.2.2.2.le; have := h.2.1; rw [List.length_cons]; (first | lia | omega)
theorem RunAt.congr {a a' : Array Keyed} {lo n : Nat} (h : RunAt a lo n) (k : ∀ i, lo ≤ i → i < lo + n → K a' i = K a i) : RunAt a' lo n := fun i j h1 h2 h3 => by
  rw [k i h1 (by (first | lia | omega)), k j (by (first | lia | omega)) h3]; exact h i j h1 h2 h3
theorem TR.congr {a a' : Array Keyed} : ∀ {l : List (Nat × Nat × Nat)} {s e : Nat}, TR a l s e → (∀ i, s ≤ i → i < e → K a' i = K a i) → TR a' l s e
  | [], _, _, h, _ => h
  | x :: l, s, e, h, k => by
    have := h.2.2.2.le
    exact ⟨h.1, h.2.1, h.2.2.1.congr fun i h1 h2 => k i h1 (by (first | lia | omega)), h.2.2.2.congr fun i h1 h2 => k i (by (first | lia | omega)) h2⟩
theorem TR.push {a : Array Keyed} {n p : Nat} (h0 : 0 < n) : ∀ {l : List (Nat × Nat × Nat)} {s e : Nat}, TR a l s e → RunAt a e n → TR a (l ++ [(e, n, p)]) s (e + n)
  | [], s, e, h, r => by cases h; exact ⟨rfl, h0, r, rfl⟩
  | x :: l, s, e, h, r => ⟨h.1, h.2.1, h.2.2.1, h.2.2.2.push h0 r⟩
theorem TR.powers {a : Array Keyed} {f : Nat × Nat × Nat → Nat × Nat × Nat} (hf : ∀ x, (f x).1 = x.1 ∧ (f x).2.1 = x.2.1) : ∀ {l : List (Nat × Nat × Nat)} (i : Nat) {s e : Nat}, TR a l s e → TR a (l.modify i f) s e
  | [], i, s, e, h => by simpa using h
  | x :: l, 0, s, e, h => by
    rw [List.modify_cons, if_pos rfl]
    obtain ⟨h1, h2⟩ := hf x
    exact ⟨h1.trans h.1, by rw [h2]; exact h.2.1, by rw [h2]; exact h.2.2.1, by rw [h2]; exact h.2.2.2⟩
  | x :: l, i + 1, s, e, h => by
    rw [List.modify_cons, if_neg (by (first | lia | omega))]
    exact ⟨h.1, h.2.1, h.2.2.1, h.2.2.2.powers hf _⟩
theorem TR.merge {a : Array Keyed} {sa na sb nb pw q : Nat} : ∀ {i : Nat} {l : List (Nat × Nat × Nat)} {s e : Nat}, TR a l s e → l[i]? = some (sa, na, pw) → l[i + 1]? = some (sb, nb, q) →
    sb = sa + na ∧ 0 < na ∧ 0 < nb ∧ s ≤ sa ∧ sa + na + nb ≤ e ∧ RunAt a sa na ∧ RunAt a (sa + na) nb ∧ ∀ a', Merged a a' sa (na + nb) → TR a' ((l.set i (sa, na + nb, pw)).eraseIdx (i + 1)) s e
  | 0, x :: y :: l, s, e, h, h1, h2 => by
    simp only [List.getElem?_cons_zero, Option.some.injEq] at h1
    simp only [List.getElem?_cons_succ, List.getElem?_cons_zero, Option.some.injEq] at h2
    subst h1 h2
    obtain ⟨a1, a2, a3, a4, a5, a6, a7⟩ := h
    simp only at a1 a2 a3 a4 a5 a6 a7
    subst a1
    have := a7.le
    refine ⟨a4, a2, a5, Nat.le_refl _, by (first | lia | omega), a3, a6, fun a' M => ⟨rfl, by show 0 < na + nb; (first | lia | omega), M.run, ?_⟩⟩
    show TR a' l (sa + (na + nb)) e
    rw [show sa + (na + nb) = sa + na + nb by (first | lia | omega)]
    exact a7.congr fun i h1 h2 => M.out i (.inr (by (first | lia | omega)))
  | 0, [x], s, e, h, h1, h2 => by simp at h2
  | 0, [], s, e, h, h1, h2 => by simp at h1
  | i + 1, [], s, e, h, h1, h2 => by simp at h1
  | i + 1, x :: l, s, e, h, h1, h2 => by
    rw [List.getElem?_cons_succ] at h1 h2
    obtain ⟨b1, b2, b3, b4, b5, b6, b7, b8⟩ := h.2.2.2.merge h1 h2
    refine ⟨b1, b2, b3, by (first | lia | omega), b5, b6, b7, fun a' M => ⟨h.1, h.2.1, h.2.2.1.congr fun j h1 h2 => M.out j (.inl (by (first | lia | omega))), ?_⟩⟩
    exact b8 a' M
theorem TR.one {a : Array Keyed} {l : List (Nat × Nat × Nat)} {e : Nat} (h : TR a l 0 e) (h1 : l.length ≤ 1) (he : 0 < e) : RunAt a 0 e := by
  match l, h with
  | [], h => cases h; (first | lia | omega)
  | [x], h =>
    obtain ⟨_, _, h3, h4⟩ := h
    have h4' : 0 + x.2.1 = e := h4
    rw [show e = x.2.1 by (first | lia | omega)]; exact h3
  | _ :: _ :: _, _ => simp at h1
/-- the state between the runs -/
structure SI (a₀ : Array Keyed) (lo : Nat) (st : SortSt) : Prop where
  perm : (arrOf st).Perm a₀
  kind : kindOf st = oneType'
  failed : failedOf st = none
  tr : TR (arrOf st) (pendingOf st).toList 0 lo
section ts
variable {prog : Program} {w : World} {A : Around} {E : Value → Shared → Prop} {s : Shared} {a₀ : Array Keyed}
theorem SI.ints {lo : Nat} {st : SortSt} (h : SI a₀ lo st) (h0 : IntKeys a₀) : ∀ p ∈ (arrOf st).toList, IsI p := fun p hp => h0 p ((Array.perm_iff_toList_perm.mp h.perm).mem_iff.mp hp)
theorem wpS_mergeI {i lo : Nat} {st : SortSt} {Q : Bool → SortSt → Prop} (h0 : IntKeys a₀) (hS : SI a₀ lo st) (hl : lo ≤ a₀.size) (hi : i + 1 < (pendingOf st).size)
    (h : ∀ st', SI a₀ lo st' → (pendingOf st').size + 1 = (pendingOf st).size → (∀ k, lo ≤ k → K (arrOf st') k = K (arrOf st) k) → Q true st') : wpS (model prog w) A E s (mergeAt' i) Q st := by
  obtain ⟨⟨sa, na, pw⟩, h1⟩ : ∃ x, (pendingOf st)[i]? = some x := ⟨_, getElem?_pos _ i (by (first | lia | omega))⟩
  obtain ⟨⟨sb, nb, q⟩, h2⟩ : ∃ x, (pendingOf st)[i + 1]? = some x := ⟨_, getElem?_pos _ (i + 1) hi⟩
  obtain ⟨b1, b2, b3, b4, b5, b6, b7, b8⟩ := hS.tr.merge (i := i) (by rw [Array.getElem?_toList]; exact h1) (by rw [Array.getElem?_toList]; exact h2)
  subst b1
  have hsz : (arrOf st).size = a₀.size := hS.perm.size_eq
  refine wpS_mergeAt hS.kind hS.failed (hS.ints h0) h1 h2 b2 b3 (by (first | lia | omega)) b6 b7 fun st' k1 k2 k3 M => ?_
  refine h st' ⟨M.perm.trans hS.perm, k1, k2, ?_⟩ ?_ fun k hk => M.out k (.inr (by (first | lia | omega)))
  · rw [k3]
    have := b8 _ M
    rw [Array.toList_eraseIdxIfInBounds, Array.toList_setIfInBounds]
    exact this
  · rw [k3]
    rw [← Array.length_toList, Array.toList_eraseIdxIfInBounds, Array.toList_setIfInBounds, List.length_eraseIdx, List.length_set, Array.length_toList, if_pos hi]; (first | lia | omega)
noncomputable def restI (size lo n : Nat) : StateT SortSt Sem (ForInStep (Option Unit × Nat)) := do
  let __do_lift ← get
  match (pendingOf __do_lift).back? with
  | some (s1, n1, _) => do
    let __s ← forIn [:size] ((none, ()) : Option Unit × Unit) fun _ _ => do
      let __do_lift ← get
      match if (pendingOf __do_lift).size > 1 then (pendingOf __do_lift)[(pendingOf __do_lift).size - 2]? else none with
      | some (_, _, older) =>
        if older ≤ power' size (2 * s1 + n1) (2 * s1 + n1 + n1 + n) size then pure (ForInStep.done (none, ()))
        else do
          let __do_lift ← mergeAt' ((pendingOf __do_lift).size - 2)
          if (!__do_lift) = true then pure (ForInStep.done (some (), ())) else pure (ForInStep.yield (none, ()))
      | _ => pure (ForInStep.done (none, ()))
    match __s.fst with
    | some r => pure (ForInStep.done (some r, lo))
    | none => do
      modify fun s => setPending s ((pendingOf s).modify ((pendingOf s).size - 1) fun x => (x.fst, x.2.fst, power' size (2 * s1 + n1) (2 * s1 + n1 + n1 + n) size))
      modify fun s => setPending s ((pendingOf s).push (lo, n, 0))
      pure (ForInStep.yield (none, lo + n))
  | _ => do
    modify fun s => setPending s ((pendingOf s).push (lo, n, 0))
    pure (ForInStep.yield (none, lo + n))
theorem SI.pushed {lo n : Nat} {st : SortSt} (hS : SI a₀ lo st) (hr : RunAt (arrOf st) lo n) (h1 : 1 ≤ n) : SI a₀ (lo + n) (setPending st ((pendingOf st).push (lo, n, 0))) :=
  ⟨hS.perm, hS.kind, hS.failed, by
    show TR (arrOf st) ((pendingOf st).push (lo, n, 0)).toList 0 (lo + n)
    rw [Array.toList_push]; exact hS.tr.push h1 hr⟩
theorem wpS_restI {lo n : Nat} {st : SortSt} {Q : ForInStep (Option Unit × Nat) → SortSt → Prop} (h0 : IntKeys a₀) (hS : SI a₀ lo st) (hr : RunAt (arrOf st) lo n) (h1 : 1 ≤ n) (hn : lo + n ≤ a₀.size)
    (h : ∀ st', SI a₀ (lo + n) st' → Q (.yield (none, lo + n)) st') : wpS (model prog w) A E s (restI a₀.size lo n) Q st := by
  unfold restI
  refine wpS_bind (wpS_get ?_)
  cases e : (pendingOf st).back? with
  | none =>
    dsimp only
    exact wpS_bind (wpS_modify (wpS_pure (h _ (hS.pushed hr h1))))
  | some x =>
    obtain ⟨s1, n1, p1⟩ := x
    dsimp only
    refine wpS_bind (wpS_mono (wpS_forRange (I := fun x c st' => c = (none, ()) ∧ SI a₀ lo st' ∧ RunAt (arrOf st') lo n) (Q := fun c st' => c = (none, ()) ∧ SI a₀ lo st' ∧ RunAt (arrOf st') lo n) ?_ (fun _ _ h => h) ⟨rfl, hS, hr⟩) ?_)
    · rintro x c st' _ hx ⟨rfl, hS', hr'⟩
      refine wpS_bind (wpS_get ?_)
      by_cases h2 : (pendingOf st').size > 1
      · rw [if_pos h2, getElem?_pos _ ((pendingOf st').size - 2) (by (first | lia | omega))]
        dsimp only
        by_cases h3 : (pendingOf st')[(pendingOf st').size - 2].2.2 ≤ power' a₀.size (2 * s1 + n1) (2 * s1 + n1 + n1 + n) a₀.size
        · rw [if_pos h3]; exact wpS_pure ⟨rfl, hS', hr'⟩
        · rw [if_neg h3]
          refine wpS_bind (wpS_mergeI h0 hS' (by (first | lia | omega)) (by (first | lia | omega)) fun st3 hS3 hn3 hk3 => ?_)
          simp only [Bool.not_true, Bool.false_eq_true, if_false]
          exact wpS_pure ⟨rfl, hS3, hr'.congr fun i h1 _ => hk3 i h1⟩
      · rw [if_neg h2]
        exact wpS_pure ⟨rfl, hS', hr'⟩
    · rintro c st' ⟨rfl, hS', hr'⟩
      dsimp only
      refine wpS_bind (wpS_modify ?_)
      refine wpS_bind (wpS_modify (wpS_pure (h _ (SI.pushed ⟨hS'.perm, hS'.kind, hS'.failed, ?_⟩ hr' h1))))
      show TR (arrOf st') ((pendingOf st').modify _ _).toList 0 lo
      rw [Array.toList_modify]
      exact hS'.tr.powers (f := fun x => (x.fst, x.2.fst, power' a₀.size (2 * s1 + n1) (2 * s1 + n1 + n1 + n) a₀.size)) (fun x => ⟨rfl, rfl⟩) _
theorem wpS_sortAll {st : SortSt} {Q : Unit → SortSt → Prop} (h0 : IntKeys a₀) (hp : (arrOf st).Perm a₀) (hk : kindOf st = oneType') (hf : failedOf st = none) (he : pendingOf st = #[]) (h2 : 2 ≤ a₀.size)
    (h : ∀ st', (arrOf st').Perm a₀ → failedOf st' = none → SortedTo (arrOf st') a₀.size → Q () st') : wpS (model prog w) A E s sortRuns' Q st := by
  rw [sortRuns'_eq]
  refine wpS_bind (wpS_get ?_)
  dsimp only
  have hsz : ∀ {lo : Nat} {st : SortSt}, SI a₀ lo st → (arrOf st).size = a₀.size := fun h => h.perm.size_eq
  simp only [hp.size_eq]
  generalize minRun' a₀.size a₀.size 0 = mr
  refine wpS_bind (wpS_mono (wpS_forRange
    (I := fun x c st' => ∃ lo, c = (none, lo) ∧ lo ≤ a₀.size ∧ min x a₀.size ≤ lo ∧ SI a₀ lo st')
    (Q := fun c st' => c = (none, a₀.size) ∧ SI a₀ a₀.size st') ?step ?fin ⟨0, rfl, by (first | lia | omega), by (first | lia | omega), hp, hk, hf, by rw [he]; rfl⟩) ?post)
  case fin =>
    rintro c st' ⟨lo, rfl, h1, h2, hS⟩
    have : lo = a₀.size := by (first | lia | omega)
    subst this
    exact ⟨rfl, hS⟩
  case step =>
    rintro x c st1 _ hx ⟨lo, rfl, g1, g2, hS⟩
    dsimp only
    by_cases hge : lo ≥ a₀.size
    · rw [if_pos hge]
      have : lo = a₀.size := by (first | lia | omega)
      subst this
      exact wpS_pure ⟨rfl, hS⟩
    rw [if_neg hge]
    have hB : TB a₀ (pendingOf st1) lo (arrOf st1) st1 := ⟨hS.perm, hS.kind, hS.failed, rfl, fun _ _ => rfl⟩
    refine wpS_bind (wpS_countO h0 (by (first | lia | omega)) (by (first | lia | omega)) hB fun m st2 hB2 hm1 hm2 hs2 => ?_)
    dsimp only
    have fin : ∀ n st3 (Q' : ForInStep (Option Unit × Nat) → SortSt → Prop), TB a₀ (pendingOf st1) lo (arrOf st1) st3 → SrtO (arrOf st3) lo n → 1 ≤ n → lo + n ≤ a₀.size →
        (∀ st', SI a₀ (lo + n) st' → Q' (.yield (none, lo + n)) st') → wpS (model prog w) A E s (restI a₀.size lo n) Q' st3 := by
      intro n st3 Q' hB3 hs3 hn1 hn2 hq
      refine wpS_restI h0 ⟨hB3.perm, hB3.kind, hB3.failed, ?_⟩ hs3.run hn1 hn2 hq
      rw [hB3.pend]
      exact hS.tr.congr fun i _ h2 => hB3.pre i h2
    by_cases hlt : m < mr
    · rw [if_pos hlt]
      refine wpS_bind (wpS_lift (wpAny_rule ⟨rfl, ?_⟩))
      refine wpS_bind (wpS_binO h0 (by (first | lia | omega)) (by (first | lia | omega)) hB2 hs2 fun st3 hB3 hs3 => ?_)
      simp only [Bool.not_true, Bool.false_eq_true, if_false]
      refine wpS_mono (Q := fun c st' => c = .yield (none, lo + min (a₀.size - lo) mr) ∧ SI a₀ (lo + min (a₀.size - lo) mr) st') (Eq.mp (by
        unfold restI
        congr 1
        congr 1
        funext g
        congr 1
        funext s1 n1 q
        congr 1
        congr 1
        funext u
        obtain ⟨r, _⟩ := u
        cases r with
        | some r => rfl
        | none => rfl) (fin (min (a₀.size - lo) mr) st3 (fun c st' => c = .yield (none, lo + min (a₀.size - lo) mr) ∧ SI a₀ (lo + min (a₀.size - lo) mr) st') hB3 hs3 (by (first | lia | omega)) (by (first | lia | omega)) fun st' hS' => ⟨rfl, hS'⟩)) ?_
      rintro c st' ⟨rfl, hS'⟩
      exact ⟨_, rfl, by (first | lia | omega), by (first | lia | omega), hS'⟩
    · rw [if_neg hlt]
      refine wpS_mono (Q := fun c st' => c = .yield (none, lo + m) ∧ SI a₀ (lo + m) st') (Eq.mp (by
        unfold restI
        congr 1
        congr 1
        funext g
        congr 1
        funext s1 n1 q
        congr 1
        congr 1
        funext u
        obtain ⟨r, _⟩ := u
        cases r with
        | some r => rfl
        | none => rfl) (fin m st2 (fun c st' => c = .yield (none, lo + m) ∧ SI a₀ (lo + m) st') hB2 hs2 hm1 (by (first | lia | omega)) fun st' hS' => ⟨rfl, hS'⟩)) ?_
      rintro c st' ⟨rfl, hS'⟩
      exact ⟨_, rfl, by (first | lia | omega), by (first | lia | omega), hS'⟩
  case post =>
    rintro c st' ⟨rfl, hS⟩
    dsimp only
    refine wpS_bind (wpS_mono (wpS_forRange (I := fun x c st'' => c = (none, ()) ∧ SI a₀ a₀.size st'' ∧ (pendingOf st'').size + x ≤ a₀.size + 1)
      (Q := fun c st'' => c = (none, ()) ∧ SI a₀ a₀.size st'' ∧ (pendingOf st'').size ≤ 1) ?_ ?_ ⟨rfl, hS, ?_⟩) ?_)
    · rintro x c st'' _ hx ⟨rfl, hS, hn⟩
      refine wpS_bind (wpS_get ?_)
      by_cases h1 : (pendingOf st'').size ≤ 1
      · rw [if_pos h1]
        exact wpS_pure ⟨rfl, hS, h1⟩
      · rw [if_neg h1]
        refine wpS_bind (wpS_mergeI h0 hS (Nat.le_refl _) ?_ fun st3 hS3 hn3 _ => ?_)
        · have a1 : ∀ {c : Prop} [Decidable c], (if c then (pendingOf st'').size - 2 - 1 else (pendingOf st'').size - 2) ≤ (pendingOf st'').size - 2 := fun {c} _ => by split <;> (first | lia | omega)
          exact Nat.lt_of_le_of_lt (Nat.add_le_add_right a1 1) (by (first | lia | omega))
        · simp only [Bool.not_true, Bool.false_eq_true, if_false]
          exact wpS_pure ⟨rfl, hS3, by (first | lia | omega)⟩
    · rintro c st'' ⟨rfl, hS, hn⟩
      exact ⟨rfl, hS, by (first | lia | omega)⟩
    · have := hS.tr.le
      simp only [Array.length_toList] at this
      (first | lia | omega)
    · rintro c st'' ⟨rfl, hS, hn⟩
      have hr := hS.tr.one (by simpa using hn) (by (first | lia | omega))
      exact wpS_pure (h _ hS.perm hS.failed fun i j hij hj => hr i j (Nat.zero_le _) hij (by (first | lia | omega)))
end ts
end
section
open PySem PySem.W PySem.Calls PyProof.Rows
set_option maxHeartbeats 2000000
section ts
variable {prog : Program} {w : World} {A : Around} {E : Value → Shared → Prop} {s : Shared}
/-- list.sort of ints, whatever their number -/
theorem sort_tree {a : Addr} {vs : List Value} {ns : List Int} {n : Nat} {P : Fin → Shared → Prop} (ho : s.heap.get? a = some (seqObj "list" vs.toArray n))
    (hI : IntsAre vs ns) (hL : vs.length ≤ 4096)
    (h : ∀ (out : Array Value) (ns' : List Int), IntsAre out.toList ns' → ns'.Perm ns → ns'.Pairwise (· ≤ ·) → P (.done (.ret .none)) { s with heap := sortedHeap s.heap a vs out }) :
    wpAny (model prog w) A (Builtin.«list.sort» ⟨[.ref a], []⟩) P E s := by
  by_cases h64 : vs.length < 64
  · exact list_sort_tree ho hI h64 h
  rw [list_sort_plain]
  have ha : a < s.heap.objs.size := Heap.lt_size ho
  have h2 : ¬ vs.toArray.size < 2 := by simp; (first | lia | omega)
  refine wpAny_bind (listItems_at ho rfl ?_)
  refine wpAny_bind (listUpdate_at ho rfl ?_ (hsz := by rw [sizeLine_eq]; simp; omega))
  obtain ⟨e1, ho1⟩ : ∃ e1, (s.heap.update a (Obj.mapSeq fun _ => #[])).get? a = some (seqObj "list" #[] e1) := ⟨_, get?_update_seq ho (fun _ => #[])⟩
  refine wpAny_bind (seqEpoch_at ho1 rfl ?_)
  refine wpAny_bind (wpAny_newTuple ?_ (by rw [sizeLine_eq]; simp; omega))
  refine wpAny_bind (wpAny_newList ?_)
  refine wpAny_holding ?_
  have ho6 : (((s.heap.update a (Obj.mapSeq fun _ => #[])).push (seqObj "tuple" vs.toArray 0)).push (seqObj "list" #[] 0)).get? a = some (seqObj "list" #[] e1) := by
    rw [Heap.get?_push_ne _ _ _ (by rw [size_push', Heap.size_update]; exact Nat.ne_of_lt (Nat.lt_succ_of_lt ha)), Heap.get?_push_ne _ _ _ (by rw [Heap.size_update]; exact Nat.ne_of_lt ha)]
    exact ho1
  show wpAny (model prog w) A _ P E { s with heap := ((s.heap.update a (Obj.mapSeq fun _ => #[])).push (seqObj "tuple" vs.toArray 0)).push (seqObj "list" #[] 0) }
  dsimp only
  rw [if_neg h2, if_neg h2]
  obtain ⟨v₁, v₂, rest, rfl⟩ : ∃ v₁ v₂ rest, vs = v₁ :: v₂ :: rest := by
    match vs, h2 with
    | [], h2 => simp at h2
    | [_], h2 => simp at h2
    | v₁ :: v₂ :: rest, _ => exact ⟨v₁, v₂, rest, rfl⟩
  rw [keyKind_ints hI]
  refine wpAny_bind (wpAny_pure ?_)
  refine wpAny_bind (wpAny_mono (wpS_sortAll (a₀ := pairsOf (v₁ :: v₂ :: rest)) (st := SortSt.mk' oneType' ((v₁ :: v₂ :: rest).toArray.zip (v₁ :: v₂ :: rest).toArray) #[] 7 none)
    (Q := fun _ st' => (arrOf st').Perm (pairsOf (v₁ :: v₂ :: rest)) ∧ failedOf st' = none ∧ SortedTo (arrOf st') (pairsOf (v₁ :: v₂ :: rest)).size)
    hI.intKeys (Array.Perm.refl _) rfl rfl rfl (by rw [pairsOf_size]; simp) fun st' a1 a2 a3 => ⟨a1, a2, a3⟩) ?_ fun _ _ e => e)
  rintro ⟨⟨⟩, st'⟩ s' ⟨rfl, hp, hf, hs⟩
  dsimp only
  refine wpAny_bind (seqEpoch_at ho6 rfl ?_)
  refine wpAny_bind (listUpdate_at ho6 rfl ?_ (hsz2 := by refine Nat.le_trans (Nat.le_of_eq ((Array.size_map ..).trans (hp.size_eq.trans (pairsOf_size _)))) ?_; rw [sizeLine_eq]; omega))
  rw [hf]
  simp only [bne_self_eq_false, Bool.false_eq_true, if_false]
  obtain ⟨ns', b1, b2, b3⟩ := sorted_out hI hp hs
  exact wpAny_pure (h _ ns' b1 b2 b3)
/-- list.sort upon a list of the ledger -/
theorem sort_N {h₀ : Heap} {L : Addr} {m : PySem.Str → Option Value} {news : List (Addr × Obj)} {a : Addr} {vs : List Value} {ns : List Int} {n : Nat} {Q : Value → Shared → Prop}
    (F : Fr h₀ L s.heap m) (N : News h₀ L s.heap ((a, seqObj "list" vs.toArray n) :: news)) (off : ∀ p ∈ news, p.1 ≠ a) (hI : IntsAre vs ns) (hL : vs.length ≤ 4096)
    (h : ∀ (h' : Heap) (vs' : List Value) (ns' : List Int) (e : Nat), Fr h₀ L h' m → News h₀ L h' ((a, seqObj "list" vs'.toArray e) :: news) → IntsAre vs' ns' → ns'.Perm ns → ns'.Pairwise (· ≤ ·) → Q .none { s with heap := h' }) :
    wpAny (model prog w) A (call (.builtin "list.sort") [.ref a]) Q E s := by
  have ho := (N _ (.head _)).1
  refine wpAny_call_entry slot_list_sort ⟨_, ho, rfl⟩ entry_list_sort (sort_tree ho hI hL fun out ns' a1 a2 a3 => ⟨_, rfl, ?_⟩) (args_list_sort _)
  obtain ⟨e, he⟩ := sortedHeap_at (out := out) ho
  have keep : ∀ b o, b ≠ a → s.heap.get? b = some o → (sortedHeap s.heap a vs out).get? b = some o := fun b o hb hg => by rw [sortedHeap_old hb (Heap.lt_size hg)]; exact hg
  have Na := N _ (.head _)
  refine h _ out.toList ns' e ?_ ?_ a1 a2 a3
  · obtain ⟨oL, b1, b2, hL, b3⟩ := F.ns
    refine ⟨⟨oL, b1, b2, keep _ _ (fun e => Na.2.1 e.symm) hL, b3⟩, fun b o eb => keep _ _ (fun e => ?_) (F.keep b o eb), F.above⟩
    subst e
    have := Na.2.2
    rw [eb] at this; cases this
  · intro p hp
    rcases List.mem_cons.mp hp with rfl | hp
    · exact ⟨he, Na.2.1, Na.2.2⟩
    · have Np := N p (.tail _ hp)
      exact ⟨keep _ _ (off p hp) Np.1, Np.2.1, Np.2.2⟩
theorem sorted_any {l : Addr} {vs : List Value} {ns : List Int} {Q : Value → Shared → Prop} (hl : s.heap.IsList l vs.toArray) (hI : IntsAre vs ns) (hL : vs.length ≤ 4096)
    (h : ∀ (out : Array Value) (ns' : List Int), IntsAre out.toList ns' → ns'.Perm ns → ns'.Pairwise (· ≤ ·) → Q (.ref (s.heap.objs.size + 1)) { s with heap := sortedAll s.heap vs out }) :
    wpAny (model prog w) A (call (.builtin "sorted") [.ref l]) Q E s := by
  refine Calls.call_function_entry kind_sorted plain_sorted entry_sorted (args_sorted1 _) ?_
  unfold Builtin.«sorted»
  refine wpAny_bind (m := checkCount "sorted" 1 1 _) (wpAny_pure ?_)
  refine wpAny_bind (collect_list hl ?_ (by rw [sizeLine_eq]; omega))
  refine wpAny_bind (wpAny_newList ?_ (by rw [sizeLine_eq]; omega))
  have hsz : ((s.heap.push (seqObj "list" #[] 0)).update s.heap.objs.size (Obj.mapSeq (· ++ vs.toArray))).objs.size = s.heap.objs.size + 1 := by
    rw [Heap.size_update, size_push']
  have hoL : (((s.heap.push (seqObj "list" #[] 0)).update s.heap.objs.size (Obj.mapSeq (· ++ vs.toArray))).push (seqObj "list" vs.toArray 0)).get? (s.heap.objs.size + 1) = some (seqObj "list" vs.toArray 0) := by
    rw [← hsz]; exact Heap.get?_push_size _ rfl
  show wpAny _ _ _ _ _ { s with heap := ((s.heap.push (seqObj "list" #[] 0)).update s.heap.objs.size (Obj.mapSeq (· ++ vs.toArray))).push (seqObj "list" vs.toArray 0) }
  rw [hsz]
  refine wpAny_bind (wpAny_holding (wpAny_call_entry slot_list_sort ⟨_, hoL, rfl⟩ entry_list_sort (sort_tree hoL hI hL fun out ns' a1 a2 a3 => ⟨_, rfl, ?_⟩) (args_list_sort _)))
  exact wpAny_pure ⟨_, rfl, h out ns' a1 a2 a3⟩
/-- sorted of a list of ints, whatever their number -/
theorem sorted_L {h₀ : Heap} {L : Addr} {m : PySem.Str → Option Value} {news : List (Addr × Obj)} {l : Addr} {vs : List Value} {ns : List Int} {Q : Value → Shared → Prop}
    (F : Fr h₀ L s.heap m) (N : News h₀ L s.heap news) (hl : s.heap.IsList l vs.toArray) (hI : IntsAre vs ns) (hL : vs.length ≤ 4096)
    (h : ∀ (D : Addr) (h' : Heap) (vs' : List Value) (ns' : List Int) (e : Nat), Fr h₀ L h' m → News h₀ L h' ((D, listOf vs'.toArray e) :: news) → (∀ q ∈ news, q.1 < D) →
      IntsAre vs' ns' → ns'.Perm ns → ns'.Pairwise (· ≤ ·) → Q (.ref D) { s with heap := h' }) :
    wpAny (model prog w) A (call (.builtin "sorted") [.ref l]) Q E s := by
  refine sorted_any hl hI hL fun out ns' a1 a2 a3 => ?_
  obtain ⟨e, he⟩ := sortedAll_at s.heap vs out
  exact h _ _ out.toList ns' e (F.kept fun _ _ => sortedAll_old) (N.kept_cons F (fun _ _ => sortedAll_old) (Nat.le_succ _) he) (fun p hp => Nat.lt_succ_of_lt (Heap.lt_size (N p hp).1)) a1 a2 a3
end ts
end
section
open PySem PySem.Calls PyProof.Rows
theorem plain_upd_loop : plainId "dict.update.loop" = true := by decide +kernel
theorem entry_upd_loop : entryFor table "dict.update.loop" = some Builtin.«dict.update.loop» := entryFor_of_tree (by kernel_rfl)
theorem list_no_keys : typeLookup (.type "list") "keys" = pure none := am_miss_of_fast (by kernel_rfl)
section
variable {prog : Program} {w : World} {A : Around} {E : Value → Shared → Prop} {s : Shared} {R : Result → Shared → Prop}
theorem keys_miss {a : Addr} {xs : Array Value} {k : Nat} {Q : Option Value → Shared → Prop} (hx : s.heap.get? a = some { cls := .type "list", data := .seq xs k }) (hA : A.handled = none)
    (h : ∀ h' tk, (∀ b o, s.heap.get? b = some o → h'.get? b = some o) → Q none { s with heap := h', toks := tk }) :
    wpAny (model prog w) A (getAttr? (.ref a) "keys") Q E s := by
  obtain ⟨hp, g, d, tk, os⟩ := s
  have hT : ∀ tk', (⟨hp, g, d, tk', os⟩ : Shared).TypeIs (.ref a) "list" := fun _ => ⟨_, hx, rfl⟩
  have f1 := sub_AttributeError
  have f3 := F.slot_list_getattribute.lookup
  have f4 := F.slot_list_getattribute.bind (.ref a)
  have f5 := am_list_getattr_none
  unfold getAttr? getAttrBy? getAttrBy
  repeat (any_goals (first | assumption | exact hT _ | ((with_reducible show wpAny _ _ (call (Value.builtin "list.__getattribute__") _ _) _ _ _); refine call_meets F.slot_list_getattribute (hT _) am_entry_list_getattribute (F.args_list_getattribute_2 _ _) (meets_getattribute_miss_list a xs k #[] "keys" _ list_no_keys (by decide +kernel)) ⟨hx, hA, fun h' tk' e hx' => ?_⟩) | wp_step))
  obtain ⟨t', u', he⟩ := hx'.there
  show wpAny _ _ (getattributeRaised _ _ _ _ _ _ _) _ _ _
  unfold getattributeRaised
  repeat (any_goals (first | assumption | wp_step))
  exact h _ _ hx'.keeps
end
end
section
open PySem PySem.Calls PyProof.Rows
/-- what holds of the pairs behind the values of a list -/
def PairsAt (h : Heap) (vs : List Value) (ks : List (Int × Value)) : Prop :=
  vs.length = ks.length ∧ ∀ (i : Nat) (k : Int) (v : Value), ks[i]? = some (k, v) → ∃ p t, vs[i]? = some (Value.ref p) ∧ h.get? p = some { cls := .type "tuple", data := .seq #[.int k t, v] }
section
variable {prog : Program} {w : World} {A : Around} {E : Value → Shared → Prop} {s : Shared} {R : Result → Shared → Prop} {d : Addr}
theorem stored_len (kvs : List (Int × Value)) (k : Int) (v : Value) : (stored kvs k v).length ≤ kvs.length + 1 := by
  unfold stored
  split
  · rw [List.length_map]; omega
  · rw [List.length_append]; simp
/-- the loop of dict.update over a list of pairs, from the i-th on -/
theorem upd_loop {I l d : Addr} {vs : List Value} {ks : List (Int × Value)} (hh : A.handled = none) (hIl : l ≠ I) (hdI : d ≠ I) (hdl : d ≠ l) (res : Value) (hn : ks.length ≤ 100000) :
    ∀ (k i : Nat) (j : Int) (u : Tok) (s : Shared) (kvs : List (Int × Value)), ks.length - i = k → i ≤ ks.length → s.heap.IsListIter I l i → s.heap.IsList l vs.toArray → s.heap.DictOf (intKind prog w) d kvs → kvs.length ≤ i →
      PairsAt s.heap vs ks → (∀ (i : Nat) (p : Addr), vs[i]? = some (Value.ref p) → p ≠ d ∧ p ≠ I) →
      (∀ h' tk, (∀ b o, b ≠ I → b ≠ d → s.heap.get? b = some o → h'.get? b = some o) → h'.DictOf (intKind prog w) d ((ks.drop i).foldl (fun c q => stored c q.1 q.2) kvs) → R (.ok (.ret res)) { s with heap := h', toks := tk }) →
      codeAny (model prog w) A (.builtin "dict.update.loop" ⟨[.ref d, .ref I, .int j u, res], []⟩) R s := by
  intro k
  induction k with
  | zero =>
    intro i j u s kvs hk hi hit hl hd hlen hp hoff hR
    have hin : i = ks.length := by omega
    subst hin
    refine codeAny_builtin entry_upd_loop ?_
    rw [Around.under_plainId plain_upd_loop _]
    show wpAny _ A.in1 (pyNext (.ref I) >>= _) _ _ s
    refine wpAny_bind ((Walks.list (A := A.in1) hh I l hIl vs.toArray).done s _ _ ⟨?_, hl⟩ fun h' tk hm => ?_)
    · rw [List.size_toArray, hp.1]; exact hit
    refine wpAny_pure (hR h' tk (fun b o h1 h2 e => hm b o (by simpa using h1) e) ?_)
    rw [List.drop_length]
    obtain ⟨o, es, ep, ho, r⟩ := hd
    exact ⟨o, es, ep, hm d o (by simpa using hdI) ho, r⟩
  | succ k ih =>
    intro i j u s kvs hk hi hit hl hd hlen hp hoff hR
    have hlt : i < ks.length := by omega
    obtain ⟨p, t, hvi, hpo⟩ := hp.2 i _ _ (getElem?_pos ks i hlt)
    have hoi := hoff i p hvi
    refine codeAny_builtin entry_upd_loop ?_
    rw [Around.under_plainId plain_upd_loop _]
    show wpAny _ A.in1 (pyNext (.ref I) >>= _) _ _ s
    refine wpAny_bind ((Walks.list (A := A.in1) hh I l hIl vs.toArray).item i s _ _ (by rw [List.size_toArray, hp.1]; exact hlt) ⟨hit, hl⟩ fun v h' tk hv hst hm => ?_)
    rw [List.getElem?_toArray, hvi] at hv
    cases hv
    have hpo' : h'.get? p = some { cls := .type "tuple", data := .seq #[.int ks[i].1 t, ks[i].2] } := hm p _ (by simpa using hoi.2) hpo
    have hd' : h'.DictOf (intKind prog w) d kvs := by
      obtain ⟨o, es, ep, ho, r⟩ := hd
      exact ⟨o, es, ep, hm d o (by simpa using hdI) ho, r⟩
    have hT : (⟨h', s.gens, s.drawn, tk, s.os⟩ : Shared).TypeIs (.ref p) "tuple" := ⟨_, hpo', rfl⟩
    dsimp only
    refine wpAny_bind (wpAny_holding (wpAny_bind (wpAny_tryCatch ?_)))
    unfold Builtin.Dict.pairItems
    refine wpAny_bind (wpAny_typeOf hT ?_)
    rw [if_pos (by decide)]
    show wpAny _ _ (seqItems? (.ref p) >>= _) _ _ _
    unfold seqItems?
    refine wpAny_bind (wpAny_bind (wpAny_load hpo' ?_))
    dsimp only
    refine wpAny_pure (wpAny_pure ?_)
    show wpAny _ _ (holding [Value.int ks[i].1 t, ks[i].2] (dictSet d (Value.int ks[i].1 t) ks[i].2)) _ _ _
    refine wpAny_holding (wpAny_dictSet_pairs (knd := intKind prog w) (k := ks[i].1) (intKind_is _ _ _ _) hd' (fun h2 hd2 hs2 => ?_) (by rw [sizeLine_eq]; omega))
    refine wpAny_pure ⟨plainId_quiet plain_upd_loop _, ?_⟩
    have kp : ∀ b o, b ≠ I → b ≠ d → s.heap.get? b = some o → h2.get? b = some o := fun b o h1 h3 e => (hs2.2 b h3).trans (hm b o (by simpa using h1) e)
    refine ih (i + 1) _ _ _ (stored kvs ks[i].1 ks[i].2) (by omega) hlt ?_ ?_ hd2 ?_ ?_ hoff ?_
    · exact hst.1.at fun o e => (hs2.2 I (Ne.symm hdI)).trans e
    · exact hst.2.at fun o e => (hs2.2 l (Ne.symm hdl)).trans e
    · exact Nat.le_trans (stored_len _ _ _) (Nat.succ_le_succ hlen)
    · refine ⟨hp.1, fun i2 k2 v2 e2 => ?_⟩
      obtain ⟨p2, t2, a1, a2⟩ := hp.2 i2 k2 v2 e2
      have := hoff i2 p2 a1
      exact ⟨p2, t2, a1, kp _ _ this.2 this.1 a2⟩
    · intro h3 tk3 hk3 hd3
      refine hR h3 tk3 (fun b o q1 q2 e => hk3 b o q1 q2 (kp b o q1 q2 e)) ?_
      rw [List.drop_eq_getElem_cons hlt]
      exact hd3
theorem init_pairs {A' : Around} {a : Addr} {vs : List Value} {ks : List (Int × Value)} {c : Nat} {Q₁ : Value → Shared → Prop} (hh : A.handled = none) (hh' : A'.handled = none) (hx : s.heap.get? a = some { cls := .type "list", data := .seq vs.toArray c })
    (hd : s.heap.DictOf (intKind prog w) d []) (hda : d ≠ a) (hp : PairsAt s.heap vs ks) (hn : ks.length ≤ 100000) (hoff : ∀ (i : Nat) (p : Addr), vs[i]? = some (Value.ref p) → p ≠ d)
    (h : ∀ h' tk, (∀ b o, b ≠ d → s.heap.get? b = some o → h'.get? b = some o) → h'.DictOf (intKind prog w) d (ks.foldl (fun c q => stored c q.1 q.2) []) → Q₁ .none { s with heap := h', toks := tk }) :
    wpAny (model prog w) A' (Builtin.«dict.__init__» ⟨[.ref d, .ref a], []⟩)
      (fun fin s' => match fin with | .done f => wants Q₁ E (.ok f) s' | .again c' => c'.quiet = true ∧ codeAny (model prog w) A c' (wants Q₁ E) s') (fun e s' => wants Q₁ E (.error e) s') s := by
  have hl : s.heap.IsList a vs.toArray := ⟨_, hx, rfl, _, rfl⟩
  have hlt : ∀ {b o}, s.heap.get? b = some o → b < s.heap.objs.size := fun e => Heap.lt_size e
  unfold Builtin.«dict.__init__»
  refine wpAny_bind ?_
  unfold Builtin.Dict.selfAndRest
  refine wpAny_bind (wpAny_notOrdered_dict hd.typeIs ?_)
  show wpAny _ _ (pure (d, [Value.ref a])) _ _ _
  refine wpAny_pure ?_
  show wpAny _ _ (Builtin.Dict.updateFrom "dict.__init__" d (.ref a) [] .none) _ _ _
  unfold Builtin.Dict.updateFrom
  refine wpAny_bind (wpAny_typeOf (T := "list") ⟨_, hx, rfl⟩ ?_)
  rw [if_pos (by decide)]
  refine wpAny_bind (keys_miss hx hh' fun h1 tk1 k1 => ?_)
  rw [if_pos (by rfl)]
  refine wpAny_bind (wpAny_rule ?_)
  have hl1 : h1.IsList a vs.toArray := hl.at fun o e => k1 _ _ e
  refine wpAny_bind (wpAny_pyIter_list hl1 ?_)
  have kI : ∀ b o, s.heap.get? b = some o → b ≠ h1.objs.size := fun b o e q => Nat.lt_irrefl _ (q ▸ Heap.lt_size (k1 _ _ e))
  have k2 : ∀ b o, s.heap.get? b = some o → (h1.push { cls := .type "list_iterator", data := .fields #[.ref a, .int 0 0] }).get? b = some o := fun b o e => Heap.get?_push_of_some _ (k1 _ _ e)
  have hdo := hd
  obtain ⟨od, _, _, hod, _⟩ := hdo
  refine wpAny_pure ⟨plainId_quiet plain_upd_loop _, upd_loop (ks := ks) (l := a) (vs := vs) hh (fun q => kI _ _ hx q) (fun q => kI _ _ hod q) hda .none hn _ 0 _ _ _ [] rfl (Nat.zero_le _) ⟨_, Heap.get?_push_size _ rfl, rfl, rfl⟩ (hl.at fun o e => k2 _ _ e) ?_ (Nat.le_refl _) ?_ ?_ ?_⟩
  · obtain ⟨o, es, ep, ho, r⟩ := hd
    exact ⟨o, es, ep, k2 _ _ ho, r⟩
  · refine ⟨hp.1, fun i k v e => ?_⟩
    obtain ⟨p, t, a1, a2⟩ := hp.2 i k v e
    exact ⟨p, t, a1, k2 _ _ a2⟩
  · intro i p e
    refine ⟨hoff i p e, ?_⟩
    obtain ⟨hi, _⟩ := List.getElem?_eq_some_iff.mp e
    rw [hp.1] at hi
    obtain ⟨p', t, a1, a2⟩ := hp.2 i _ _ (getElem?_pos ks i hi)
    rw [e] at a1
    cases a1
    exact kI _ _ a2
  · intro h' tk hk hd'
    exact h h' tk (fun b o q e => hk b o (kI b o e) q (k2 _ _ e)) hd'
/-- the ledger bears the pairs behind the values -/
def PairsIn (news : List (Addr × Obj)) (vs : List Value) (ks : List (Int × Value)) : Prop :=
  vs.length = ks.length ∧ ∀ (i : Nat) (k : Int) (v : Value), ks[i]? = some (k, v) → ∃ p t, vs[i]? = some (Value.ref p) ∧ (p, ({ cls := .type "tuple", data := .seq #[.int k t, v] } : Obj)) ∈ news
theorem dict_pairs {h₀ : Heap} {L a : Addr} {m : PySem.Str → Option Value} {news : List (Addr × Obj)} {vs : List Value} {ks : List (Int × Value)} {c : Nat} {Q : Value → Shared → Prop} (hh : A.handled = none)
    (F : Fr h₀ L s.heap m) (N : News h₀ L s.heap news) (ha : (a, ({ cls := .type "list", data := .seq vs.toArray c } : Obj)) ∈ news) (hp : PairsIn news vs ks) (hn : ks.length ≤ 100000) (hbig : h₀.NoLimit)
    (h : ∀ D o h' tk, Fr h₀ L h' m → News h₀ L h' ((D, o) :: news) → (∀ q ∈ news, q.1 < D) → (D == sysModules) = false → o.IsDictOf (intKind prog w) (ks.foldl (fun c q => stored c q.1 q.2) []) → Q (.ref D) { s with heap := h', toks := tk }) :
    wpAny (model prog w) A (call (.type "dict") [.ref a]) Q E s := by
  refine callType_codes (Q₁ := fun obj s₁ => obj = .ref s.heap.objs.size ∧ s₁ = { s with heap := s.heap.push { cls := .type "dict", data := .dict #[] } }) PySem.F.kt_called_dict (PySem.F.kt_typeCall_dict_1 _) PySem.F.entry_dict_init (kt_code_dict_new _ ⟨rfl, rfl⟩) ?_
  rintro obj s₁ ⟨rfl, rfl⟩
  have hnew : (s.heap.push { cls := .type "dict", data := .dict #[] }).DictOf (intKind prog w) s.heap.objs.size [] := Heap.DictOf.new s.heap
  have k0 : ∀ b o, s.heap.get? b = some o → (s.heap.push { cls := .type "dict", data := .dict #[] }).get? b = some o := fun b o e => Heap.get?_push_of_some _ e
  have l0 : ∀ q ∈ news, q.1 < s.heap.objs.size := fun q hq => Heap.lt_size (N q hq).1
  refine ⟨hnew.typeIs, PySem.F.args_dict_init_2 _ _, ?_⟩
  refine init_pairs (prog := prog) (w := w) (s := { s with heap := s.heap.push { cls := .type "dict", data := .dict #[] } }) (A := A.in1) (A' := A.in1.in1) (vs := vs) (ks := ks) (c := c) hh hh (k0 _ _ (N _ ha).1) hnew (Nat.ne_of_gt (l0 _ ha)) ?_ hn ?_ ?_
  · refine ⟨hp.1, fun i k v e => ?_⟩
    obtain ⟨p, t, a1, a2⟩ := hp.2 i k v e
    exact ⟨p, t, a1, k0 _ _ (N _ a2).1⟩
  · intro i p e
    obtain ⟨hi, _⟩ := List.getElem?_eq_some_iff.mp e
    rw [hp.1] at hi
    obtain ⟨p', t, a1, a2⟩ := hp.2 i _ _ (getElem?_pos ks i hi)
    rw [e] at a1
    cases a1
    exact Nat.ne_of_lt (l0 _ a2)
  · intro h' tk hk hd'
    refine ⟨rfl, ?_⟩
    obtain ⟨o', ho', hd2⟩ := Heap.dictOf_iff.mp hd'
    have k3 : ∀ b o, s.heap.get? b = some o → h'.get? b = some o := fun b o e => hk b o (Nat.ne_of_lt (Heap.lt_size e)) (k0 _ _ e)
    exact h _ o' h' tk (F.kept k3) (N.kept_cons F k3 (Nat.le_refl _) ho') l0 (F.notModules (modules_low hbig)) hd2
end
end
open PySem PySem.W PySem.Calls PyProof.Rows
/-- the head's lemma with its first premise written out: so the top is evaluated whole, and not in pieces (a seventh of the compiled size) -/
theorem PySem.W.holds_open {r : OpenRow} {q : Program} {loose : List Str} {Xt : Shared → Bool} {XP : (Str → Option Value) → Heap → Prop} {α : Type} {Yf : Shared → α} {Ya : World → α} {YP : World → Heap → Prop} {d : DefRec} {kwd : List (Str × PySem.Expr)} {N : Nat}
    (left : ∀ w : World, Option.map (fun s => (openSeen q loose (importedModules r.prog.main.body) Xt true s, Yf s)) (openEnds treeTable r.prog w N) = some (openGood q loose, Ya w))
    (hY : ∀ w s, Yf s = Ya w → YP w s.heap) (hYk : ∀ w h h', YP w h → (∀ b o, h.get? b = some o → h'.get? b = some o) → YP w h')
    (hX : ∀ s, Xt s = true → XP (s.heap.nsMap mainGlobals) s.heap) (hXk : ∀ mg h h', XP mg h → (∀ b o, h.get? b = some o → h'.get? b = some o) → XP mg h')
    (hdef : defOf q r.name = some (d, kwd)) (hp : r.prog.theDef r.name = some (d.params, d.body, d.scope)) (hk : kwWritten? d.params.kwonlyargs d.params.kw_defaults = some kwd) (hRf : ∀ s, Xt s = true → RecFacts r.records s.heap) (hwr : (!r.writes || r.records.isEmpty) = true)
    (k1 : r.wellSaid = true) (ok : (chainsOk q && opensWell r.prog && (frees r.toRowW && r.within.isEmpty)) = true) (hb : r.prog.bare) (hw : r.toRowW.promised)
    (call : WalkO q loose XP YP r.toRowW d kwd fun f vs => PySem.call f vs) : r.Holds :=
  _root_.PySem.W.holds_open left hY hYk hX hXk hdef hp hk hRf hwr k1 ok hb hw call
set_option maxRecDepth 100000 in
set_option maxHeartbeats 8000000 in
open_top hd for PySem.Challenge.rw_rh0206_01
noncomputable abbrev Led := List (Addr × Obj)
noncomputable abbrev LL : List PySem.Str := looseW hd.view_39 [Str.ofString "own_hello"]
noncomputable abbrev PR : Program := PySem.Challenge.rw_rh0206_01.row.prog

/-- what a call of a def of the text does to its own part of the ledger, whoever calls it -/
def Ctr (w : World) (k : Nat) (f : Addr) (vs : List Value) (foot : Led) (Post : Value → Led → Prop) : Prop :=
  ∀ (mean : ExcName → Option Value) (mg mb : PySem.Str → Option Value) (dp un : Nat) (gd : Option (List Code)) (cn : PySem.Str) (cs : Scope) (a : Addr) (ccd : Value) (cl : List (PySem.Str × Addr)) (outer : List Env) (A₀ : Around) (base h₀ : Heap) (L : Addr) (m : PySem.Str → Option Value) (s : Shared) (Q E : Value → Shared → Prop),
    Below A₀ base outer h₀ → Fr h₀ L s.heap m → (hd.heap_39 w.params).In h₀ → News h₀ L s.heap foot → Top hd.view_39 LL mean mg mb h₀ → cs.kind = .function →
    dp + k < recursionLimit → un + 8 * k < cLine →
    (∀ (r : Value) (foot' : Led) (h' : Heap) (tk' : Nat), Fr h₀ L h' m → News h₀ L h' foot' → (∀ b o, s.heap.get? b = some o → b ∉ foot.map (·.1) → h'.get? b = some o) → (∀ p ∈ foot', s.heap.get? p.1 = none ∨ p.1 ∈ foot.map (·.1)) →
      Post r foot' → Q r { s with heap := h', toks := tk' }) →
    wpAny (model PR w) (ktrTop dp un gd cn cs L a ccd cl outer) (call (.ref f) vs) Q E s

theorem pres_of {H g h' : Heap} {L' : Addr} {m' : PySem.Str → Option Value} {adr : List Addr} (G : GSub H g adr) (F' : Fr g L' h' m') : ∀ b o, H.get? b = some o → b ∉ adr → h'.get? b = some o :=
  fun b o e hn => F'.keep b o (G b o e hn)
theorem fresh_of {H g h' : Heap} {L' : Addr} {adr : List Addr} {foot' : Led} (G : GSub H g adr) (N' : News g L' h' foot') : ∀ p ∈ foot', H.get? p.1 = none ∨ p.1 ∈ adr := fun p hp => by
  by_cases hb : p.1 ∈ adr
  · exact .inr hb
  · cases e : H.get? p.1 with
    | none => exact .inl rfl
    | some o => have := (N' p hp).2.2; rw [G _ _ e hb] at this; cases this

/-- the end of a contract's proof -/
theorem ctr_end {h₀ g h' : Heap} {L L' : Addr} {m m' : PySem.Str → Option Value} {adr : List Addr} {s : Shared} {Q : Value → Shared → Prop} {Post : Value → Led → Prop} {foot' all : Led} {r : Value} {tk' : Nat}
    (hret : ∀ (r : Value) (foot' : Led) (h' : Heap) (tk' : Nat), Fr h₀ L h' m → News h₀ L h' foot' → (∀ b o, s.heap.get? b = some o → b ∉ adr → h'.get? b = some o) → (∀ p ∈ foot', s.heap.get? p.1 = none ∨ p.1 ∈ adr) →
      Post r foot' → Q r { s with heap := h', toks := tk' })
    (post : Post r foot') (G : GSub s.heap g adr) (F' : Fr g L' h' m') (N' : News g L' h' all) (F : Fr h₀ L h' m) (N : News h₀ L h' all) (hs : ∀ p ∈ foot', p ∈ all) : Q r { s with heap := h', toks := tk' } :=
  hret r foot' h' tk' F (fun p hp => N p (hs p hp)) (pres_of G F') (fresh_of G fun p hp => N' p (hs p hp)) post

/-- the addresses of the two parts differ -/
def Off (foot rest : Led) : Prop := ∀ p ∈ foot, ∀ q ∈ rest, p.1 ≠ q.1

theorem Ctr.use {w : World} {k : Nat} {f : Addr} {vs : List Value} {foot : Led} {Post : Value → Led → Prop} {mean : ExcName → Option Value} {mg mb : PySem.Str → Option Value}
    {dp un : Nat} {gd : Option (List Code)} {cn : PySem.Str} {cs : Scope} {a : Addr} {ccd : Value} {cl : List (PySem.Str × Addr)} {outer : List Env} {A₀ : Around} {base h₀ : Heap} {L : Addr} {m : PySem.Str → Option Value} {s : Shared} {Q E : Value → Shared → Prop} {all : Led}
    (C : Ctr w k f vs foot Post) (B : Below A₀ base outer h₀) (F : Fr h₀ L s.heap m) (X : (hd.heap_39 w.params).In h₀) (N : News h₀ L s.heap all) (T : Top hd.view_39 LL mean mg mb h₀) (hk : cs.kind = .function)
    (hd : dp + k < recursionLimit) (hu : un + 8 * k < cLine) (rest : Led) (hf : ∀ p ∈ foot, p ∈ all) (hr : ∀ p ∈ rest, p ∈ all) (ho : Off foot rest)
    (ret : ∀ (r : Value) (foot' : Led) (h' : Heap) (tk' : Nat), Fr h₀ L h' m → News h₀ L h' (foot' ++ rest) → Off foot' rest → Post r foot' → Q r { s with heap := h', toks := tk' }) :
    wpAny (model PR w) (ktrTop dp un gd cn cs L a ccd cl outer) (call (.ref f) vs) Q E s := by
  refine C mean mg mb dp un gd cn cs a ccd cl outer A₀ base h₀ L m s Q E B F X (fun p hp => N p (hf p hp)) T hk hd hu fun r foot' h' tk' F' N' pres fresh post => ?_
  refine ret r foot' h' tk' F' (fun p hp => ?_) (fun p hp q hq e => ?_) post
  · rcases List.mem_append.mp hp with hp | hp
    · exact N' p hp
    · have z := N p (hr p hp)
      refine ⟨pres _ _ z.1 fun hm => ?_, z.2⟩
      obtain ⟨q, hq, e⟩ := List.mem_map.mp hm
      exact ho q hq p hp e
  · rcases fresh p hp with h | h
    · rw [e, (N q (hr q hq)).1] at h; cases h
    · obtain ⟨p', hp', e'⟩ := List.mem_map.mp h
      exact ho p' hp' q hq (e'.trans e)

/-- a call that changes one object alone -/
theorem Ctr.upd {w : World} {k : Nat} {f : Addr} {vs : List Value} {d : Addr} {o : Obj} {foot : Led} {Post : Value → Obj → Prop} {mean : ExcName → Option Value} {mg mb : PySem.Str → Option Value}
    {dp un : Nat} {gd : Option (List Code)} {cn : PySem.Str} {cs : Scope} {a : Addr} {ccd : Value} {cl : List (PySem.Str × Addr)} {outer : List Env} {A₀ : Around} {base h₀ : Heap} {L : Addr} {m : PySem.Str → Option Value} {s : Shared} {Q E : Value → Shared → Prop} {all : Led} {g : Obj → Led}
    (C : Ctr w k f vs ((d, o) :: foot) (fun r l => ∃ o', l = (d, o') :: foot ∧ Post r o')) (B : Below A₀ base outer h₀) (F : Fr h₀ L s.heap m) (X : (hd.heap_39 w.params).In h₀) (N : News h₀ L s.heap all) (T : Top hd.view_39 LL mean mg mb h₀) (hk : cs.kind = .function)
    (hd : dp + k < recursionLimit) (hu : un + 8 * k < cLine) (U : UpdF d o all g) (hf : ∀ p ∈ foot, p ∈ all)
    (ret : ∀ (r : Value) (o' : Obj) (h' : Heap) (tk' : Nat), Fr h₀ L h' m → News h₀ L h' (g o') → Post r o' → Q r { s with heap := h', toks := tk' }) :
    wpAny (model PR w) (ktrTop dp un gd cn cs L a ccd cl outer) (call (.ref f) vs) Q E s := by
  obtain ⟨pre, post, rfl, hg, ha, hb⟩ := U.split
  refine C mean mg mb dp un gd cn cs a ccd cl outer A₀ base h₀ L m s Q E B F X (fun p hp => ?_) T hk hd hu fun r foot' h' tk' F' N' pres fresh ⟨o', e, po⟩ => ?_
  · rcases List.mem_cons.mp hp with rfl | hp
    · exact N _ (List.mem_append.mpr (.inr (.head _)))
    · exact N p (hf p hp)
  · subst e
    refine ret r o' h' tk' F' ?_ po
    rw [hg]
    have keep : ∀ p ∈ pre ++ (d, o) :: post, p.1 ≠ d → h'.get? p.1 = some p.2 ∧ p.1 ≠ L ∧ h₀.get? p.1 = none := fun p hp hne => by
      have z := N p hp
      by_cases hm : p.1 ∈ ((d, o) :: foot).map (·.1)
      · obtain ⟨q, hq, e⟩ := List.mem_map.mp hm
        rcases List.mem_cons.mp hq with rfl | hq
        · exact absurd e.symm hne
        · have zq := N q (hf q hq)
          have e2 : q.2 = p.2 := by
            have h1 := zq.1; rw [e, z.1] at h1; exact (Option.some.inj h1).symm
          have e3 : q = p := Prod.ext e e2
          exact N' p (e3 ▸ List.mem_cons_of_mem _ hq)
      · exact ⟨pres _ _ z.1 hm, z.2⟩
    intro p hp
    rcases List.mem_append.mp hp with hp | hp
    · exact keep p (List.mem_append.mpr (.inl hp)) (ha p hp)
    · rcases List.mem_cons.mp hp with rfl | hp
      · exact N' _ (.head _)
      · exact keep p (List.mem_append.mpr (.inr (.tail _ hp))) (hb p hp)
/-- a row ahead of others; the count of the tokens is forgotten -/
theorem execs_tk {M : Model} {A : Around} {E : Value → Shared → Prop} {env : Env} {st : Stmt} {rest : List Stmt} {Q : Flow → Shared → Prop} {hp : Heap} {g d t o}
    (h : ∀ tk, wpAny M A (exec st env) (fun f s' => match f with | .next => wpAny M A (execs rest env) Q E s' | f => Q f s') E ⟨hp, g, d, tk, o⟩) : wpAny M A (execs (st :: rest) env) Q E ⟨hp, g, d, t, o⟩ := wpAny_execs_cons (h t)
section
variable {prog : Program} {w : World} {KK : Type} [DecidableEq KK] {knd : KeyKind prog w KK} {A : Around} {E : Value → Shared → Prop} {s : Shared} {h₀ : Heap} {L d e : Addr} {m : PySem.Str → Option Value}
  {news : Led} {g : Obj → Led} {kvs more : List (KK × Value)} {o o₂ : Obj}
theorem upd_K {Q : Value → Shared → Prop} (F : Fr h₀ L s.heap m) (N : News h₀ L s.heap news) (U : UpdF d o news g) (hd : o.IsDictOf knd kvs) (hm2 : (e, o₂) ∈ news) (hd2 : o₂.IsDictOf knd more) (lo : (e == sysModules) = false) (hne : d ≠ e)
    (hsz : kvs.length + more.length ≤ sizeLine)
    (h : ∀ h' o', Fr h₀ L h' m → News h₀ L h' (g o') → o'.IsDictOf knd (merged kvs more) → Q .none { s with heap := h' }) :
    wpAny (model prog w) A (call (.builtin "dict.update") [.ref d, .ref e]) Q E s := by
  obtain ⟨pre, post, rfl, hg, a, b⟩ := U.split
  have hm := N (d, o) (List.mem_append_right _ (.head _))
  have hD : s.heap.DictOf knd d kvs := Heap.dictOf_iff.mpr ⟨o, hm.1, hd⟩
  have hD2 : s.heap.DictOf knd e more := Heap.dictOf_iff.mpr ⟨o₂, (N (e, o₂) hm2).1, hd2⟩
  refine call_meetsIn PySem.F.slot_dict_update hD.typeIs PySem.F.entry_dict_update (PySem.F.args_dict_update_2 _ _) (meets_dict_update knd d e hne lo)
    ⟨kvs, more, hD, hD2, hsz, fun h' hmm _ hs => ?_⟩
  obtain ⟨o', ho', hd'⟩ := Heap.dictOf_iff.mp hmm
  exact h h' o' (F.change hs hm.2.1 hm.2.2) (hg o' ▸ N.setIn a b hs ho') hd'
theorem le_line {n : Nat} (h : Nat.ble n 100 = true) : n ≤ sizeLine := by
  have h1 := Nat.le_of_ble_eq_true h
  rw [sizeLine_eq]; omega
theorem upd_s {Q : Value → Shared → Prop} (F : Fr h₀ L s.heap m) (N : News h₀ L s.heap news) (U : UpdF d o news g) (hd : o.IsDictOf knd kvs) (hm2 : (e, o₂) ∈ news) (hd2 : o₂.IsDictOf knd more) (lo : (e == sysModules) = false) (hne : d ≠ e)
    (hsz : Nat.ble (kvs.length + more.length) 100 = true)
    (h : ∀ h' o', Fr h₀ L h' m → News h₀ L h' (g o') → o'.IsDictOf knd (merged kvs more) → Q .none { s with heap := h' }) :
    wpAny (model prog w) A (call (.builtin "dict.update") [.ref d, .ref e]) Q E s := upd_K F N U hd hm2 hd2 lo hne (le_line hsz) h
theorem set_s {k : KK} {key v : Value} {Q : Unit → Shared → Prop} (F : Fr h₀ L s.heap m) (N : News h₀ L s.heap news) (U : UpdF d o news g) (hd : o.IsDictOf knd kvs) (hkey : knd.is k key = true) (hsz : Nat.ble kvs.length 100 = true)
    (h : ∀ h' o', Fr h₀ L h' m → News h₀ L h' (g o') → o'.IsDictOf knd (stored kvs k v) → Q () { s with heap := h', toks := s.toks + 1 }) : wpAny (model prog w) A (setItem (.ref d) key v) Q E s :=
  kda_set F N U hd hkey (le_line hsz) h
theorem meth_upd {pl : Sem Bool} {Q : Value × List Value → Shared → Prop} (N : News h₀ L s.heap news) (hp : (d, o) ∈ news) (hd : o.IsDictOf knd kvs) (h : Q (.builtin "dict.update", [.ref d]) s) :
    wpAny (model prog w) A (getMethod (.ref d) "update" pl) Q E s := kob_method PySem.F.slot_dict_update PySem.F.type_dict_update N hp hd h
end
theorem allne_of {d : Addr} {rest : Led} (h : AllLt d rest) : ∀ p ∈ rest, p.1 ≠ d := fun p hp => Nat.ne_of_lt (ktn_ltOf h p hp)
section
variable {a0 a1 a2 a3 a4 a5 a6 a7 a8 a9 a10 a11 a12 a13 a14 a15 p r : Prop}
theorem pk0 (h : p ∧ r) : p := h.1
theorem pk1 (h : a0 ∧ p ∧ r) : p := h.2.1
theorem pe1 (h : a0 ∧ p) : p := h.2
theorem pk2 (h : a0 ∧ a1 ∧ p ∧ r) : p := h.2.2.1
theorem pe2 (h : a0 ∧ a1 ∧ p) : p := h.2.2
theorem pk3 (h : a0 ∧ a1 ∧ a2 ∧ p ∧ r) : p := h.2.2.2.1
theorem pe3 (h : a0 ∧ a1 ∧ a2 ∧ p) : p := h.2.2.2
theorem pk4 (h : a0 ∧ a1 ∧ a2 ∧ a3 ∧ p ∧ r) : p := h.2.2.2.2.1
theorem pe4 (h : a0 ∧ a1 ∧ a2 ∧ a3 ∧ p) : p := h.2.2.2.2
theorem pk5 (h : a0 ∧ a1 ∧ a2 ∧ a3 ∧ a4 ∧ p ∧ r) : p := h.2.2.2.2.2.1
theorem pe5 (h : a0 ∧ a1 ∧ a2 ∧ a3 ∧ a4 ∧ p) : p := h.2.2.2.2.2
theorem pk6 (h : a0 ∧ a1 ∧ a2 ∧ a3 ∧ a4 ∧ a5 ∧ p ∧ r) : p := h.2.2.2.2.2.2.1
theorem pe6 (h : a0 ∧ a1 ∧ a2 ∧ a3 ∧ a4 ∧ a5 ∧ p) : p := h.2.2.2.2.2.2
theorem pk7 (h : a0 ∧ a1 ∧ a2 ∧ a3 ∧ a4 ∧ a5 ∧ a6 ∧ p ∧ r) : p := h.2.2.2.2.2.2.2.1
theorem pe7 (h : a0 ∧ a1 ∧ a2 ∧ a3 ∧ a4 ∧ a5 ∧ a6 ∧ p) : p := h.2.2.2.2.2.2.2
theorem pk8 (h : a0 ∧ a1 ∧ a2 ∧ a3 ∧ a4 ∧ a5 ∧ a6 ∧ a7 ∧ p ∧ r) : p := h.2.2.2.2.2.2.2.2.1
theorem pe8 (h : a0 ∧ a1 ∧ a2 ∧ a3 ∧ a4 ∧ a5 ∧ a6 ∧ a7 ∧ p) : p := h.2.2.2.2.2.2.2.2
theorem pk9 (h : a0 ∧ a1 ∧ a2 ∧ a3 ∧ a4 ∧ a5 ∧ a6 ∧ a7 ∧ a8 ∧ p ∧ r) : p := h.2.2.2.2.2.2.2.2.2.1
theorem pe9 (h : a0 ∧ a1 ∧ a2 ∧ a3 ∧ a4 ∧ a5 ∧ a6 ∧ a7 ∧ a8 ∧ p) : p := h.2.2.2.2.2.2.2.2.2
theorem pk10 (h : a0 ∧ a1 ∧ a2 ∧ a3 ∧ a4 ∧ a5 ∧ a6 ∧ a7 ∧ a8 ∧ a9 ∧ p ∧ r) : p := h.2.2.2.2.2.2.2.2.2.2.1
theorem pe10 (h : a0 ∧ a1 ∧ a2 ∧ a3 ∧ a4 ∧ a5 ∧ a6 ∧ a7 ∧ a8 ∧ a9 ∧ p) : p := h.2.2.2.2.2.2.2.2.2.2
theorem pk11 (h : a0 ∧ a1 ∧ a2 ∧ a3 ∧ a4 ∧ a5 ∧ a6 ∧ a7 ∧ a8 ∧ a9 ∧ a10 ∧ p ∧ r) : p := h.2.2.2.2.2.2.2.2.2.2.2.1
theorem pe11 (h : a0 ∧ a1 ∧ a2 ∧ a3 ∧ a4 ∧ a5 ∧ a6 ∧ a7 ∧ a8 ∧ a9 ∧ a10 ∧ p) : p := h.2.2.2.2.2.2.2.2.2.2.2
theorem pk12 (h : a0 ∧ a1 ∧ a2 ∧ a3 ∧ a4 ∧ a5 ∧ a6 ∧ a7 ∧ a8 ∧ a9 ∧ a10 ∧ a11 ∧ p ∧ r) : p := h.2.2.2.2.2.2.2.2.2.2.2.2.1
theorem pe12 (h : a0 ∧ a1 ∧ a2 ∧ a3 ∧ a4 ∧ a5 ∧ a6 ∧ a7 ∧ a8 ∧ a9 ∧ a10 ∧ a11 ∧ p) : p := h.2.2.2.2.2.2.2.2.2.2.2.2
theorem pk13 (h : a0 ∧ a1 ∧ a2 ∧ a3 ∧ a4 ∧ a5 ∧ a6 ∧ a7 ∧ a8 ∧ a9 ∧ a10 ∧ a11 ∧ a12 ∧ p ∧ r) : p := h.2.2.2.2.2.2.2.2.2.2.2.2.2.1
theorem pe13 (h : a0 ∧ a1 ∧ a2 ∧ a3 ∧ a4 ∧ a5 ∧ a6 ∧ a7 ∧ a8 ∧ a9 ∧ a10 ∧ a11 ∧ a12 ∧ p) : p := h.2.2.2.2.2.2.2.2.2.2.2.2.2
theorem pk14 (h : a0 ∧ a1 ∧ a2 ∧ a3 ∧ a4 ∧ a5 ∧ a6 ∧ a7 ∧ a8 ∧ a9 ∧ a10 ∧ a11 ∧ a12 ∧ a13 ∧ p ∧ r) : p := h.2.2.2.2.2.2.2.2.2.2.2.2.2.2.1
theorem pe14 (h : a0 ∧ a1 ∧ a2 ∧ a3 ∧ a4 ∧ a5 ∧ a6 ∧ a7 ∧ a8 ∧ a9 ∧ a10 ∧ a11 ∧ a12 ∧ a13 ∧ p) : p := h.2.2.2.2.2.2.2.2.2.2.2.2.2.2
theorem pk15 (h : a0 ∧ a1 ∧ a2 ∧ a3 ∧ a4 ∧ a5 ∧ a6 ∧ a7 ∧ a8 ∧ a9 ∧ a10 ∧ a11 ∧ a12 ∧ a13 ∧ a14 ∧ p ∧ r) : p := h.2.2.2.2.2.2.2.2.2.2.2.2.2.2.2.1
theorem pe15 (h : a0 ∧ a1 ∧ a2 ∧ a3 ∧ a4 ∧ a5 ∧ a6 ∧ a7 ∧ a8 ∧ a9 ∧ a10 ∧ a11 ∧ a12 ∧ a13 ∧ a14 ∧ p) : p := h.2.2.2.2.2.2.2.2.2.2.2.2.2.2.2
end
theorem map_inj {α β : Type} {f : α → β} (hf : ∀ x y, f x = f y → x = y) : ∀ {a b : List α}, a.map f = b.map f → a = b
  | [], [], _ => rfl
  | [], _ :: _, h => by cases h
  | _ :: _, [], h => by cases h
  | x :: a, y :: b, h => by
    simp only [List.map_cons, List.cons.injEq] at h
    rw [hf _ _ h.1, map_inj hf h.2]
theorem ofs_inj {a b : String} (h : PySem.Str.ofString a = PySem.Str.ofString b) : a = b := by
  rw [PySem.Str.ofString_eq_toList, PySem.Str.ofString_eq_toList] at h
  injection h with h1
  have h2 := congrArg Array.toList h1
  simp only at h2
  have h3 : a.toList = b.toList := map_inj (fun x y e => Char.ext (UInt32.toNat_inj.mp e)) h2
  exact String.toList_inj.mp h3
theorem ofs_eq (a b : String) : (PySem.Str.ofString a = PySem.Str.ofString b) = (a = b) := propext ⟨ofs_inj, fun h => h ▸ rfl⟩
theorem valueAt_hit {k : PySem.Str} {v : Value} {r : List (PySem.Str × Value)} : valueAt ((k, v) :: r) k = some v := by simp [valueAt]
theorem valueAt_miss {a b : String} {v : Value} {r : List (PySem.Str × Value)} (h : a ≠ b) : valueAt ((PySem.Str.ofString a, v) :: r) (PySem.Str.ofString b) = valueAt r (PySem.Str.ofString b) := by
  have : PySem.Str.ofString a ≠ PySem.Str.ofString b := fun e => h (ofs_inj e)
  simp [valueAt, this]
/-- two addresses differ, as numbers -/
abbrev NeA (a b : Addr) : Prop := @Ne Nat a b
theorem Off.nil {rest : Led} : Off [] rest := fun _ h => nomatch h
theorem Off.cons {d : Addr} {o : Obj} {foot rest : Led} (h : ∀ q ∈ rest, q.1 ≠ d) (r : Off foot rest) : Off ((d, o) :: foot) rest := fun p hp q hq e => by
  rcases List.mem_cons.mp hp with rfl | hp
  · exact h q hq e.symm
  · exact r p hp q hq e
/-- written out -/
noncomputable def OffL (d : Addr) : Led → Prop
  | [] => True
  | p :: r => (@Ne Nat p.1 d) ∧ OffL d r
theorem offL_of {d : Addr} : ∀ {l : Led}, (∀ q ∈ l, q.1 ≠ d) → OffL d l
  | [], _ => trivial
  | _ :: _, h => ⟨h _ (.head _), offL_of fun q hq => h q (.tail _ hq)⟩
theorem offL_mem {d : Addr} : ∀ {l : Led}, OffL d l → ∀ q ∈ l, q.1 ≠ d
  | [], _, _, h => nomatch h
  | _ :: _, x, q, h => by
    rcases List.mem_cons.mp h with rfl | h
    · exact x.1
    · exact offL_mem x.2 q h
noncomputable def OffLL : Led → Led → Prop
  | [], _ => True
  | p :: r, l => OffL p.1 l ∧ OffLL r l
theorem offLL_of : ∀ {foot rest : Led}, Off foot rest → OffLL foot rest
  | [], _, _ => trivial
  | _ :: _, _, h => ⟨offL_of fun q hq e => h _ (.head _) q hq e.symm, offLL_of fun p hp => h p (.tail _ hp)⟩
/-- an interface of the law's: its entries -/
noncomputable abbrev ifKvs (kd st : PySem.Str) (own dr bdr dra bdra : Int) (nb : Addr) (ha wu de op : Value) (t1 t2 t3 t4 t5 t6 t7 t8 t9 t10 t11 t12 t13 t14 t15 t16 : Tok) : List (PySem.Str × Value) :=
  [("router", .int 70 t1), ("state", .str st t2), ("dr", .int dr t3), ("bdr", .int bdr t4), ("dr_address", .int dra t5), ("bdr_address", .int bdra t6), ("neighbours", .ref nb), ("hello_at", ha), ("wait_until", wu), ("delay", de),
   ("number", .int 1 t7), ("kind", .str kd t8), ("area", .int 3 t9), ("stub", .bool false), ("address", .int own t10), ("length", .int 24 t11), ("cost", .int 1 t12), ("priority", .int 1 t13), ("hello", .int 10 t14), ("dead", .int 40 t15), ("resend", .int 5 t16), ("options", op)]
/-- a kind of interface, and whether its net is shared -/
def KindIs (kd : PySem.Str) (b : Bool) : Prop := ((kd = "point_to_point" ∨ kd = "multipoint") ∧ b = false) ∨ ((kd = "broadcast" ∨ kd = "nbma") ∧ b = true)
/-- what holds of its letters -/
def IfOk (kd : PySem.Str) (own dra bdra : Int) : Prop :=
  ((kd = "point_to_point" ∨ kd = "multipoint") ∧ (own = 0 ∨ own = 7)) ∨ ((kd = "broadcast" ∨ kd = "nbma") ∧ own = 7 ∧ dra = 1 ∧ bdra = 7)
/-- a neighbour of the law's: its entries -/
noncomputable abbrev nbKvs (r a : Int) (v1 v2 v3 v4 v5 : Value) (t1 t2 t3 t4 t5 t6 : Tok) : List (PySem.Str × Value) :=
  [("router", .int r t1), ("address", .int a t2), ("state", .str "full" t3), ("priority", .int 0 t4), ("said_dr", .int 0 t5), ("said_bdr", .int 0 t6), ("heard", v1),
   ("requests", v2), ("owed", v3), ("exchange", .none), ("resend_at", .none), ("sent_back", v4), ("asked", v5)]
/-- the ledger bears a neighbour of these numbers at v -/
inductive NbAt (w : World) (news : Led) (v : Value) (r a : Int) : Prop
  | mk (b o v1 v2 v3 v4 v5 t1 t2 t3 t4 t5 t6) (q1 : v = .ref b) (q2 : (b, o) ∈ news) (q3 : o.IsDictOf (PySem.strKind PR w) (nbKvs r a v1 v2 v3 v4 v5 t1 t2 t3 t4 t5 t6)) : NbAt w news v r a
inductive NbsAt (w : World) (news : Led) : List Value → List (Int × Int) → Prop
  | nil : NbsAt w news [] []
  | cons {v : Value} {r a : Int} {vs : List Value} {xs : List (Int × Int)} : NbAt w news v r a → NbsAt w news vs xs → NbsAt w news (v :: vs) ((r, a) :: xs)
theorem NbAt.mono {w : World} {news news' : Led} {v : Value} {r a : Int} (h : NbAt w news v r a) (k : ∀ p ∈ news, p ∈ news') : NbAt w news' v r a :=
  let ⟨b, o, v1, v2, v3, v4, v5, t1, t2, t3, t4, t5, t6, e, hm, hd⟩ := h
  ⟨b, o, v1, v2, v3, v4, v5, t1, t2, t3, t4, t5, t6, e, k _ hm, hd⟩
theorem NbsAt.mono {w : World} {news news' : Led} (k : ∀ p ∈ news, p ∈ news') : ∀ {vs : List Value} {xs : List (Int × Int)}, NbsAt w news vs xs → NbsAt w news' vs xs
  | _, _, .nil => .nil
  | _, _, .cons h t => .cons (h.mono k) (NbsAt.mono k t)
theorem NbsAt.snoc {w : World} {news : Led} {v : Value} {r a : Int} : ∀ {vs : List Value} {xs : List (Int × Int)}, NbsAt w news vs xs → NbAt w news v r a → NbsAt w news (vs ++ [v]) (xs ++ [(r, a)])
  | _, _, .nil, h => .cons h .nil
  | _, _, .cons h t, q => .cons h (NbsAt.snoc t q)
theorem NbsAt.length {w : World} {news : Led} : ∀ {vs : List Value} {xs : List (Int × Int)}, NbsAt w news vs xs → vs.length = xs.length
  | _, _, .nil => rfl
  | _, _, .cons _ t => congrArg (· + 1) t.length
section
variable {kd st : PySem.Str} {own dr bdr dra bdra : Int} {nb : Addr} {ha wu de op : Value} {t1 t2 t3 t4 t5 t6 t7 t8 t9 t10 t11 t12 t13 t14 t15 t16 : Tok}
theorem va_router : valueAt (ifKvs kd st own dr bdr dra bdra nb ha wu de op t1 t2 t3 t4 t5 t6 t7 t8 t9 t10 t11 t12 t13 t14 t15 t16) (Str.ofString "router") = some (.int 70 t1) := by kernel_rfl
theorem va_state : valueAt (ifKvs kd st own dr bdr dra bdra nb ha wu de op t1 t2 t3 t4 t5 t6 t7 t8 t9 t10 t11 t12 t13 t14 t15 t16) (Str.ofString "state") = some (.str st t2) := by kernel_rfl
theorem va_dr : valueAt (ifKvs kd st own dr bdr dra bdra nb ha wu de op t1 t2 t3 t4 t5 t6 t7 t8 t9 t10 t11 t12 t13 t14 t15 t16) (Str.ofString "dr") = some (.int dr t3) := by kernel_rfl
theorem va_bdr : valueAt (ifKvs kd st own dr bdr dra bdra nb ha wu de op t1 t2 t3 t4 t5 t6 t7 t8 t9 t10 t11 t12 t13 t14 t15 t16) (Str.ofString "bdr") = some (.int bdr t4) := by kernel_rfl
theorem va_dr_address : valueAt (ifKvs kd st own dr bdr dra bdra nb ha wu de op t1 t2 t3 t4 t5 t6 t7 t8 t9 t10 t11 t12 t13 t14 t15 t16) (Str.ofString "dr_address") = some (.int dra t5) := by kernel_rfl
theorem va_bdr_address : valueAt (ifKvs kd st own dr bdr dra bdra nb ha wu de op t1 t2 t3 t4 t5 t6 t7 t8 t9 t10 t11 t12 t13 t14 t15 t16) (Str.ofString "bdr_address") = some (.int bdra t6) := by kernel_rfl
theorem va_neighbours : valueAt (ifKvs kd st own dr bdr dra bdra nb ha wu de op t1 t2 t3 t4 t5 t6 t7 t8 t9 t10 t11 t12 t13 t14 t15 t16) (Str.ofString "neighbours") = some (.ref nb) := by kernel_rfl
theorem va_hello_at : valueAt (ifKvs kd st own dr bdr dra bdra nb ha wu de op t1 t2 t3 t4 t5 t6 t7 t8 t9 t10 t11 t12 t13 t14 t15 t16) (Str.ofString "hello_at") = some (ha) := by kernel_rfl
theorem va_wait_until : valueAt (ifKvs kd st own dr bdr dra bdra nb ha wu de op t1 t2 t3 t4 t5 t6 t7 t8 t9 t10 t11 t12 t13 t14 t15 t16) (Str.ofString "wait_until") = some (wu) := by kernel_rfl
theorem va_delay : valueAt (ifKvs kd st own dr bdr dra bdra nb ha wu de op t1 t2 t3 t4 t5 t6 t7 t8 t9 t10 t11 t12 t13 t14 t15 t16) (Str.ofString "delay") = some (de) := by kernel_rfl
theorem va_number : valueAt (ifKvs kd st own dr bdr dra bdra nb ha wu de op t1 t2 t3 t4 t5 t6 t7 t8 t9 t10 t11 t12 t13 t14 t15 t16) (Str.ofString "number") = some (.int 1 t7) := by kernel_rfl
theorem va_kind : valueAt (ifKvs kd st own dr bdr dra bdra nb ha wu de op t1 t2 t3 t4 t5 t6 t7 t8 t9 t10 t11 t12 t13 t14 t15 t16) (Str.ofString "kind") = some (.str kd t8) := by kernel_rfl
theorem va_area : valueAt (ifKvs kd st own dr bdr dra bdra nb ha wu de op t1 t2 t3 t4 t5 t6 t7 t8 t9 t10 t11 t12 t13 t14 t15 t16) (Str.ofString "area") = some (.int 3 t9) := by kernel_rfl
theorem va_stub : valueAt (ifKvs kd st own dr bdr dra bdra nb ha wu de op t1 t2 t3 t4 t5 t6 t7 t8 t9 t10 t11 t12 t13 t14 t15 t16) (Str.ofString "stub") = some (.bool false) := by kernel_rfl
theorem va_address : valueAt (ifKvs kd st own dr bdr dra bdra nb ha wu de op t1 t2 t3 t4 t5 t6 t7 t8 t9 t10 t11 t12 t13 t14 t15 t16) (Str.ofString "address") = some (.int own t10) := by kernel_rfl
theorem va_length : valueAt (ifKvs kd st own dr bdr dra bdra nb ha wu de op t1 t2 t3 t4 t5 t6 t7 t8 t9 t10 t11 t12 t13 t14 t15 t16) (Str.ofString "length") = some (.int 24 t11) := by kernel_rfl
theorem va_cost : valueAt (ifKvs kd st own dr bdr dra bdra nb ha wu de op t1 t2 t3 t4 t5 t6 t7 t8 t9 t10 t11 t12 t13 t14 t15 t16) (Str.ofString "cost") = some (.int 1 t12) := by kernel_rfl
theorem va_priority : valueAt (ifKvs kd st own dr bdr dra bdra nb ha wu de op t1 t2 t3 t4 t5 t6 t7 t8 t9 t10 t11 t12 t13 t14 t15 t16) (Str.ofString "priority") = some (.int 1 t13) := by kernel_rfl
theorem va_hello : valueAt (ifKvs kd st own dr bdr dra bdra nb ha wu de op t1 t2 t3 t4 t5 t6 t7 t8 t9 t10 t11 t12 t13 t14 t15 t16) (Str.ofString "hello") = some (.int 10 t14) := by kernel_rfl
theorem va_dead : valueAt (ifKvs kd st own dr bdr dra bdra nb ha wu de op t1 t2 t3 t4 t5 t6 t7 t8 t9 t10 t11 t12 t13 t14 t15 t16) (Str.ofString "dead") = some (.int 40 t15) := by kernel_rfl
theorem va_resend : valueAt (ifKvs kd st own dr bdr dra bdra nb ha wu de op t1 t2 t3 t4 t5 t6 t7 t8 t9 t10 t11 t12 t13 t14 t15 t16) (Str.ofString "resend") = some (.int 5 t16) := by kernel_rfl
theorem va_options : valueAt (ifKvs kd st own dr bdr dra bdra nb ha wu de op t1 t2 t3 t4 t5 t6 t7 t8 t9 t10 t11 t12 t13 t14 t15 t16) (Str.ofString "options") = some (op) := by kernel_rfl
theorem st_state {x9 : PySem.Str} {u9 : Tok} : stored (ifKvs kd st own dr bdr dra bdra nb ha wu de op t1 t2 t3 t4 t5 t6 t7 t8 t9 t10 t11 t12 t13 t14 t15 t16) (Str.ofString "state") (.str x9 u9) = (ifKvs kd x9 own dr bdr dra bdra nb ha wu de op t1 u9 t3 t4 t5 t6 t7 t8 t9 t10 t11 t12 t13 t14 t15 t16) := by
  kernel_rfl
theorem st_dr {x9 : Int} {u9 : Tok} : stored (ifKvs kd st own dr bdr dra bdra nb ha wu de op t1 t2 t3 t4 t5 t6 t7 t8 t9 t10 t11 t12 t13 t14 t15 t16) (Str.ofString "dr") (.int x9 u9) = (ifKvs kd st own x9 bdr dra bdra nb ha wu de op t1 t2 u9 t4 t5 t6 t7 t8 t9 t10 t11 t12 t13 t14 t15 t16) := by
  kernel_rfl
theorem st_bdr {x9 : Int} {u9 : Tok} : stored (ifKvs kd st own dr bdr dra bdra nb ha wu de op t1 t2 t3 t4 t5 t6 t7 t8 t9 t10 t11 t12 t13 t14 t15 t16) (Str.ofString "bdr") (.int x9 u9) = (ifKvs kd st own dr x9 dra bdra nb ha wu de op t1 t2 t3 u9 t5 t6 t7 t8 t9 t10 t11 t12 t13 t14 t15 t16) := by
  kernel_rfl
theorem st_dr_address {x9 : Int} {u9 : Tok} : stored (ifKvs kd st own dr bdr dra bdra nb ha wu de op t1 t2 t3 t4 t5 t6 t7 t8 t9 t10 t11 t12 t13 t14 t15 t16) (Str.ofString "dr_address") (.int x9 u9) = (ifKvs kd st own dr bdr x9 bdra nb ha wu de op t1 t2 t3 t4 u9 t6 t7 t8 t9 t10 t11 t12 t13 t14 t15 t16) := by
  kernel_rfl
theorem st_bdr_address {x9 : Int} {u9 : Tok} : stored (ifKvs kd st own dr bdr dra bdra nb ha wu de op t1 t2 t3 t4 t5 t6 t7 t8 t9 t10 t11 t12 t13 t14 t15 t16) (Str.ofString "bdr_address") (.int x9 u9) = (ifKvs kd st own dr bdr dra x9 nb ha wu de op t1 t2 t3 t4 t5 u9 t7 t8 t9 t10 t11 t12 t13 t14 t15 t16) := by
  kernel_rfl
theorem st_neighbours {x9 : Addr} : stored (ifKvs kd st own dr bdr dra bdra nb ha wu de op t1 t2 t3 t4 t5 t6 t7 t8 t9 t10 t11 t12 t13 t14 t15 t16) (Str.ofString "neighbours") (.ref x9) = (ifKvs kd st own dr bdr dra bdra x9 ha wu de op t1 t2 t3 t4 t5 t6 t7 t8 t9 t10 t11 t12 t13 t14 t15 t16) := by
  kernel_rfl
theorem st_hello_at {x9 : Value} : stored (ifKvs kd st own dr bdr dra bdra nb ha wu de op t1 t2 t3 t4 t5 t6 t7 t8 t9 t10 t11 t12 t13 t14 t15 t16) (Str.ofString "hello_at") (x9) = (ifKvs kd st own dr bdr dra bdra nb x9 wu de op t1 t2 t3 t4 t5 t6 t7 t8 t9 t10 t11 t12 t13 t14 t15 t16) := by
  kernel_rfl
theorem st_wait_until {x9 : Value} : stored (ifKvs kd st own dr bdr dra bdra nb ha wu de op t1 t2 t3 t4 t5 t6 t7 t8 t9 t10 t11 t12 t13 t14 t15 t16) (Str.ofString "wait_until") (x9) = (ifKvs kd st own dr bdr dra bdra nb ha x9 de op t1 t2 t3 t4 t5 t6 t7 t8 t9 t10 t11 t12 t13 t14 t15 t16) := by
  kernel_rfl
theorem mg_new1 {v1 v2 v3 v4 v5 v6 v7 w1 w2 w3 : Value} : merged [(Str.ofString "router", v1), (Str.ofString "state", v2), (Str.ofString "dr", v3), (Str.ofString "bdr", v4), (Str.ofString "dr_address", v5), (Str.ofString "bdr_address", v6), (Str.ofString "neighbours", v7)] [(Str.ofString "hello_at", w1), (Str.ofString "wait_until", w2), (Str.ofString "delay", w3)] = [(Str.ofString "router", v1), (Str.ofString "state", v2), (Str.ofString "dr", v3), (Str.ofString "bdr", v4), (Str.ofString "dr_address", v5), (Str.ofString "bdr_address", v6), (Str.ofString "neighbours", v7), (Str.ofString "hello_at", w1), (Str.ofString "wait_until", w2), (Str.ofString "delay", w3)] := by kernel_rfl
theorem mg_new2 {v1 v2 v3 v4 v5 v6 v7 v8 v9 v10 w1 w2 w3 w4 w5 w6 w7 w8 w9 w10 w11 : Value} : merged [(Str.ofString "router", v1), (Str.ofString "state", v2), (Str.ofString "dr", v3), (Str.ofString "bdr", v4), (Str.ofString "dr_address", v5), (Str.ofString "bdr_address", v6), (Str.ofString "neighbours", v7), (Str.ofString "hello_at", v8), (Str.ofString "wait_until", v9), (Str.ofString "delay", v10)] [(Str.ofString "number", w1), (Str.ofString "kind", w2), (Str.ofString "area", w3), (Str.ofString "stub", w4), (Str.ofString "address", w5), (Str.ofString "length", w6), (Str.ofString "cost", w7), (Str.ofString "priority", w8), (Str.ofString "hello", w9), (Str.ofString "dead", w10), (Str.ofString "resend", w11)] = [(Str.ofString "router", v1), (Str.ofString "state", v2), (Str.ofString "dr", v3), (Str.ofString "bdr", v4), (Str.ofString "dr_address", v5), (Str.ofString "bdr_address", v6), (Str.ofString "neighbours", v7), (Str.ofString "hello_at", v8), (Str.ofString "wait_until", v9), (Str.ofString "delay", v10), (Str.ofString "number", w1), (Str.ofString "kind", w2), (Str.ofString "area", w3), (Str.ofString "stub", w4), (Str.ofString "address", w5), (Str.ofString "length", w6), (Str.ofString "cost", w7), (Str.ofString "priority", w8), (Str.ofString "hello", w9), (Str.ofString "dead", w10), (Str.ofString "resend", w11)] := by kernel_rfl
theorem st_new {v1 v2 v3 v4 v5 v6 v7 v8 v9 v10 v11 v12 v13 v14 v15 v16 v17 v18 v19 v20 v21 w1 : Value} : stored [(Str.ofString "router", v1), (Str.ofString "state", v2), (Str.ofString "dr", v3), (Str.ofString "bdr", v4), (Str.ofString "dr_address", v5), (Str.ofString "bdr_address", v6), (Str.ofString "neighbours", v7), (Str.ofString "hello_at", v8), (Str.ofString "wait_until", v9), (Str.ofString "delay", v10), (Str.ofString "number", v11), (Str.ofString "kind", v12), (Str.ofString "area", v13), (Str.ofString "stub", v14), (Str.ofString "address", v15), (Str.ofString "length", v16), (Str.ofString "cost", v17), (Str.ofString "priority", v18), (Str.ofString "hello", v19), (Str.ofString "dead", v20), (Str.ofString "resend", v21)] (Str.ofString "options") w1 = [(Str.ofString "router", v1), (Str.ofString "state", v2), (Str.ofString "dr", v3), (Str.ofString "bdr", v4), (Str.ofString "dr_address", v5), (Str.ofString "bdr_address", v6), (Str.ofString "neighbours", v7), (Str.ofString "hello_at", v8), (Str.ofString "wait_until", v9), (Str.ofString "delay", v10), (Str.ofString "number", v11), (Str.ofString "kind", v12), (Str.ofString "area", v13), (Str.ofString "stub", v14), (Str.ofString "address", v15), (Str.ofString "length", v16), (Str.ofString "cost", v17), (Str.ofString "priority", v18), (Str.ofString "hello", v19), (Str.ofString "dead", v20), (Str.ofString "resend", v21), (Str.ofString "options", w1)] := by kernel_rfl
theorem mg_nb {v1 v2 v3 v4 v5 v6 w1 w2 w3 w4 w5 w6 : Value} : merged [(Str.ofString "router", v1), (Str.ofString "address", v2), (Str.ofString "state", v3), (Str.ofString "priority", v4), (Str.ofString "said_dr", v5), (Str.ofString "said_bdr", v6)] [(Str.ofString "heard", w1), (Str.ofString "requests", w2), (Str.ofString "owed", w3), (Str.ofString "exchange", w4), (Str.ofString "resend_at", w5), (Str.ofString "sent_back", w6)] = [(Str.ofString "router", v1), (Str.ofString "address", v2), (Str.ofString "state", v3), (Str.ofString "priority", v4), (Str.ofString "said_dr", v5), (Str.ofString "said_bdr", v6), (Str.ofString "heard", w1), (Str.ofString "requests", w2), (Str.ofString "owed", w3), (Str.ofString "exchange", w4), (Str.ofString "resend_at", w5), (Str.ofString "sent_back", w6)] := by kernel_rfl
theorem st_nb {v1 v2 v3 v4 v5 v6 v7 v8 v9 v10 v11 v12 w1 : Value} : stored [(Str.ofString "router", v1), (Str.ofString "address", v2), (Str.ofString "state", v3), (Str.ofString "priority", v4), (Str.ofString "said_dr", v5), (Str.ofString "said_bdr", v6), (Str.ofString "heard", v7), (Str.ofString "requests", v8), (Str.ofString "owed", v9), (Str.ofString "exchange", v10), (Str.ofString "resend_at", v11), (Str.ofString "sent_back", v12)] (Str.ofString "asked") w1 = [(Str.ofString "router", v1), (Str.ofString "address", v2), (Str.ofString "state", v3), (Str.ofString "priority", v4), (Str.ofString "said_dr", v5), (Str.ofString "said_bdr", v6), (Str.ofString "heard", v7), (Str.ofString "requests", v8), (Str.ofString "owed", v9), (Str.ofString "exchange", v10), (Str.ofString "resend_at", v11), (Str.ofString "sent_back", v12), (Str.ofString "asked", w1)] := by kernel_rfl
theorem mg_hv1 {v1 v2 v3 v4 w1 w2 w3 : Value} : merged [(Str.ofString "kind", v1), (Str.ofString "mask", v2), (Str.ofString "interval", v3), (Str.ofString "dead", v4)] [(Str.ofString "options", w1), (Str.ofString "priority", w2), (Str.ofString "dr", w3)] = [(Str.ofString "kind", v1), (Str.ofString "mask", v2), (Str.ofString "interval", v3), (Str.ofString "dead", v4), (Str.ofString "options", w1), (Str.ofString "priority", w2), (Str.ofString "dr", w3)] := by kernel_rfl
theorem mg_hv2 {v1 v2 v3 v4 v5 v6 v7 w1 w2 w3 : Value} : merged [(Str.ofString "kind", v1), (Str.ofString "mask", v2), (Str.ofString "interval", v3), (Str.ofString "dead", v4), (Str.ofString "options", v5), (Str.ofString "priority", v6), (Str.ofString "dr", v7)] [(Str.ofString "bdr", w1), (Str.ofString "id", w2), (Str.ofString "addr", w3)] = [(Str.ofString "kind", v1), (Str.ofString "mask", v2), (Str.ofString "interval", v3), (Str.ofString "dead", v4), (Str.ofString "options", v5), (Str.ofString "priority", v6), (Str.ofString "dr", v7), (Str.ofString "bdr", w1), (Str.ofString "id", w2), (Str.ofString "addr", w3)] := by kernel_rfl
theorem mg_line {v1 v2 v3 v4 v5 v6 v7 w1 w2 w3 w4 : Value} : merged [(Str.ofString "number", v1), (Str.ofString "kind", v2), (Str.ofString "area", v3), (Str.ofString "stub", v4), (Str.ofString "address", v5), (Str.ofString "length", v6), (Str.ofString "cost", v7)] [(Str.ofString "priority", w1), (Str.ofString "hello", w2), (Str.ofString "dead", w3), (Str.ofString "resend", w4)] =
    [(Str.ofString "number", v1), (Str.ofString "kind", v2), (Str.ofString "area", v3), (Str.ofString "stub", v4), (Str.ofString "address", v5), (Str.ofString "length", v6), (Str.ofString "cost", v7), (Str.ofString "priority", w1), (Str.ofString "hello", w2), (Str.ofString "dead", w3), (Str.ofString "resend", w4)] := by
  kernel_rfl
theorem mg_shared {x9 : PySem.Str} {y9 z9 v9 w9 : Int} {wu9 : Value} {a1 a2 a3 a4 a5 : Tok} : merged (ifKvs kd st own dr bdr dra bdra nb ha wu de op t1 t2 t3 t4 t5 t6 t7 t8 t9 t10 t11 t12 t13 t14 t15 t16) [(Str.ofString "state", .str x9 a1), (Str.ofString "dr", .int y9 a2), (Str.ofString "bdr", .int z9 a3), (Str.ofString "dr_address", .int v9 a4), (Str.ofString "bdr_address", .int w9 a5), (Str.ofString "wait_until", wu9)] = ifKvs kd x9 own y9 z9 v9 w9 nb ha wu9 de op t1 a1 a2 a3 a4 a5 t7 t8 t9 t10 t11 t12 t13 t14 t15 t16 := by
  kernel_rfl
end
section
variable {prog : Program} {w : World} {A : Around} {E : Value → Shared → Prop} {s : Shared} {h₀ : Heap} {L a d : Addr} {m : PySem.Str → Option Value} {name : PySem.Str} {scope : Scope} {cd : Value} {news : List (Addr × Obj)} {o : Obj}
/-- name['key'] of a dict of the ledger, in one step -/
theorem sub_key {x key : PySem.Str} {p pp pos : Pos} {kk : Nat} {kvs : List (PySem.Str × Value)} {v : Value} {Q : Value → Shared → Prop} (F : Fr h₀ L s.heap m) (hv : m x = some (.ref d)) (N : News h₀ L s.heap news) (hp : (d, o) ∈ news) (hd : o.IsDictOf (PySem.strKind prog w) kvs)
    (hl : valueAt kvs key = some v) (h : Q v { s with toks := s.toks + 1 + 1 }) (hk : scope.kind = .function := by rfl) (hloc : (envOf name scope L a cd).kindOf x = some .local := by rfl) (hdb : (x == ("__debug__" : PySem.Str)) = false := by decide) :
    wpAny (model prog w) A (eval (.Subscript (.Name x p) (.Constant (.str key) kk pp) pos) (envOf name scope L a cd)) Q E s :=
  Subscript_ (ld F hv (Constant_str (kda_item (s := { s with toks := s.toks + 1 }) N hp hd (strKind_is _ _ _ _) hl h)) hk hloc hdb)
end
/-- a call whose part stands ahead in the ledger -/
theorem Ctr.useA {w : World} {k : Nat} {f : Addr} {vs : List Value} {foot : Led} {Post : Value → Led → Prop} {mean : ExcName → Option Value} {mg mb : PySem.Str → Option Value}
    {dp un : Nat} {gd : Option (List Code)} {cn : PySem.Str} {cs : Scope} {a : Addr} {ccd : Value} {cl : List (PySem.Str × Addr)} {outer : List Env} {A₀ : Around} {base h₀ : Heap} {L : Addr} {m : PySem.Str → Option Value} {s : Shared} {Q E : Value → Shared → Prop} {rest : Led}
    (C : Ctr w k f vs foot Post) (B : Below A₀ base outer h₀) (F : Fr h₀ L s.heap m) (X : (hd.heap_39 w.params).In h₀) (N : News h₀ L s.heap (foot ++ rest)) (T : Top hd.view_39 LL mean mg mb h₀) (hk : cs.kind = .function)
    (hd : dp + k < recursionLimit) (hu : un + 8 * k < cLine) (ho : Off foot rest)
    (ret : ∀ (r : Value) (foot' : Led) (h' : Heap) (tk' : Nat), Fr h₀ L h' m → News h₀ L h' (foot' ++ rest) → Off foot' rest → Post r foot' → Q r { s with heap := h', toks := tk' }) :
    wpAny (model PR w) (ktrTop dp un gd cn cs L a ccd cl outer) (call (.ref f) vs) Q E s :=
  C.use B F X N T hk hd hu rest (fun _ h => List.mem_append.mpr (.inl h)) (fun _ h => List.mem_append.mpr (.inr h)) ho ret
/-- the end of a contract's proof where the second object is of no use any more -/
theorem ctr_end2 {h₀ g h' : Heap} {L L' : Addr} {m m' : PySem.Str → Option Value} {adr : List Addr} {s : Shared} {Q : Value → Shared → Prop} {Post : Value → Led → Prop} {a b : Addr × Obj} {rest : Led} {r : Value} {tk' : Nat}
    (hret : ∀ (r : Value) (foot' : Led) (h' : Heap) (tk' : Nat), Fr h₀ L h' m → News h₀ L h' foot' → (∀ b o, s.heap.get? b = some o → b ∉ adr → h'.get? b = some o) → (∀ p ∈ foot', s.heap.get? p.1 = none ∨ p.1 ∈ adr) →
      Post r foot' → Q r { s with heap := h', toks := tk' })
    (G : GSub s.heap g adr) (F' : Fr g L' h' m') (N' : News g L' h' (a :: b :: rest)) (F : Fr h₀ L h' m) (N : News h₀ L h' (a :: b :: rest)) (post : Post r (a :: rest)) : Q r { s with heap := h', toks := tk' } :=
  ctr_end hret post G F' N' F N fun p hp => by
    rcases List.mem_cons.mp hp with rfl | hp
    · exact .head _
    · exact .tail _ (.tail _ hp)
/-- where the walk is to halt -/
def Stop (p : Prop) : Prop := p
theorem stop_at {p : Prop} (h : Stop p) : p := h
theorem stop_out {p : Prop} (h : p) : Stop p := h
/-- what stands behind the first rows of a block -/
def CutEnd (g : Heap) (L : Addr) (s : Shared) (P : (PySem.Str → Option Value) → Led → Prop) (f : Flow) (s' : Shared) : Prop :=
  ∃ h' tk m' news', f = .next ∧ s' = { s with heap := h', toks := tk } ∧ Fr g L h' m' ∧ News g L h' news' ∧ P m' news'
theorem CutEnd.intro {g : Heap} {L : Addr} {s : Shared} {P : (PySem.Str → Option Value) → Led → Prop} {h' : Heap} {tk : Nat} {m' : PySem.Str → Option Value} {all : Led} (news' : Led)
    (p : P m' news') (F : Fr g L h' m') (N : News g L h' all) (hs : ∀ p ∈ news', p ∈ all) : CutEnd g L s P .next { s with heap := h', toks := tk } :=
  ⟨h', tk, m', news', rfl, rfl, F, fun p hp => N p (hs p hp), p⟩
section
variable {M : Model} {A : Around} {E : Value → Shared → Prop} {env : Env}
theorem wp_execs_append {Γ : Ctx} {b : List Stmt} {Q : Flow → Pos → Shared → Prop} {E' : Value → Pos → Shared → Prop} : ∀ (a : List Stmt) {p : Pos} {s : Shared},
    Sem.wp M Γ (execs a env) (fun f p' s' => match f with | .next => Sem.wp M Γ (execs b env) Q E' p' s' | f => Q f p' s') E' p s → Sem.wp M Γ (execs (a ++ b) env) Q E' p s
  | [], _, _, h => h
  | st :: r, p, s, h => by
    rw [execs_cons, Sem.wp_bind'] at h
    rw [List.cons_append, execs_cons, Sem.wp_bind']
    refine Sem.wp_mono M Γ _ (fun f p' s' h' => ?_) (fun _ _ _ x => x) p s h
    cases f with
    | next => exact wp_execs_append r h'
    | brk => exact h'
    | cont => exact h'
    | ret v => exact h'
/-- the first k rows of a block, then the others -/
theorem execs_cut (k : Nat) {l : List Stmt} {s : Shared} {Q : Flow → Shared → Prop} {g : Heap} {L : Addr} {m₀ : PySem.Str → Option Value} (_F : Fr g L s.heap m₀) (P : (PySem.Str → Option Value) → Led → Prop)
    (h1 : wpAny M A (execs (l.take k) env) (CutEnd g L s P) E s)
    (h2 : ∀ h' tk m' news', Fr g L h' m' → News g L h' news' → P m' news' → wpAny M A (execs (l.drop k) env) Q E { s with heap := h', toks := tk }) : wpAny M A (execs l env) Q E s := by
  intro Γ p hΓ
  rw [← List.take_append_drop k l]
  refine wp_execs_append _ (Sem.wp_mono M Γ _ (fun f p' s' h' => ?_) (fun _ _ _ x => x) p s (h1 Γ p hΓ))
  obtain ⟨h', tk, m', news', rfl, rfl, F, N, hp⟩ := h'
  exact h2 h' tk m' news' F N hp Γ p' hΓ
end
/-- a name's value, brought to the front -/
theorem fr_name {h₀ h : Heap} {L : Addr} {m : PySem.Str → Option Value} {x : PySem.Str} {v : Value} (F : Fr h₀ L h m) (e : m x = some v) : Fr h₀ L h (fun y => if y = x then some v else m y) := by
  have : (fun y => if y = x then some v else m y) = m := by
    funext y
    by_cases q : y = x
    · rw [if_pos q, q, e]
    · rw [if_neg q]
  rw [this]; exact F
theorem offc {a b : Addr} {o : Obj} {r : Led} (h : ∀ q ∈ (a, o) :: r, q.1 ≠ b) : (@Ne Nat a b) ∧ ∀ q ∈ r, q.1 ≠ b := ⟨h _ (.head _), fun q hq => h q (.tail _ hq)⟩
theorem off_one {b : Addr} {o : Obj} {r : Led} (h : Off [(b, o)] r) : ∀ q ∈ r, q.1 ≠ b := fun q hq e => h _ (.head _) q hq e.symm
theorem off1_mem {D : Addr} : ∀ {l : Led}, LCg.Off1 D l → ∀ p ∈ l, p.1 ≠ D
  | [], _, _, h => nomatch h
  | _ :: _, x, p, h => by
    rcases List.mem_cons.mp h with rfl | h
    · exact x.1
    · exact off1_mem x.2 p h
theorem fr_name2 {h₀ h : Heap} {L : Addr} {m : PySem.Str → Option Value} {a b : String} {v u : Value} (F : Fr h₀ L h m) (ea : m (PySem.Str.ofString a) = some v) (eb : m (PySem.Str.ofString b) = some u) (hab : a ≠ b) :
    Fr h₀ L h (fun y => if y = PySem.Str.ofString a then some v else if y = PySem.Str.ofString b then some u else m y) :=
  fr_name (fr_name F eb) (by rw [if_neg (fun h => hab (ofs_inj h))]; exact ea)
section
variable {prog : Program} {w : World} {A : Around} {E : Value → Shared → Prop} {s : Shared} {env : Env} {h₀ : Heap} {x : PySem.Str} {body : List Stmt} {Q : Flow → Shared → Prop}
theorem range_ind {I : Addr} {a : Int} {n : Nat} (Inv : Nat → (PySem.Str → Option Value) → Led → Prop)
    (zero : ∀ m news h tk, Inv n m news → Fr h₀ env.locals h m → News h₀ env.locals h news → Q .next { s with heap := h, toks := tk })
    (succ : ∀ i m news, i < n → Inv i m news → ∀ t h tk, Fr h₀ env.locals h (fun y => if y = x then some (.int (a + (i : Int)) t) else m y) →
      News h₀ env.locals h ((I, itR (a + ((i + 1 : Nat) : Int)) ((n : Int) - ((i + 1 : Nat) : Int))) :: news) →
      wpAny (model prog w) A (execs body env) (UnrPost h₀ env.locals { s with heap := h, toks := tk } I (itR (a + ((i + 1 : Nat) : Int)) ((n : Int) - ((i + 1 : Nat) : Int))) (Inv (i + 1)) Q) E { s with heap := h, toks := tk }) :
    ∀ k i m news, i + k = n → Inv i m news → RangeRest prog w A E h₀ env x body Q s I a n k i m news
  | 0, i, m, news, e, hi => RangeRest.zero fun h tk F N => zero m news h tk ((show i = n from e) ▸ hi) F N
  | k + 1, i, m, news, e, hi => RangeRest.succ fun t h tk F N => wpAny_mono (succ i m news (by omega) hi t h tk F N) (fun f s' hp => by
      have ih := range_ind Inv zero succ k (i + 1)
      have go : UnrEnd h₀ env.locals { s with heap := h, toks := tk } I (itR (a + ((i + 1 : Nat) : Int)) ((n : Int) - ((i + 1 : Nat) : Int))) (Inv (i + 1)) s' →
          UnrEnd h₀ env.locals { s with heap := h, toks := tk } I (itR (a + ((i + 1 : Nat) : Int)) ((n : Int) - ((i + 1 : Nat) : Int))) (RangeRest prog w A E h₀ env x body Q s I a n k (i + 1)) s' := by
        rintro ⟨h', tk', m', news', e', F', N', off, hi'⟩
        exact ⟨h', tk', m', news', e', F', N', off, ih m' news' (by omega) hi'⟩
      cases f with
      | ret v => exact hp
      | brk => exact hp
      | next => exact go hp
      | cont => exact go hp) fun _ _ z => z

theorem list_ind {I : Addr} {lp : Addr × Obj} (Inv : List Value → (PySem.Str → Option Value) → Led → Prop)
    (zero : ∀ m news h tk, Inv [] m news → Fr h₀ env.locals h m → News h₀ env.locals h news → Q .next { s with heap := h, toks := tk })
    (succ : ∀ v r m news, Inv (v :: r) m news → ∀ (it : Obj) h tk, it.cls = .type "list_iterator" → Fr h₀ env.locals h (fun y => if y = x then some v else m y) → News h₀ env.locals h ((I, it) :: news) →
      wpAny (model prog w) A (execs body env) (UnrPost h₀ env.locals { s with heap := h, toks := tk } I it (fun m' n' => lp ∈ n' ∧ Inv r m' n') Q) E { s with heap := h, toks := tk }) :
    ∀ vs m news, Inv vs m news → ListRest prog w A E h₀ env x body Q s I lp vs m news
  | [], m, news, hi => ListRest.zero fun h tk F N => zero m news h tk hi F N
  | v :: r, m, news, hi => ListRest.succ fun it h tk hc F N => wpAny_mono (succ v r m news hi it h tk hc F N) (fun f s' hp => by
      have ih := list_ind Inv zero succ r
      have go : UnrEnd h₀ env.locals { s with heap := h, toks := tk } I it (fun m' n' => lp ∈ n' ∧ Inv r m' n') s' →
          UnrEnd h₀ env.locals { s with heap := h, toks := tk } I it (fun m' n' => lp ∈ n' ∧ ListRest prog w A E h₀ env x body Q s I lp r m' n') s' := by
        rintro ⟨h', tk', m', news', e', F', N', off, hl, hi'⟩
        exact ⟨h', tk', m', news', e', F', N', off, hl, ih m' news' hi'⟩
      cases f with
      | ret v => exact hp
      | brk => exact hp
      | next => exact go hp
      | cont => exact go hp) fun _ _ z => z
end
section
variable {prog : Program} {w : World} {A : Around} {E : Value → Shared → Prop} {s : Shared} {env : Env} {h₀ : Heap} {L : Addr} {m : PySem.Str → Option Value} {ct elt : PySem.Expr} {x : PySem.Str} {scope : Scope} {cl : List (PySem.Str × Addr)} {S : Led → Prop} {P : Nat → Value → Prop} {Fin : List Value → Led → Prop} {n : Nat}
theorem comp_ind (Inv : Nat → List Value → Led → Prop) (zero : ∀ ys news, Inv n ys news → Fin ys news)
    (succ : ∀ i ys news, i < n → Inv i ys news → ∀ v I oI C oC D m₂ h tk (E' : Value → Shared → Prop), P i v → LCg.NsObj oC m₂ → m₂ x = some v → Fr h₀ L h m → News h₀ L h ((I, oI) :: (C, oC) :: (D, LCg.lst ys) :: news) → LCg.Off3 I C D news → ((@Ne Nat I C) ∧ (@Ne Nat I D) ∧ (@Ne Nat C D)) →
      wpAny (model prog w) A (eval elt (compEnvC scope cl C env)) (LCg.CompEnd h₀ L m { s with heap := h, toks := tk } I oI C oC D (LCg.lst ys) S (fun y news' => Inv (i + 1) (ys ++ [y]) news')) E' { s with heap := h, toks := tk }) :
    ∀ k i ys news, i + k = n → Inv i ys news → LCg.CompRest prog w A h₀ L m env elt x scope cl s S P Fin k i ys news
  | 0, i, ys, news, e, hi => LCg.CompRest.zero (zero ys news ((show i = n from e) ▸ hi))
  | k + 1, i, ys, news, e, hi => LCg.CompRest.succ fun v I oI C oC D m₂ h tk E' hv hC hx F N off ne => wpAny_mono (succ i ys news (by omega) hi v I oI C oC D m₂ h tk E' hv hC hx F N off ne) (fun y s' hq => by
      obtain ⟨h', tk', nw, e', F', N', off', hS, hi'⟩ := hq
      exact ⟨h', tk', nw, e', F', N', off', hS, comp_ind Inv zero succ k (i + 1) _ _ (by omega) hi'⟩) fun _ _ z => z

theorem compT_ind (Inv : Nat → List Value → Led → Prop) (zero : ∀ ys news, Inv n ys news → Fin ys news)
    (succ : ∀ i ys news, i < n → Inv i ys news → ∀ v I oI C oC D m₂ h tk (E' : Value → Shared → Prop), P i v → LCg.NsObj oC m₂ → m₂ x = some v → Fr h₀ L h m → News h₀ L h ((I, oI) :: (C, oC) :: (D, LCg.lst ys) :: news) → LCg.Off3 I C D news → ((@Ne Nat I C) ∧ (@Ne Nat I D) ∧ (@Ne Nat C D)) →
      wpAny (model prog w) A (isTrue ct (compEnvC scope cl C env) (eval ct (compEnvC scope cl C env))) (fun ok s' => if ok = true then
        wpAny (model prog w) A (eval elt (compEnvC scope cl C env)) (LCg.CompEnd h₀ L m { s with heap := h, toks := tk } I oI C oC D (LCg.lst ys) S (fun y news' => Inv (i + 1) (ys ++ [y]) news')) E' s'
        else LCg.CompEnd h₀ L m { s with heap := h, toks := tk } I oI C oC D (LCg.lst ys) S (fun _ news' => Inv (i + 1) ys news') Value.none s') E' { s with heap := h, toks := tk }) :
    ∀ k i ys news, i + k = n → Inv i ys news → LCt.CompRestT prog w A h₀ L m env ct elt x scope cl s S P Fin k i ys news
  | 0, i, ys, news, e, hi => LCt.CompRestT.zero (zero ys news ((show i = n from e) ▸ hi))
  | k + 1, i, ys, news, e, hi => LCt.CompRestT.succ fun v I oI C oC D m₂ h tk E' hv hC hx F N off ne => wpAny_mono (succ i ys news (by omega) hi v I oI C oC D m₂ h tk E' hv hC hx F N off ne) (fun ok s' hq => by
      have conv : ∀ (b : Bool) (y : Value) (s₂ : Shared), LCg.CompEnd h₀ L m { s with heap := h, toks := tk } I oI C oC D (LCg.lst ys) S (fun y news' => Inv (i + 1) (if b then ys ++ [y] else ys) news') y s₂ →
          LCg.CompEnd h₀ L m { s with heap := h, toks := tk } I oI C oC D (LCg.lst ys) S (fun y news' => LCt.CompRestT prog w A h₀ L m env ct elt x scope cl s S P Fin k (i + 1) (if b then ys ++ [y] else ys) news') y s₂ := by
        rintro b y s₂ ⟨h', tk', nw, e', F', N', off', hS, hi'⟩
        exact ⟨h', tk', nw, e', F', N', off', hS, compT_ind Inv zero succ k (i + 1) _ _ (by omega) hi'⟩
      cases ok with
      | true => exact wpAny_mono hq (fun y s₂ z => conv true y s₂ z) fun _ _ z => z
      | false => exact conv false Value.none _ hq) fun _ _ z => z
end
theorem fill_all : PySem.Challenge.rw_rh0206_01 = PySem.Challenge.rw_rh0206_01 ∧ hd.heap_39 = hd.heap_39 := by k_fill; exact ⟨rfl, rfl⟩
local macro_rules | `(tactic| k_all) => `(tactic| first | exact List.forall_mem_nil _ | (refine' List.forall_mem_cons.mpr ⟨?a, ?b⟩; (case a => k_ne); (case b => k_all)) | with_reducible assumption)
local macro_rules | `(tactic| k_mem) => `(tactic| first | exact List.Mem.head _ | (refine' List.Mem.tail _ ?_; k_mem) | assumption)
-- a part of some conjunction of the context; two addresses differ
local macro_rules | `(tactic| kby_size) => `(tactic| with_reducible first | assumption | exact pk0 ‹_› | exact pk1 ‹_› | exact pk2 ‹_› | exact pk3 ‹_› | exact pk4 ‹_› | exact pk5 ‹_› | exact pk6 ‹_› | exact pk7 ‹_› | exact pk8 ‹_› | exact pk9 ‹_› | exact pk10 ‹_› | exact pk11 ‹_› | exact pk12 ‹_› | exact pk13 ‹_› | exact pk14 ‹_› | exact pk15 ‹_› | exact pe1 ‹_› | exact pe2 ‹_› | exact pe3 ‹_› | exact pe4 ‹_› | exact pe5 ‹_› | exact pe6 ‹_› | exact pe7 ‹_› | exact pe8 ‹_› | exact pe9 ‹_› | exact pe10 ‹_› | exact pe11 ‹_› | exact pe12 ‹_› | exact pe13 ‹_› | exact pe14 ‹_› | exact pe15 ‹_›)
local macro_rules | `(tactic| k_ne) => `(tactic| (refine neN ?_; (try dsimp only); first | with_reducible assumption | (refine Nat.ne_of_lt ?_; kby_size) | (refine Nat.ne_of_gt ?_; kby_size) | kby_size | (refine Ne.symm ?_; kby_size) | omega))
theorem off_M1 : True := by w_top off; trivial
theorem draw_end {x many spot : Int} {n : Nat} {tk t2 : Tok} {cells : Addr} (hm : 0 < many) :
    ∃ (v : Int) (t t1 : Tok), Value.int (x.fmod many) tk = .int v t ∧ 0 ≤ v ∧ v < many ∧ listOf #[.ref cells, .int (spot + 1) t2] n = listOf #[.ref cells, .int (spot + 1) t1] n :=
  ⟨_, _, _, rfl, fmod_lo x hm, fmod_hi x hm, rfl⟩
set_option maxHeartbeats 4000000 in
/-- _law_draw: some number below many; the pool's place goes on by one -/
theorem draw_c {w : World} {pool cells : Addr} {vs : List Value} {ns : List Int} {n n' : Nat} {spot many : Int} {t0 tk : Tok}
    (hvs : IntsAre vs ns) (hlen : ns.length ≤ 63) (hspot0 : 0 ≤ spot) (hspot : spot < 1000) (hmany : 0 < many) (hmany2 : many < 10000) (hne : NeA cells pool) :
    Ctr w 1 213 [.ref pool, .int many tk] [(pool, listOf #[.ref cells, .int spot t0] n), (cells, listOf vs.toArray n')]
      (fun r l => ∃ o', l = (pool, o') :: [(cells, listOf vs.toArray n')] ∧ ∃ (v : Int) (t t1 : Tok), r = .int v t ∧ 0 ≤ v ∧ v < many ∧ o' = listOf #[.ref cells, .int (spot + 1) t1] n) := by
  unfold Ctr
  intro mean mg mb dp un gd cn cs a ccd cl outer A₀ base h₀ L m s Q E B F X N T hk hdp hun hret
  refine wpAny_call ?_
  k_dflt ((refine' code_defG ?k1 ?k2 ?k3 ?k4 ?k5 ?kA ?kF ?kK ?k6 ?k7 ?k8 ?k9 ?kB ?_ ?c2 ?c3 ?c4 ?c5; (case kA => exact rfl); (case kF => exact rfl); (case kK => assumption); (case k1 => k_asm); (case k2 => k_asm); (case k3 => k_asm); (case k4 => k_asm); (case k5 => k_asm); (case k6 => k_is); (case k7 => k_is); (case k8 => ktr_room); (case k9 => exact BindsTo.of_eq rfl); (case c5 => decide); (case kB => exact locs rfl); (case c2 => exact rfl); (case c3 => exact rfl); (case c4 => exact rfl); k_whole; intro g' L' h' FG' F' N' B' X' T' kG'; (try dsimp only); (try k_lift B'); (try k_fold)))
  (repeat' (first | (k_unfold; (try dsimp only)) | (k_end; wrow_close) | (with_reducible ((with_reducible refine execs_tk ?_); intro _; (try dsimp only); (try k_fold))) | (with_reducible ((with_reducible show wpAny _ _ (subscriptTail _ _ (Value.ref _) (Value.str _ _)) _ _ _); k_dflt (refine kda_item (knd := PySem.strKind _ _) (by k_asm) (by k_mem) (by k_asm) (strKind_is _ _ _ _) (by (first | with_reducible exact va_router | with_reducible exact va_state | with_reducible exact va_dr | with_reducible exact va_bdr | with_reducible exact va_dr_address | with_reducible exact va_bdr_address | with_reducible exact va_neighbours | with_reducible exact va_hello_at | with_reducible exact va_wait_until | with_reducible exact va_kind | with_reducible exact va_address | with_reducible exact va_priority | with_reducible exact va_hello | with_reducible exact va_dead | with_reducible exact va_options | with_reducible exact va_delay | with_reducible exact va_number | with_reducible exact va_area | with_reducible exact va_stub | with_reducible exact va_length | with_reducible exact va_cost | with_reducible exact va_resend | (repeat (first | exact valueAt_hit | refine (valueAt_miss (by decide)).trans ?_)))) ?_))) | walk1 | (dsimp only; walk1) | (leave1; (try dsimp only))))
  · refine' ctr_end hret ?post ?G ?F' ?N' ?F ?N ?hs
    (case G => assumption); (case F' => assumption); (case N' => assumption); (case F => assumption); (case N => assumption); (case hs => exact fun _ hp => hp)
    exact ⟨_, rfl, draw_end hmany⟩
  · refine' ctr_end hret ?post2 ?G2 ?F2' ?N2' ?F2 ?N2 ?hs2
    (case G2 => assumption); (case F2' => assumption); (case N2' => assumption); (case F2 => assumption); (case N2 => assumption); (case hs2 => exact fun _ hp => hp)
    exact ⟨_, rfl, draw_end hmany⟩
/-- the same at a call -/
theorem draw_u {w : World} {pool cells : Addr} {vs : List Value} {ns : List Int} {n n' : Nat} {spot many : Int} {t0 tk : Tok} {mean : ExcName → Option Value} {mg mb : PySem.Str → Option Value}
    {dp un : Nat} {gd : Option (List Code)} {cn : PySem.Str} {cs : Scope} {a : Addr} {ccd : Value} {cl : List (PySem.Str × Addr)} {outer : List Env} {A₀ : Around} {base h₀ : Heap} {L : Addr} {m : PySem.Str → Option Value} {s : Shared} {Q E : Value → Shared → Prop} {all : Led} {g : Obj → Led}
    (B : Below A₀ base outer h₀) (F : Fr h₀ L s.heap m) (X : (hd.heap_39 w.params).In h₀) (N : News h₀ L s.heap all) (T : Top hd.view_39 LL mean mg mb h₀) (hk : cs.kind = .function) (U : UpdF pool (listOf #[.ref cells, .int spot t0] n) all g)
    (hvs : IntsAre vs ns) (hlen : ns.length ≤ 63) (hspot0 : 0 ≤ spot) (hspot : spot < 1000) (hmany : 0 < many) (hmany2 : many < 10000) (hne : NeA cells pool) (hd : dp + 1 < recursionLimit) (hu : un + 8 * 1 < cLine) (hf : ∀ p ∈ [(cells, listOf vs.toArray n')], p ∈ all)
    (ret : ∀ (r : Value) (o' : Obj) (h' : Heap) (tk' : Nat), Fr h₀ L h' m → News h₀ L h' (g o') → (∃ (v : Int) (t t1 : Tok), r = .int v t ∧ 0 ≤ v ∧ v < many ∧ o' = listOf #[.ref cells, .int (spot + 1) t1] n) → Q r { s with heap := h', toks := tk' }) :
    wpAny (model PR w) (ktrTop dp un gd cn cs L a ccd cl outer) (call (.ref 213) [.ref pool, .int many tk]) Q E s :=
  (draw_c hvs hlen hspot0 hspot hmany hmany2 hne).upd B F X N T hk hd hu U hf ret
set_option pp.deepTerms false
set_option pp.deepTerms.threshold 4
set_option pp.proofs false
section
theorem off_M2 : True := by w_top off; trivial
local macro_rules | `(tactic| walk_at "none 0") => `(tactic| fail)
set_option maxHeartbeats 4000000 in
theorem nb_c {w : World} {r a n : Int} {t1 t2 t3 : Tok} :
    Ctr w 1 165 [.int r t1, .int a t2, .int n t3] []
      (fun x l => ∃ d o ta tb t4 t5 dx dy dz dw t6 t7 t8, x = .ref d ∧ l = [(d, o)] ∧ o.IsDictOf (PySem.strKind PR w) [("router", .int r ta), ("address", .int a tb), ("state", .str "down" t4), ("priority", .int 0 t5), ("said_dr", .int 0 t7), ("said_bdr", .int 0 t8), ("heard", t6),
        ("requests", dx), ("owed", dy), ("exchange", .none), ("resend_at", .none), ("sent_back", dz), ("asked", dw)]) := by
  unfold Ctr
  intro mean mg mb dp un gd cn cs a ccd cl outer A₀ base h₀ L m s Q E B F X N T hk hdp hun hret
  refine wpAny_call ?_
  k_dflt ((refine' code_defG ?k1 ?k2 ?k3 ?k4 ?k5 ?kA ?kF ?kK ?k6 ?k7 ?k8 ?k9 ?kB ?_ ?c2 ?c3 ?c4 ?c5; (case kA => exact rfl); (case kF => exact rfl); (case kK => assumption); (case k1 => k_asm); (case k2 => k_asm); (case k3 => k_asm); (case k4 => k_asm); (case k5 => k_asm); (case k6 => k_is); (case k7 => k_is); (case k8 => ktr_room); (case k9 => exact BindsTo.of_eq rfl); (case c5 => decide); (case kB => exact locs rfl); (case c2 => exact rfl); (case c3 => exact rfl); (case c4 => exact rfl); k_whole; intro g' L' h' FG' F' N' B' X' T' kG'; (try dsimp only); (try k_lift B'); (try k_fold)))
  (repeat' (first | (k_unfold; (try dsimp only)) | (k_end; wrow_close) | (with_reducible ((with_reducible refine execs_tk ?_); intro _; (try dsimp only); (try k_fold))) | (with_reducible ((with_reducible show wpAny _ _ (eval (PySem.Expr.Dict ..) _) _ _ _); refine kdn_str (by k_dflt rfl) (by k_asm) (by first | k_asm | exact News.nil) (by exact Top.nolimit (by k_asm)) (by k_dflt rfl) (by k_dflt rfl) (by exact List.cons_ne_nil _ _) (by k_dflt (exact Nat.le_of_ble_eq_true rfl)) ?_; intro d' h' o' F' N' l1 lo' hd'; (try k_lt l1))) | (with_reducible ((with_reducible show KdnMade ..); k_dflt (refine kdn_made_str (by k_asm) (by k_asm) (by k_updF) (by k_asm) (by rfl) (by exact of_decide_eq_true (by first | rfl | kernel_rfl!)) ?_; intro h' o' F' N' hd'); (try dsimp only [strPairs] at hd'); (try dsimp only at N'))) | (with_reducible ((with_reducible show wpAny _ _ (call (Value.builtin "dict.update") [Value.ref _, Value.ref _]) _ _ _); k_dflt (refine upd_s (knd := PySem.strKind _ _) (by k_asm) (by k_asm) (by k_updF) (by k_asm) (by k_mem) (by k_asm) (by k_asm) (by first | assumption | k_ne) (by exact rfl) ?_); intro h' o' F' N' hd'; (first | rw [mg_line] at hd' | rw [mg_shared] at hd' | rw [mg_new1] at hd' | rw [mg_new2] at hd' | rw [mg_nb] at hd' | rw [mg_hv1] at hd' | rw [mg_hv2] at hd' | simp only [merged, List.foldl_cons, List.foldl_nil, stored, List.any_cons, List.any_nil, List.map_cons, List.map_nil, ofs_eq, String.reduceEq, decide_true, decide_false, Bool.or_true, Bool.true_or, Bool.false_or, Bool.or_false, Bool.false_eq_true, if_true, if_false, List.cons_append, List.nil_append] at hd' | skip); (try dsimp only at N'))) | (with_reducible ((with_reducible show wpAny _ _ (getMethod (Value.ref _) (Str.ofString "update") _) _ _ _); k_dflt (refine meth_upd (knd := PySem.strKind _ _) (by k_asm) (by k_mem) (by k_asm) ?_))) | (with_reducible ((with_reducible show wpAny _ _ (callWith _ (Value.builtin _) (_ :: _) (backTo _ (starEach (_ :: _) _)) []) _ _ _); k_dflt (refine callWith_method1 ?_))) | (with_reducible ((with_reducible show wpAny _ _ (setItem (Value.ref _) (Value.str _ _) _) _ _ _); k_dflt (refine set_s (knd := PySem.strKind _ _) (by k_asm) (by k_asm) (by k_updF) (by k_asm) (strKind_is _ _ _ _) (by exact rfl) ?_); intro h' o' F' N' hd'; (first | rw [st_state] at hd' | rw [st_dr] at hd' | rw [st_bdr] at hd' | rw [st_dr_address] at hd' | rw [st_bdr_address] at hd' | rw [st_neighbours] at hd' | rw [st_hello_at] at hd' | rw [st_wait_until] at hd' | rw [st_new] at hd' | rw [st_nb] at hd' | simp only [merged, List.foldl_cons, List.foldl_nil, stored, List.any_cons, List.any_nil, List.map_cons, List.map_nil, ofs_eq, String.reduceEq, decide_true, decide_false, Bool.or_true, Bool.true_or, Bool.false_or, Bool.or_false, Bool.false_eq_true, if_true, if_false, List.cons_append, List.nil_append] at hd' | skip); (try dsimp only at N'); (try dsimp only))) | walk1 | (dsimp only; walk1) | (leave1; (try dsimp only))))
  refine' ctr_end hret ?post ?G ?F' ?N' ?F ?N ?hs
  case post => exact ⟨_, _, _, _, _, _, _, _, _, _, _, _, _, rfl, rfl, by assumption⟩
  (((case G => assumption); (case F' => assumption); (case N' => assumption); (case F => assumption); (case N => assumption); (case hs => lcg_sub)))
end
theorem off_M3 : True := by w_top off; trivial
/-- behind new_iface -/
inductive NiP (w : World) (kd : PySem.Str) (own : Int) (a1 a2 a3 a4 a5 a6 a7 a8 a9 a10 : Tok) (x : Value) (l : Led) : Prop
  | mk (d : Addr) (o : Obj) (nb : Addr) (t1 t2 t3 t4 t5 t6 : Tok) (t7 t8 : Value) (q1 : x = .ref d) (q2 : l = [(d, o), (nb, listOf #[] 0)]) (q3 : o.IsDictOf (PySem.strKind PR w) (ifKvs kd "down" own 0 0 0 0 nb .none .none t7 t8 t1 t2 t3 t4 t5 t6 a1 a2 a3 a4 a5 a6 a7 a8 a9 a10)) (q4 : NeA d nb) : NiP w kd own a1 a2 a3 a4 a5 a6 a7 a8 a9 a10 x l
set_option maxHeartbeats 4000000 in
theorem newiface_c {w : World} {c : Addr} {oc : Obj} {kd : PySem.Str} {own : Int} {tk a1 a2 a3 a4 a5 a6 a7 a8 a9 a10 : Tok} (lo : (c == sysModules) = false)
    (hc : oc.IsDictOf (PySem.strKind PR w) [("number", .int 1 a1), ("kind", .str kd a2), ("area", .int 3 a3), ("stub", .bool false), ("address", .int own a4), ("length", .int 24 a5), ("cost", .int 1 a6), ("priority", .int 1 a7), ("hello", .int 10 a8), ("dead", .int 40 a9), ("resend", .int 5 a10)]) :
    Ctr w 1 158 [.ref c, .int 70 tk] [(c, oc)]
      (NiP w kd own a1 a2 a3 a4 a5 a6 a7 a8 a9 a10) := by
  unfold Ctr
  intro mean mg mb dp un gd cn cs a ccd cl outer A₀ base h₀ L m s Q E B F X N T hk hdp hun hret
  refine wpAny_call ?_
  k_dflt ((refine' code_defG ?k1 ?k2 ?k3 ?k4 ?k5 ?kA ?kF ?kK ?k6 ?k7 ?k8 ?k9 ?kB ?_ ?c2 ?c3 ?c4 ?c5; (case kA => exact rfl); (case kF => exact rfl); (case kK => assumption); (case k1 => k_asm); (case k2 => k_asm); (case k3 => k_asm); (case k4 => k_asm); (case k5 => k_asm); (case k6 => k_is); (case k7 => k_is); (case k8 => ktr_room); (case k9 => exact BindsTo.of_eq rfl); (case c5 => decide); (case kB => exact locs rfl); (case c2 => exact rfl); (case c3 => exact rfl); (case c4 => exact rfl); k_whole; intro g' L' h' FG' F' N' B' X' T' kG'; (try dsimp only); (try k_lift B'); (try k_fold)))
  (repeat' (first | (k_unfold; (try dsimp only)) | (k_end; wrow_close) | (with_reducible ((with_reducible refine execs_tk ?_); intro _; (try dsimp only); (try k_fold))) | (with_reducible ((with_reducible show wpAny _ _ (eval (PySem.Expr.Dict ..) _) _ _ _); refine kdn_str (by k_dflt rfl) (by k_asm) (by first | k_asm | exact News.nil) (by exact Top.nolimit (by k_asm)) (by k_dflt rfl) (by k_dflt rfl) (by exact List.cons_ne_nil _ _) (by k_dflt (exact Nat.le_of_ble_eq_true rfl)) ?_; intro d' h' o' F' N' l1 lo' hd'; (try k_lt l1))) | (with_reducible ((with_reducible show KdnMade ..); k_dflt (refine kdn_made_str (by k_asm) (by k_asm) (by k_updF) (by k_asm) (by rfl) (by exact of_decide_eq_true (by first | rfl | kernel_rfl!)) ?_; intro h' o' F' N' hd'); (try dsimp only [strPairs] at hd'); (try dsimp only at N'))) | (with_reducible ((with_reducible show wpAny _ _ (call (Value.builtin "dict.update") [Value.ref _, Value.ref _]) _ _ _); k_dflt (refine upd_s (knd := PySem.strKind _ _) (by k_asm) (by k_asm) (by k_updF) (by k_asm) (by k_mem) (by k_asm) (by k_asm) (by first | assumption | k_ne) (by exact rfl) ?_); intro h' o' F' N' hd'; (first | rw [mg_line] at hd' | rw [mg_shared] at hd' | rw [mg_new1] at hd' | rw [mg_new2] at hd' | rw [mg_nb] at hd' | rw [mg_hv1] at hd' | rw [mg_hv2] at hd' | simp only [merged, List.foldl_cons, List.foldl_nil, stored, List.any_cons, List.any_nil, List.map_cons, List.map_nil, ofs_eq, String.reduceEq, decide_true, decide_false, Bool.or_true, Bool.true_or, Bool.false_or, Bool.or_false, Bool.false_eq_true, if_true, if_false, List.cons_append, List.nil_append] at hd' | skip); (try dsimp only at N'))) | (with_reducible ((with_reducible show wpAny _ _ (getMethod (Value.ref _) (Str.ofString "update") _) _ _ _); k_dflt (refine meth_upd (knd := PySem.strKind _ _) (by k_asm) (by k_mem) (by k_asm) ?_))) | (with_reducible ((with_reducible show wpAny _ _ (callWith _ (Value.builtin _) (_ :: _) (backTo _ (starEach (_ :: _) _)) []) _ _ _); k_dflt (refine callWith_method1 ?_))) | (with_reducible ((with_reducible show wpAny _ _ (setItem (Value.ref _) (Value.str _ _) _) _ _ _); k_dflt (refine set_s (knd := PySem.strKind _ _) (by k_asm) (by k_asm) (by k_updF) (by k_asm) (strKind_is _ _ _ _) (by exact rfl) ?_); intro h' o' F' N' hd'; (first | rw [st_state] at hd' | rw [st_dr] at hd' | rw [st_bdr] at hd' | rw [st_dr_address] at hd' | rw [st_bdr_address] at hd' | rw [st_neighbours] at hd' | rw [st_hello_at] at hd' | rw [st_wait_until] at hd' | rw [st_new] at hd' | rw [st_nb] at hd' | simp only [merged, List.foldl_cons, List.foldl_nil, stored, List.any_cons, List.any_nil, List.map_cons, List.map_nil, ofs_eq, String.reduceEq, decide_true, decide_false, Bool.or_true, Bool.true_or, Bool.false_or, Bool.or_false, Bool.false_eq_true, if_true, if_false, List.cons_append, List.nil_append] at hd' | skip); (try dsimp only at N'); (try dsimp only))) | (with_reducible ((with_reducible show wpAny _ _ (eval (PySem.Expr.Subscript (PySem.Expr.Name _ _) (PySem.Expr.Constant (Const.str _) _ _) _) (envOf _ _ _ _ _)) _ _ _); k_dflt (refine sub_key (by k_asm) (by exact rfl) (by k_asm) (by k_mem) (by k_asm) (by (first | with_reducible exact va_router | with_reducible exact va_state | with_reducible exact va_dr | with_reducible exact va_bdr | with_reducible exact va_dr_address | with_reducible exact va_bdr_address | with_reducible exact va_neighbours | with_reducible exact va_hello_at | with_reducible exact va_wait_until | with_reducible exact va_kind | with_reducible exact va_address | with_reducible exact va_priority | with_reducible exact va_hello | with_reducible exact va_dead | with_reducible exact va_options | with_reducible exact va_delay | with_reducible exact va_number | with_reducible exact va_area | with_reducible exact va_stub | with_reducible exact va_length | with_reducible exact va_cost | with_reducible exact va_resend | (repeat (first | exact valueAt_hit | refine (valueAt_miss (by decide)).trans ?_)))) ?_))) | walk1 | (dsimp only; walk1) | (leave1; (try dsimp only))))
  refine' ctr_end hret ?post ?G ?F' ?N' ?F ?N ?hs
  case post => exact ⟨_, _, _, _, _, _, _, _, _, _, _, rfl, rfl, by assumption, by k_ne⟩
  (((case G => assumption); (case F' => assumption); (case N' => assumption); (case F => assumption); (case N => assumption); (case hs => lcg_sub)))
section
theorem off_M4 : True := by w_top off; trivial
local macro_rules | `(tactic| walk_at "none 0") => `(tactic| fail)
section
variable {prog : Program} {w : World} {A : Around} {E : Value → Shared → Prop} {s : Shared}
theorem kinds_item {value slice : PySem.Expr} {l : Addr} {v : Int} {u a1 a2 a3 a4 : Tok} {Q : Value → Shared → Prop} (hl : s.heap.IsList l [Value.str (Str.ofString "point_to_point") a1, .str (Str.ofString "multipoint") a2, .str (Str.ofString "broadcast") a3, .str (Str.ofString "nbma") a4].toArray) (h0 : 0 ≤ v) (h1 : v < 4) (h : ∀ kd t b, KindIs kd b → Q (.str kd t) s)
    (hs : subscripted slice false (.ref l) (.int v u) = operate [.ref l, .int v u] (getItem (.ref l) (.int v u)) := by with_unfolding_all rfl) :
    wpAny (model prog w) A (subscriptTail value slice (.ref l) (.int v u)) Q E s := by
  have : v = 0 ∨ v = 1 ∨ v = 2 ∨ v = 3 := by (first | lia | omega)
  rcases this with rfl | rfl | rfl | rfl
  · exact tail_any hl.typeIs slot_list_getitem.lookup (wpAny_getItem_list hl (by decide) (by decide) (by rfl) (h _ _ false (.inl ⟨.inl rfl, rfl⟩))) hs
  · exact tail_any hl.typeIs slot_list_getitem.lookup (wpAny_getItem_list hl (by decide) (by decide) (by rfl) (h _ _ false (.inl ⟨.inr rfl, rfl⟩))) hs
  · exact tail_any hl.typeIs slot_list_getitem.lookup (wpAny_getItem_list hl (by decide) (by decide) (by rfl) (h _ _ true (.inr ⟨.inl rfl, rfl⟩))) hs
  · exact tail_any hl.typeIs slot_list_getitem.lookup (wpAny_getItem_list hl (by decide) (by decide) (by rfl) (h _ _ true (.inr ⟨.inr rfl, rfl⟩))) hs
theorem kind_in {h₀ : Heap} {L T : Addr} {news : Led} {kd : PySem.Str} {t a1 a2 : Tok} {b : Bool} {Q : Value → Shared → Prop} (N : News h₀ L s.heap news) (hT : (T, ({ cls := .type "tuple", data := .seq #[Value.str (Str.ofString "broadcast") a1, .str (Str.ofString "nbma") a2] } : Obj)) ∈ news) (hk : KindIs kd b) (h : Q (.bool b) s) :
    wpAny (model prog w) A (compareOp CmpOp.In (.str kd t) (.ref T)) Q E s := by
  refine in_tuple_strs (ys := [Str.ofString "broadcast", Str.ofString "nbma"]) ⟨_, (N _ hT).1, rfl, _, rfl⟩ (by kde_strs) ?_
  have e : ([Str.ofString "broadcast", Str.ofString "nbma"].any (· == kd)) = b := by
    have ne : ∀ a b : String, a ≠ b → (Str.ofString a == Str.ofString b) = false := fun a b h => beq_eq_false_iff_ne.mpr fun e => h (ofs_inj e)
    simp only [List.any_cons, List.any_nil, Bool.or_false]
    rcases hk with ⟨rfl | rfl, rfl⟩ | ⟨rfl | rfl, rfl⟩
    · rw [ne _ _ (by decide), ne _ _ (by decide)]; rfl
    · rw [ne _ _ (by decide), ne _ _ (by decide)]; rfl
    · rw [beq_self_eq_true]; rfl
    · rw [beq_self_eq_true, ne _ _ (by decide)]; rfl
  rw [e]; exact h
end
theorem kind_ok {kd : PySem.Str} {b : Bool} {own dra bdra : Int} (hk : KindIs kd b) (h : (b = false ∧ (own = 0 ∨ own = 7)) ∨ (b = true ∧ own = 7 ∧ dra = 1 ∧ bdra = 7)) : IfOk kd own dra bdra := by
  rcases hk with ⟨h1, rfl⟩ | ⟨h1, rfl⟩
  · rcases h with ⟨-, h⟩ | ⟨h, -⟩
    · exact .inl ⟨h1, h⟩
    · cases h
  · rcases h with ⟨h, -⟩ | ⟨-, h⟩
    · cases h
    · exact .inr ⟨h1, h⟩
theorem menu2 {v : Int} (h0 : 0 ≤ v) (h1 : v < 2) : ([0, 7] : List Int).getD v.toNat 0 = 0 ∨ ([0, 7] : List Int).getD v.toNat 0 = 7 := by
  have : v = 0 ∨ v = 1 := by (first | lia | omega)
  rcases this with rfl | rfl
  · exact .inl rfl
  · exact .inr rfl
theorem menu2b {v : Int} (h0 : 0 ≤ v) (h1 : v < 2) : ([10, 11] : List Int).getD v.toNat 0 = 10 ∨ ([10, 11] : List Int).getD v.toNat 0 = 11 := by
  have : v = 0 ∨ v = 1 := by (first | lia | omega)
  rcases this with rfl | rfl
  · exact .inl rfl
  · exact .inr rfl
theorem menu3 {v : Int} (h0 : 0 ≤ v) (h1 : v < 3) : ([0, 1, 2] : List Int).getD v.toNat 0 = 0 ∨ ([0, 1, 2] : List Int).getD v.toNat 0 = 1 ∨ ([0, 1, 2] : List Int).getD v.toNat 0 = 2 := by
  have : v = 0 ∨ v = 1 ∨ v = 2 := by (first | lia | omega)
  rcases this with rfl | rfl | rfl
  · exact .inl rfl
  · exact .inr (.inl rfl)
  · exact .inr (.inr rfl)
/-- the neighbours' numbers -/
def NbOk (xs : List (Int × Int)) : Prop := ∀ x ∈ xs, (x.1 = 10 ∨ x.1 = 11) ∧ (x.2 = 0 ∨ x.2 = 1 ∨ x.2 = 2)
/-- between the turns of _law_iface's loop -/
inductive TurnIf (w : World) (I d nb pool cells : Addr) (o : Obj) (vs : List Value) (n n' : Nat) (i : Nat) (m : PySem.Str → Option Value) (news : Led) : Prop
  | mk (ws xs tl sp t k) (q1 : news = (d, o) :: (nb, listOf ws.toArray k) :: (pool, listOf #[.ref cells, .int sp t] n) :: (cells, listOf vs.toArray n') :: tl) (q2 : m "found" = some (.ref d)) (q3 : m "pool" = some (.ref pool)) (q4 : NbsAt w tl ws xs) (q5 : NbOk xs) (q6 : ws.length = i) (q7 : 0 ≤ sp) (q8 : sp ≤ 20 + 2 * (i : Int)) (q9 : (∀ p ∈ tl, p.1 ≠ d)) (q10 : (∀ p ∈ tl, p.1 ≠ nb)) (q11 : (∀ p ∈ tl, p.1 ≠ pool)) (q12 : (∀ p ∈ tl, p.1 ≠ cells)) (q13 : (∀ p ∈ tl, p.1 ≠ I)) : TurnIf w I d nb pool cells o vs n n' i m news
theorem turnIf_end {w : World} {I d nb pool cells b : Addr} {o ob it : Obj} {vs ws : List Value} {xs : List (Int × Int)} {n n' i k : Nat} {sp : Int} {t : Tok} {tl all : Led} {g h' : Heap} {L : Addr} {s₁ : Shared} {tk : Nat} {m' : PySem.Str → Option Value}
    {r a : Int} {v1 v2 v3 v4 v5 : Value} {t1 t2 t3 t4 t5 t6 : Tok}
    (F : Fr g L h' m') (N : News g L h' all) (mf : m' "found" = some (.ref d)) (mp : m' "pool" = some (.ref pool)) (hI : (I, it) ∈ all) (hd : (d, o) ∈ all) (hn : (nb, listOf (ws.toArray.push (.ref b)) (k + 1)) ∈ all)
    (hp : (pool, listOf #[.ref cells, .int sp t] n) ∈ all) (hc : (cells, listOf vs.toArray n') ∈ all) (hb : (b, ob) ∈ all) (hdb : ob.IsDictOf (PySem.strKind PR w) (nbKvs r a v1 v2 v3 v4 v5 t1 t2 t3 t4 t5 t6)) (ht : ∀ p ∈ tl, p ∈ all)
    (hr : r = 10 ∨ r = 11) (ha : a = 0 ∨ a = 1 ∨ a = 2) (hws : NbsAt w tl ws xs) (hxs : NbOk xs) (hlw : ws.length = i) (h0 : 0 ≤ sp) (h1 : sp ≤ 20 + 2 * ((i + 1 : Nat) : Int))
    (q1 : ∀ p ∈ tl, p.1 ≠ d) (q2 : ∀ p ∈ tl, p.1 ≠ nb) (q3 : ∀ p ∈ tl, p.1 ≠ pool) (q4 : ∀ p ∈ tl, p.1 ≠ cells) (q5 : ∀ p ∈ tl, p.1 ≠ I)
    (e1 : @Ne Nat d b) (e2 : @Ne Nat nb b) (e3 : @Ne Nat pool b) (e4 : @Ne Nat cells b) (e5 : @Ne Nat I b) (f1 : @Ne Nat d I) (f2 : @Ne Nat nb I) (f3 : @Ne Nat pool I) (f4 : @Ne Nat cells I) :
    UnrEnd g L s₁ I it (TurnIf w I d nb pool cells o vs n n' (i + 1)) { s₁ with heap := h', toks := tk } := by
  have cons : ∀ {z : Addr}, (∀ p ∈ tl, p.1 ≠ z) → @Ne Nat z b → ∀ p ∈ (b, ob) :: tl, p.1 ≠ z := fun q e p hp x => by
    rcases List.mem_cons.mp hp with rfl | hp
    · exact e x.symm
    · exact q p hp x
  refine UnrEnd.intro F N ((d, o) :: (nb, listOf (ws.toArray.push (.ref b)) (k + 1)) :: (pool, listOf #[.ref cells, .int sp t] n) :: (cells, listOf vs.toArray n') :: (b, ob) :: tl) ?_ ?_ ?_
  · refine List.forall_mem_cons.mpr ⟨hI, List.forall_mem_cons.mpr ⟨hd, List.forall_mem_cons.mpr ⟨hn, List.forall_mem_cons.mpr ⟨hp, List.forall_mem_cons.mpr ⟨hc, List.forall_mem_cons.mpr ⟨hb, ht⟩⟩⟩⟩⟩⟩
  · refine List.forall_mem_cons.mpr ⟨f1, List.forall_mem_cons.mpr ⟨f2, List.forall_mem_cons.mpr ⟨f3, List.forall_mem_cons.mpr ⟨f4, cons q5 e5⟩⟩⟩⟩
  · refine ⟨ws ++ [.ref b], xs ++ [(r, a)], (b, ob) :: tl, sp, t, k + 1, ?_, mf, mp, (hws.mono fun p hp => .tail _ hp).snoc ⟨b, ob, v1, v2, v3, v4, v5, t1, t2, t3, t4, t5, t6, rfl, .head _, hdb⟩, ?_, ?_, h0, h1, cons q1 e1, cons q2 e2, cons q3 e3, cons q4 e4, cons q5 e5⟩
    · rw [List.push_toArray]
    · intro x hx
      rcases List.mem_append.mp hx with hx | hx
      · exact hxs x hx
      · rw [List.mem_singleton.mp hx]; exact ⟨hr, ha⟩
    · rw [List.length_append, List.length_singleton, hlw]
/-- the ledger bears an interface of the law's at d, and the pool -/
inductive IfaceLed (w : World) (pool cells : Addr) (vs : List Value) (n n' : Nat) (d : Addr) (l : Led) : Prop
  | mk (o nb kd st own dr bdr dra bdra ha wu de op t1 t2 t3 t4 t5 t6 t7 t8 t9 t10 t11 t12 t13 t14 t15 t16 ws xs tl sp t k) (q1 : l = (d, o) :: (nb, listOf ws.toArray k) :: (pool, listOf #[.ref cells, .int sp t] n) :: (cells, listOf vs.toArray n') :: tl) (q2 : o.IsDictOf (PySem.strKind PR w) (ifKvs kd st own dr bdr dra bdra nb ha wu de op t1 t2 t3 t4 t5 t6 t7 t8 t9 t10 t11 t12 t13 t14 t15 t16)) (q3 : IfOk kd own dra bdra) (q4 : NbsAt w tl ws xs) (q5 : NbOk xs) (q6 : ws.length ≤ 4) (q7 : 0 ≤ sp) (q8 : sp ≤ 40) (q9 : NeA d nb) (q10 : NeA pool d) (q11 : NeA cells d) (q12 : NeA pool nb) (q13 : NeA cells nb) (q14 : (∀ p ∈ tl, p.1 ≠ d)) (q15 : (∀ p ∈ tl, p.1 ≠ nb)) (q16 : (∀ p ∈ tl, p.1 ≠ pool)) (q17 : (∀ p ∈ tl, p.1 ≠ cells)) : IfaceLed w pool cells vs n n' d l
/-- behind the first rows of _law_iface -/
inductive MidIf (w : World) (pool cells : Addr) (vs : List Value) (n n' : Nat) (m' : PySem.Str → Option Value) (news' : Led) : Prop
  | mk (d o nb kd st own dr bdr dra bdra ha wu de op t1 t2 t3 t4 t5 t6 t7 t8 t9 t10 t11 t12 t13 t14 t15 t16 spot t) (q1 : o.IsDictOf (PySem.strKind PR w) (ifKvs kd st own dr bdr dra bdra nb ha wu de op t1 t2 t3 t4 t5 t6 t7 t8 t9 t10 t11 t12 t13 t14 t15 t16)) (q2 : IfOk kd own dra bdra) (q3 : news' = [(d, o), (nb, listOf #[] 0), (pool, listOf #[.ref cells, .int spot t] n), (cells, listOf vs.toArray n')]) (q4 : m' "found" = some (.ref d)) (q5 : m' "pool" = some (.ref pool)) (q6 : 0 ≤ spot) (q7 : spot < 10) (q8 : NeA d nb) (q9 : NeA pool d) (q10 : NeA cells d) (q11 : NeA pool nb) (q12 : NeA cells nb) : MidIf w pool cells vs n n' m' news'
theorem midIf_intro {w : World} {pool cells : Addr} {vs : List Value} {n n' : Nat} {g h' : Heap} {L : Addr} {s : Shared} {tk : Nat} {m' : PySem.Str → Option Value} {all : Led}
    {d nb : Addr} {o : Obj} {kd st : PySem.Str} {own dr bdr dra bdra : Int} {ha wu de op : Value} {t1 t2 t3 t4 t5 t6 t7 t8 t9 t10 t11 t12 t13 t14 t15 t16 : Tok} {spot : Int} {t : Tok}
    (F : Fr g L h' m') (N : News g L h' all) (mf : m' "found" = some (.ref d)) (mp : m' "pool" = some (.ref pool)) (hm : (d, o) ∈ all)
    (hd : o.IsDictOf (PySem.strKind PR w) (ifKvs kd st own dr bdr dra bdra nb ha wu de op t1 t2 t3 t4 t5 t6 t7 t8 t9 t10 t11 t12 t13 t14 t15 t16))
    (hn : (nb, listOf #[] 0) ∈ all) (hp : (pool, listOf #[.ref cells, .int spot t] n) ∈ all) (hc : (cells, listOf vs.toArray n') ∈ all)
    (hif : IfOk kd own dra bdra) (h0 : 0 ≤ spot) (h1 : spot < 10) (e1 : NeA d nb) (e2 : NeA pool d) (e3 : NeA cells d) (e4 : NeA pool nb) (e5 : NeA cells nb) : CutEnd g L s (MidIf w pool cells vs n n') .next { s with heap := h', toks := tk } :=
  CutEnd.intro [(d, o), (nb, listOf #[] 0), (pool, listOf #[.ref cells, .int spot t] n), (cells, listOf vs.toArray n')]
    ⟨d, o, nb, kd, st, own, dr, bdr, dra, bdra, ha, wu, de, op, t1, t2, t3, t4, t5, t6, t7, t8, t9, t10, t11, t12, t13, t14, t15, t16, spot, t, hd, hif, rfl, mf, mp, h0, h1, e1, e2, e3, e4, e5⟩ F N
    (fun p q => by
      rcases List.mem_cons.mp q with rfl | q
      · exact hm
      · rcases List.mem_cons.mp q with rfl | q
        · exact hn
        · rcases List.mem_cons.mp q with rfl | q
          · exact hp
          · rw [List.mem_singleton.mp q]; exact hc)
set_option maxHeartbeats 4000000 in
theorem lawiface_c {w : World} {pool cells : Addr} {vs : List Value} {ns : List Int} {n n' : Nat} {t0 : Tok}
    (hvs : IntsAre vs ns) (hlen : ns.length ≤ 63) (hne : NeA cells pool) :
    Ctr w 2 220 [.ref pool] [(pool, listOf #[.ref cells, .int 0 t0] n), (cells, listOf vs.toArray n')]
      (fun x l => ∃ d, x = .ref d ∧ IfaceLed w pool cells vs n n' d l) := by
  unfold Ctr
  intro mean mg mb dp un gd cn cs a ccd cl outer A₀ base h₀ L m s Q E B F X N T hk hdp hun hret
  refine wpAny_call ?_
  k_dflt ((refine' code_defG ?k1 ?k2 ?k3 ?k4 ?k5 ?kA ?kF ?kK ?k6 ?k7 ?k8 ?k9 ?kB ?_ ?c2 ?c3 ?c4 ?c5; (case kA => exact rfl); (case kF => exact rfl); (case kK => assumption); (case k1 => k_asm); (case k2 => k_asm); (case k3 => k_asm); (case k4 => k_asm); (case k5 => k_asm); (case k6 => k_is); (case k7 => k_is); (case k8 => ktr_room); (case k9 => exact BindsTo.of_eq rfl); (case c5 => decide); (case kB => exact locs rfl); (case c2 => exact rfl); (case c3 => exact rfl); (case c4 => exact rfl); k_whole; intro g' L' h' FG' F' N' B' X' T' kG'; (try dsimp only); (try k_lift B'); (try k_fold)))
  refine execs_cut 8 (by k_asm) (MidIf w pool cells vs n n') ?_ ?_
  · simp only [List.take_succ_cons, List.take_zero]
    (repeat' (first | (k_unfold; (try dsimp only)) | (k_end; wrow_close) | (with_reducible ((with_reducible show wpAny _ _ (call (Value.ref 213) _) _ _ _); k_dflt (refine draw_u (by k_asm) (by k_asm) (by k_asm) (by k_asm) (by k_asm) (by first | exact rfl | assumption) (by k_updF) (by assumption) (by assumption) (by (first | lia | omega)) (by (first | lia | omega)) (by (first | lia | omega)) (by (first | lia | omega)) (by first | assumption | (show @Ne Nat _ _; k_ne)) (by ktr_room) (by ktr_units) (by lcg_sub) ?_); intro rz9 oz9 hz9 tkz9 Fz9 Nz9 Pz9; obtain ⟨vz9, tz9, uz9, ez9, hv8, hvz9, fz9⟩ := Pz9; subst ez9; subst fz9; (try dsimp only at Nz9); (try dsimp only))) | (with_reducible ((with_reducible show wpAny _ _ (subscriptTail (PySem.Expr.List [_, _, _, _] _) _ (Value.ref _) (Value.int _ _)) _ _ _); k_dflt (refine kinds_item (News.isList (by k_asm) (by k_mem)) (by (first | lia | omega)) (by (first | lia | omega)) ?_ (hs := by rfl)); intro kdz9 tkz9 bz9 hkz9; cases bz9)) | (with_reducible ((with_reducible show wpAny _ _ (compareOp CmpOp.In (Value.str _ _) (Value.ref _)) _ _ _); (k_dflt (refine kind_in (by k_asm) (by k_mem) (by assumption) ?_)))) | (with_reducible ((with_reducible show wpAny _ _ (call (Value.ref 158) _) _ _ _); refine stop_at ?_)) | (with_reducible ((with_reducible show wpAny _ _ (call (Value.type "range") _) _ _ _); ((rename Fr _ _ _ _ => F'); (rename News _ _ _ _ => N'); (with_unfolding_all refine range1_rows F' N' ?_; intro _ _ _ _ _ _ _ _ _)))) | (with_reducible ((with_reducible show wpAny _ _ (pyIter (Value.ref _)) (fun it s₂ => LoopAtV _ _ _ _ (envOf (Str.ofString "_law_iface") _ _ _ _) _ _ _ _ it s₂) _ _); (rename Fr _ _ _ _ => lF'); (rename News _ _ _ _ => lN'); (with_unfolding_all refine iter_rangeUnr (by rfl) (by assumption) (small_one (by (first | lia | omega)) (by (first | lia | omega)) (by (first | lia | omega)) (by (first | lia | omega))) (rangeSize_nat _ _) lF' lN' ?_); clear lF' lN'; intro I l1; (try k_lt l1))) | (with_reducible ((with_reducible show wpAny _ _ (call (Value.ref 165) _) _ _ _); k_dflt (refine nb_c.use (by k_asm) (by k_asm) (by k_asm) (by k_asm) (by k_asm) (by first | exact rfl | assumption) (by ktr_room) (by ktr_units) _ (fun _ h => nomatch h) (fun _ h => h) Off.nil ?_); intro rz9 lz9 hz9 tkz9 Fz9 Nz9 offz9 Pz9; obtain ⟨bz9, oz9, x1, x2, x3, x4, x5, x6, x7, x8, xz9, y1, y2, ez9, fz9, hdz9⟩ := Pz9; subst ez9; subst fz9; (try simp only [List.cons_append, List.nil_append] at Nz9); replace offz9 := off_one offz9; obtain ⟨_, offz9⟩ := offc offz9; obtain ⟨_, offz9⟩ := offc offz9; obtain ⟨_, offz9⟩ := offc offz9; obtain ⟨_, offz9⟩ := offc offz9; obtain ⟨_, offz9⟩ := offc offz9; obtain ⟨_, offz9⟩ := offc offz9; obtain ⟨_, offz9⟩ := offc offz9; (try dsimp only))) | (with_reducible ((with_reducible show wpAny _ _ (call (Value.builtin _) [Value.ref _, _]) _ _ _); k_dflt (refine append_K (by k_asm) (by k_asm) (by k_upd) ?_ (by rw [List.size_toArray, sizeLine_eq]; (first | lia | omega))); intro h' F' N'; (try dsimp only))) | (with_reducible ((with_reducible refine execs_tk ?_); intro _; (try dsimp only); (try k_fold))) | (with_reducible ((with_reducible show wpAny _ _ (call (Value.ref _) _) _ _ _); refine wpAny_call ?_; k_dflt (refine code_def (by k_asm) (by k_asm) (by k_asm) (by k_asm) (by k_asm) rfl rfl (by first | exact rfl | assumption) (by k_is) (by k_is) (by ktr_room) (by exact BindsTo.of_eq rfl) (by exact locs rfl) ?_ (by exact rfl) (by exact rfl) (by exact rfl) (by decide); k_whole; intro g' L' h' FG' F' N' B' X' T'; (try dsimp only); (try k_lift B'); (try k_fold)))) | (with_reducible ((with_reducible show wpAny _ _ (eval (PySem.Expr.Dict ..) _) _ _ _); refine kdn_str (by k_dflt rfl) (by k_asm) (by first | k_asm | exact News.nil) (by exact Top.nolimit (by k_asm)) (by k_dflt rfl) (by k_dflt rfl) (by exact List.cons_ne_nil _ _) (by k_dflt (exact Nat.le_of_ble_eq_true rfl)) ?_; intro d' h' o' F' N' l1 lo' hd'; (try k_lt l1))) | (with_reducible ((with_reducible show KdnMade ..); k_dflt (refine kdn_made_str (by k_asm) (by k_asm) (by k_updF) (by k_asm) (by rfl) (by exact of_decide_eq_true (by first | rfl | kernel_rfl!)) ?_; intro h' o' F' N' hd'); (try dsimp only [strPairs] at hd'); (try dsimp only at N'))) | (with_reducible ((with_reducible show wpAny _ _ (call (Value.builtin "dict.update") [Value.ref _, Value.ref _]) _ _ _); k_dflt (refine upd_s (knd := PySem.strKind _ _) (by k_asm) (by k_asm) (by k_updF) (by k_asm) (by k_mem) (by k_asm) (by k_asm) (by first | assumption | k_ne) (by exact rfl) ?_); intro h' o' F' N' hd'; (first | rw [mg_line] at hd' | rw [mg_shared] at hd' | rw [mg_new1] at hd' | rw [mg_new2] at hd' | rw [mg_nb] at hd' | rw [mg_hv1] at hd' | rw [mg_hv2] at hd' | simp only [merged, List.foldl_cons, List.foldl_nil, stored, List.any_cons, List.any_nil, List.map_cons, List.map_nil, ofs_eq, String.reduceEq, decide_true, decide_false, Bool.or_true, Bool.true_or, Bool.false_or, Bool.or_false, Bool.false_eq_true, if_true, if_false, List.cons_append, List.nil_append] at hd' | skip); (try dsimp only at N'))) | (with_reducible ((with_reducible show wpAny _ _ (getMethod (Value.ref _) (Str.ofString "update") _) _ _ _); k_dflt (refine meth_upd (knd := PySem.strKind _ _) (by k_asm) (by k_mem) (by k_asm) ?_))) | (with_reducible ((with_reducible show wpAny _ _ (callWith _ (Value.builtin _) (_ :: _) (backTo _ (starEach (_ :: _) _)) []) _ _ _); k_dflt (refine callWith_method1 ?_))) | (with_reducible ((with_reducible show wpAny _ _ (setItem (Value.ref _) (Value.str _ _) _) _ _ _); k_dflt (refine set_s (knd := PySem.strKind _ _) (by k_asm) (by k_asm) (by k_updF) (by k_asm) (strKind_is _ _ _ _) (by exact rfl) ?_); intro h' o' F' N' hd'; (first | rw [st_state] at hd' | rw [st_dr] at hd' | rw [st_bdr] at hd' | rw [st_dr_address] at hd' | rw [st_bdr_address] at hd' | rw [st_neighbours] at hd' | rw [st_hello_at] at hd' | rw [st_wait_until] at hd' | rw [st_new] at hd' | rw [st_nb] at hd' | simp only [merged, List.foldl_cons, List.foldl_nil, stored, List.any_cons, List.any_nil, List.map_cons, List.map_nil, ofs_eq, String.reduceEq, decide_true, decide_false, Bool.or_true, Bool.true_or, Bool.false_or, Bool.or_false, Bool.false_eq_true, if_true, if_false, List.cons_append, List.nil_append] at hd' | skip); (try dsimp only at N'); (try dsimp only))) | (with_reducible ((with_reducible show wpAny _ _ (eval (PySem.Expr.Subscript (PySem.Expr.Name _ _) (PySem.Expr.Constant (Const.str _) _ _) _) (envOf _ _ _ _ _)) _ _ _); k_dflt (refine sub_key (by k_asm) (by exact rfl) (by k_asm) (by k_mem) (by k_asm) (by (first | with_reducible exact va_router | with_reducible exact va_state | with_reducible exact va_dr | with_reducible exact va_bdr | with_reducible exact va_dr_address | with_reducible exact va_bdr_address | with_reducible exact va_neighbours | with_reducible exact va_hello_at | with_reducible exact va_wait_until | with_reducible exact va_kind | with_reducible exact va_address | with_reducible exact va_priority | with_reducible exact va_hello | with_reducible exact va_dead | with_reducible exact va_options | with_reducible exact va_delay | with_reducible exact va_number | with_reducible exact va_area | with_reducible exact va_stub | with_reducible exact va_length | with_reducible exact va_cost | with_reducible exact va_resend | (repeat (first | exact valueAt_hit | refine (valueAt_miss (by decide)).trans ?_)))) ?_))) | (with_reducible ((with_reducible show wpAny _ _ (subscriptTail _ _ (Value.ref _) (Value.str _ _)) _ _ _); k_dflt (refine kda_item (knd := PySem.strKind _ _) (by k_asm) (by k_mem) (by k_asm) (strKind_is _ _ _ _) (by (first | with_reducible exact va_router | with_reducible exact va_state | with_reducible exact va_dr | with_reducible exact va_bdr | with_reducible exact va_dr_address | with_reducible exact va_bdr_address | with_reducible exact va_neighbours | with_reducible exact va_hello_at | with_reducible exact va_wait_until | with_reducible exact va_kind | with_reducible exact va_address | with_reducible exact va_priority | with_reducible exact va_hello | with_reducible exact va_dead | with_reducible exact va_options | with_reducible exact va_delay | with_reducible exact va_number | with_reducible exact va_area | with_reducible exact va_stub | with_reducible exact va_length | with_reducible exact va_cost | with_reducible exact va_resend | (repeat (first | exact valueAt_hit | refine (valueAt_miss (by decide)).trans ?_)))) ?_))) | walk1 | (dsimp only; walk1) | (leave1; (try dsimp only))))
    all_goals (
      refine stop_out ?_
      refine (newiface_c (by assumption) (by assumption)).use (by k_asm) (by k_asm) (by k_asm) (by k_asm) (by k_asm) (by first | exact rfl | assumption) (by ktr_room) (by ktr_units) [(pool, _), (cells, _)] (by lcg_sub) (by lcg_sub) (by (repeat (first | exact Off.nil | refine Off.cons (by k_all) ?_))) ?_
      intro r9 foot9 h9 tk9 F9 N9 off9 P9
      obtain ⟨d, o, nb, t1, t2, t3, t4, t5, t6, t7, t8, e9, f9, hd9, ne9⟩ := P9
      subst e9; subst f9
      replace off9 := offLL_of off9
      unfold NeA at ne9
      simp only [OffLL, OffL, and_true] at off9
      simp only [List.cons_append, List.nil_append] at N9
      dsimp only)
    (repeat' (first | (k_unfold; (try dsimp only)) | (k_end; wrow_close) | (with_reducible ((with_reducible show wpAny _ _ (call (Value.ref 213) _) _ _ _); k_dflt (refine draw_u (by k_asm) (by k_asm) (by k_asm) (by k_asm) (by k_asm) (by first | exact rfl | assumption) (by k_updF) (by assumption) (by assumption) (by (first | lia | omega)) (by (first | lia | omega)) (by (first | lia | omega)) (by (first | lia | omega)) (by first | assumption | (show @Ne Nat _ _; k_ne)) (by ktr_room) (by ktr_units) (by lcg_sub) ?_); intro rz9 oz9 hz9 tkz9 Fz9 Nz9 Pz9; obtain ⟨vz9, tz9, uz9, ez9, hv8, hvz9, fz9⟩ := Pz9; subst ez9; subst fz9; (try dsimp only at Nz9); (try dsimp only))) | (with_reducible ((with_reducible show wpAny _ _ (subscriptTail (PySem.Expr.List [_, _, _, _] _) _ (Value.ref _) (Value.int _ _)) _ _ _); k_dflt (refine kinds_item (News.isList (by k_asm) (by k_mem)) (by (first | lia | omega)) (by (first | lia | omega)) ?_ (hs := by rfl)); intro kdz9 tkz9 bz9 hkz9; cases bz9)) | (with_reducible ((with_reducible show wpAny _ _ (compareOp CmpOp.In (Value.str _ _) (Value.ref _)) _ _ _); (k_dflt (refine kind_in (by k_asm) (by k_mem) (by assumption) ?_)))) | (with_reducible ((with_reducible show wpAny _ _ (call (Value.ref 158) _) _ _ _); refine stop_at ?_)) | (with_reducible ((with_reducible show wpAny _ _ (call (Value.type "range") _) _ _ _); ((rename Fr _ _ _ _ => F'); (rename News _ _ _ _ => N'); (with_unfolding_all refine range1_rows F' N' ?_; intro _ _ _ _ _ _ _ _ _)))) | (with_reducible ((with_reducible show wpAny _ _ (pyIter (Value.ref _)) (fun it s₂ => LoopAtV _ _ _ _ (envOf (Str.ofString "_law_iface") _ _ _ _) _ _ _ _ it s₂) _ _); (rename Fr _ _ _ _ => lF'); (rename News _ _ _ _ => lN'); (with_unfolding_all refine iter_rangeUnr (by rfl) (by assumption) (small_one (by (first | lia | omega)) (by (first | lia | omega)) (by (first | lia | omega)) (by (first | lia | omega))) (rangeSize_nat _ _) lF' lN' ?_); clear lF' lN'; intro I l1; (try k_lt l1))) | (with_reducible ((with_reducible show wpAny _ _ (call (Value.ref 165) _) _ _ _); k_dflt (refine nb_c.use (by k_asm) (by k_asm) (by k_asm) (by k_asm) (by k_asm) (by first | exact rfl | assumption) (by ktr_room) (by ktr_units) _ (fun _ h => nomatch h) (fun _ h => h) Off.nil ?_); intro rz9 lz9 hz9 tkz9 Fz9 Nz9 offz9 Pz9; obtain ⟨bz9, oz9, x1, x2, x3, x4, x5, x6, x7, x8, xz9, y1, y2, ez9, fz9, hdz9⟩ := Pz9; subst ez9; subst fz9; (try simp only [List.cons_append, List.nil_append] at Nz9); replace offz9 := off_one offz9; obtain ⟨_, offz9⟩ := offc offz9; obtain ⟨_, offz9⟩ := offc offz9; obtain ⟨_, offz9⟩ := offc offz9; obtain ⟨_, offz9⟩ := offc offz9; obtain ⟨_, offz9⟩ := offc offz9; obtain ⟨_, offz9⟩ := offc offz9; obtain ⟨_, offz9⟩ := offc offz9; (try dsimp only))) | (with_reducible ((with_reducible show wpAny _ _ (call (Value.builtin _) [Value.ref _, _]) _ _ _); k_dflt (refine append_K (by k_asm) (by k_asm) (by k_upd) ?_ (by rw [List.size_toArray, sizeLine_eq]; (first | lia | omega))); intro h' F' N'; (try dsimp only))) | (with_reducible ((with_reducible refine execs_tk ?_); intro _; (try dsimp only); (try k_fold))) | (with_reducible ((with_reducible show wpAny _ _ (call (Value.ref _) _) _ _ _); refine wpAny_call ?_; k_dflt (refine code_def (by k_asm) (by k_asm) (by k_asm) (by k_asm) (by k_asm) rfl rfl (by first | exact rfl | assumption) (by k_is) (by k_is) (by ktr_room) (by exact BindsTo.of_eq rfl) (by exact locs rfl) ?_ (by exact rfl) (by exact rfl) (by exact rfl) (by decide); k_whole; intro g' L' h' FG' F' N' B' X' T'; (try dsimp only); (try k_lift B'); (try k_fold)))) | (with_reducible ((with_reducible show wpAny _ _ (eval (PySem.Expr.Dict ..) _) _ _ _); refine kdn_str (by k_dflt rfl) (by k_asm) (by first | k_asm | exact News.nil) (by exact Top.nolimit (by k_asm)) (by k_dflt rfl) (by k_dflt rfl) (by exact List.cons_ne_nil _ _) (by k_dflt (exact Nat.le_of_ble_eq_true rfl)) ?_; intro d' h' o' F' N' l1 lo' hd'; (try k_lt l1))) | (with_reducible ((with_reducible show KdnMade ..); k_dflt (refine kdn_made_str (by k_asm) (by k_asm) (by k_updF) (by k_asm) (by rfl) (by exact of_decide_eq_true (by first | rfl | kernel_rfl!)) ?_; intro h' o' F' N' hd'); (try dsimp only [strPairs] at hd'); (try dsimp only at N'))) | (with_reducible ((with_reducible show wpAny _ _ (call (Value.builtin "dict.update") [Value.ref _, Value.ref _]) _ _ _); k_dflt (refine upd_s (knd := PySem.strKind _ _) (by k_asm) (by k_asm) (by k_updF) (by k_asm) (by k_mem) (by k_asm) (by k_asm) (by first | assumption | k_ne) (by exact rfl) ?_); intro h' o' F' N' hd'; (first | rw [mg_line] at hd' | rw [mg_shared] at hd' | rw [mg_new1] at hd' | rw [mg_new2] at hd' | rw [mg_nb] at hd' | rw [mg_hv1] at hd' | rw [mg_hv2] at hd' | simp only [merged, List.foldl_cons, List.foldl_nil, stored, List.any_cons, List.any_nil, List.map_cons, List.map_nil, ofs_eq, String.reduceEq, decide_true, decide_false, Bool.or_true, Bool.true_or, Bool.false_or, Bool.or_false, Bool.false_eq_true, if_true, if_false, List.cons_append, List.nil_append] at hd' | skip); (try dsimp only at N'))) | (with_reducible ((with_reducible show wpAny _ _ (getMethod (Value.ref _) (Str.ofString "update") _) _ _ _); k_dflt (refine meth_upd (knd := PySem.strKind _ _) (by k_asm) (by k_mem) (by k_asm) ?_))) | (with_reducible ((with_reducible show wpAny _ _ (callWith _ (Value.builtin _) (_ :: _) (backTo _ (starEach (_ :: _) _)) []) _ _ _); k_dflt (refine callWith_method1 ?_))) | (with_reducible ((with_reducible show wpAny _ _ (setItem (Value.ref _) (Value.str _ _) _) _ _ _); k_dflt (refine set_s (knd := PySem.strKind _ _) (by k_asm) (by k_asm) (by k_updF) (by k_asm) (strKind_is _ _ _ _) (by exact rfl) ?_); intro h' o' F' N' hd'; (first | rw [st_state] at hd' | rw [st_dr] at hd' | rw [st_bdr] at hd' | rw [st_dr_address] at hd' | rw [st_bdr_address] at hd' | rw [st_neighbours] at hd' | rw [st_hello_at] at hd' | rw [st_wait_until] at hd' | rw [st_new] at hd' | rw [st_nb] at hd' | simp only [merged, List.foldl_cons, List.foldl_nil, stored, List.any_cons, List.any_nil, List.map_cons, List.map_nil, ofs_eq, String.reduceEq, decide_true, decide_false, Bool.or_true, Bool.true_or, Bool.false_or, Bool.or_false, Bool.false_eq_true, if_true, if_false, List.cons_append, List.nil_append] at hd' | skip); (try dsimp only at N'); (try dsimp only))) | (with_reducible ((with_reducible show wpAny _ _ (eval (PySem.Expr.Subscript (PySem.Expr.Name _ _) (PySem.Expr.Constant (Const.str _) _ _) _) (envOf _ _ _ _ _)) _ _ _); k_dflt (refine sub_key (by k_asm) (by exact rfl) (by k_asm) (by k_mem) (by k_asm) (by (first | with_reducible exact va_router | with_reducible exact va_state | with_reducible exact va_dr | with_reducible exact va_bdr | with_reducible exact va_dr_address | with_reducible exact va_bdr_address | with_reducible exact va_neighbours | with_reducible exact va_hello_at | with_reducible exact va_wait_until | with_reducible exact va_kind | with_reducible exact va_address | with_reducible exact va_priority | with_reducible exact va_hello | with_reducible exact va_dead | with_reducible exact va_options | with_reducible exact va_delay | with_reducible exact va_number | with_reducible exact va_area | with_reducible exact va_stub | with_reducible exact va_length | with_reducible exact va_cost | with_reducible exact va_resend | (repeat (first | exact valueAt_hit | refine (valueAt_miss (by decide)).trans ?_)))) ?_))) | (with_reducible ((with_reducible show wpAny _ _ (subscriptTail _ _ (Value.ref _) (Value.str _ _)) _ _ _); k_dflt (refine kda_item (knd := PySem.strKind _ _) (by k_asm) (by k_mem) (by k_asm) (strKind_is _ _ _ _) (by (first | with_reducible exact va_router | with_reducible exact va_state | with_reducible exact va_dr | with_reducible exact va_bdr | with_reducible exact va_dr_address | with_reducible exact va_bdr_address | with_reducible exact va_neighbours | with_reducible exact va_hello_at | with_reducible exact va_wait_until | with_reducible exact va_kind | with_reducible exact va_address | with_reducible exact va_priority | with_reducible exact va_hello | with_reducible exact va_dead | with_reducible exact va_options | with_reducible exact va_delay | with_reducible exact va_number | with_reducible exact va_area | with_reducible exact va_stub | with_reducible exact va_length | with_reducible exact va_cost | with_reducible exact va_resend | (repeat (first | exact valueAt_hit | refine (valueAt_miss (by decide)).trans ?_)))) ?_))) | walk1 | (dsimp only; walk1) | (leave1; (try dsimp only))))
    all_goals exact midIf_intro (by assumption) (by assumption) rfl rfl (by k_mem) (by assumption) (by k_mem) (by k_mem) (by k_mem) (by (first | exact kind_ok (by assumption) (.inl ⟨rfl, menu2 (by assumption) (by assumption)⟩) | exact kind_ok (by assumption) (.inr ⟨rfl, rfl, rfl, rfl⟩))) (by (first | lia | omega)) (by (first | lia | omega)) (by k_ne) (by k_ne) (by k_ne) (by k_ne) (by k_ne)
  · intro h9 tk9 m9 news9 F9 N9 M9
    obtain ⟨d, o, nb, kd, st, own, dr, bdr, dra, bdra, ha, wu, de, op, t1, t2, t3, t4, t5, t6, t7, t8, t9, t10, t11, t12, t13, t14, t15, t16, spot, t, hd9, hif, e9, mf, mp, hs0, hs1, ne1, ne2, ne3, ne4, ne5⟩ := M9
    subst e9
    replace F9 := fr_name2 F9 mf mp (by decide)
    unfold NeA at ne1 ne2 ne3 ne4 ne5 hne
    clear mf mp
    simp only [List.drop_succ_cons, List.drop_zero]
    (repeat' (first | (k_unfold; (try dsimp only)) | (k_end; wrow_close) | (with_reducible ((with_reducible show wpAny _ _ (call (Value.ref 213) _) _ _ _); k_dflt (refine draw_u (by k_asm) (by k_asm) (by k_asm) (by k_asm) (by k_asm) (by first | exact rfl | assumption) (by k_updF) (by assumption) (by assumption) (by (first | lia | omega)) (by (first | lia | omega)) (by (first | lia | omega)) (by (first | lia | omega)) (by first | assumption | (show @Ne Nat _ _; k_ne)) (by ktr_room) (by ktr_units) (by lcg_sub) ?_); intro rz9 oz9 hz9 tkz9 Fz9 Nz9 Pz9; obtain ⟨vz9, tz9, uz9, ez9, hv8, hvz9, fz9⟩ := Pz9; subst ez9; subst fz9; (try dsimp only at Nz9); (try dsimp only))) | (with_reducible ((with_reducible show wpAny _ _ (subscriptTail (PySem.Expr.List [_, _, _, _] _) _ (Value.ref _) (Value.int _ _)) _ _ _); k_dflt (refine kinds_item (News.isList (by k_asm) (by k_mem)) (by (first | lia | omega)) (by (first | lia | omega)) ?_ (hs := by rfl)); intro kdz9 tkz9 bz9 hkz9; cases bz9)) | (with_reducible ((with_reducible show wpAny _ _ (compareOp CmpOp.In (Value.str _ _) (Value.ref _)) _ _ _); (k_dflt (refine kind_in (by k_asm) (by k_mem) (by assumption) ?_)))) | (with_reducible ((with_reducible show wpAny _ _ (call (Value.ref 158) _) _ _ _); refine stop_at ?_)) | (with_reducible ((with_reducible show wpAny _ _ (call (Value.type "range") _) _ _ _); ((rename Fr _ _ _ _ => F'); (rename News _ _ _ _ => N'); (with_unfolding_all refine range1_rows F' N' ?_; intro _ _ _ _ _ _ _ _ _)))) | (with_reducible ((with_reducible show wpAny _ _ (pyIter (Value.ref _)) (fun it s₂ => LoopAtV _ _ _ _ (envOf (Str.ofString "_law_iface") _ _ _ _) _ _ _ _ it s₂) _ _); (rename Fr _ _ _ _ => lF'); (rename News _ _ _ _ => lN'); (with_unfolding_all refine iter_rangeUnr (by rfl) (by assumption) (small_one (by (first | lia | omega)) (by (first | lia | omega)) (by (first | lia | omega)) (by (first | lia | omega))) (rangeSize_nat _ _) lF' lN' ?_); clear lF' lN'; intro I l1; (try k_lt l1))) | (with_reducible ((with_reducible show wpAny _ _ (call (Value.ref 165) _) _ _ _); k_dflt (refine nb_c.use (by k_asm) (by k_asm) (by k_asm) (by k_asm) (by k_asm) (by first | exact rfl | assumption) (by ktr_room) (by ktr_units) _ (fun _ h => nomatch h) (fun _ h => h) Off.nil ?_); intro rz9 lz9 hz9 tkz9 Fz9 Nz9 offz9 Pz9; obtain ⟨bz9, oz9, x1, x2, x3, x4, x5, x6, x7, x8, xz9, y1, y2, ez9, fz9, hdz9⟩ := Pz9; subst ez9; subst fz9; (try simp only [List.cons_append, List.nil_append] at Nz9); replace offz9 := off_one offz9; obtain ⟨_, offz9⟩ := offc offz9; obtain ⟨_, offz9⟩ := offc offz9; obtain ⟨_, offz9⟩ := offc offz9; obtain ⟨_, offz9⟩ := offc offz9; obtain ⟨_, offz9⟩ := offc offz9; obtain ⟨_, offz9⟩ := offc offz9; obtain ⟨_, offz9⟩ := offc offz9; (try dsimp only))) | (with_reducible ((with_reducible show wpAny _ _ (call (Value.builtin _) [Value.ref _, _]) _ _ _); k_dflt (refine append_K (by k_asm) (by k_asm) (by k_upd) ?_ (by rw [List.size_toArray, sizeLine_eq]; (first | lia | omega))); intro h' F' N'; (try dsimp only))) | (with_reducible ((with_reducible refine execs_tk ?_); intro _; (try dsimp only); (try k_fold))) | (with_reducible ((with_reducible show wpAny _ _ (call (Value.ref _) _) _ _ _); refine wpAny_call ?_; k_dflt (refine code_def (by k_asm) (by k_asm) (by k_asm) (by k_asm) (by k_asm) rfl rfl (by first | exact rfl | assumption) (by k_is) (by k_is) (by ktr_room) (by exact BindsTo.of_eq rfl) (by exact locs rfl) ?_ (by exact rfl) (by exact rfl) (by exact rfl) (by decide); k_whole; intro g' L' h' FG' F' N' B' X' T'; (try dsimp only); (try k_lift B'); (try k_fold)))) | (with_reducible ((with_reducible show wpAny _ _ (eval (PySem.Expr.Dict ..) _) _ _ _); refine kdn_str (by k_dflt rfl) (by k_asm) (by first | k_asm | exact News.nil) (by exact Top.nolimit (by k_asm)) (by k_dflt rfl) (by k_dflt rfl) (by exact List.cons_ne_nil _ _) (by k_dflt (exact Nat.le_of_ble_eq_true rfl)) ?_; intro d' h' o' F' N' l1 lo' hd'; (try k_lt l1))) | (with_reducible ((with_reducible show KdnMade ..); k_dflt (refine kdn_made_str (by k_asm) (by k_asm) (by k_updF) (by k_asm) (by rfl) (by exact of_decide_eq_true (by first | rfl | kernel_rfl!)) ?_; intro h' o' F' N' hd'); (try dsimp only [strPairs] at hd'); (try dsimp only at N'))) | (with_reducible ((with_reducible show wpAny _ _ (call (Value.builtin "dict.update") [Value.ref _, Value.ref _]) _ _ _); k_dflt (refine upd_s (knd := PySem.strKind _ _) (by k_asm) (by k_asm) (by k_updF) (by k_asm) (by k_mem) (by k_asm) (by k_asm) (by first | assumption | k_ne) (by exact rfl) ?_); intro h' o' F' N' hd'; (first | rw [mg_line] at hd' | rw [mg_shared] at hd' | rw [mg_new1] at hd' | rw [mg_new2] at hd' | rw [mg_nb] at hd' | rw [mg_hv1] at hd' | rw [mg_hv2] at hd' | simp only [merged, List.foldl_cons, List.foldl_nil, stored, List.any_cons, List.any_nil, List.map_cons, List.map_nil, ofs_eq, String.reduceEq, decide_true, decide_false, Bool.or_true, Bool.true_or, Bool.false_or, Bool.or_false, Bool.false_eq_true, if_true, if_false, List.cons_append, List.nil_append] at hd' | skip); (try dsimp only at N'))) | (with_reducible ((with_reducible show wpAny _ _ (getMethod (Value.ref _) (Str.ofString "update") _) _ _ _); k_dflt (refine meth_upd (knd := PySem.strKind _ _) (by k_asm) (by k_mem) (by k_asm) ?_))) | (with_reducible ((with_reducible show wpAny _ _ (callWith _ (Value.builtin _) (_ :: _) (backTo _ (starEach (_ :: _) _)) []) _ _ _); k_dflt (refine callWith_method1 ?_))) | (with_reducible ((with_reducible show wpAny _ _ (setItem (Value.ref _) (Value.str _ _) _) _ _ _); k_dflt (refine set_s (knd := PySem.strKind _ _) (by k_asm) (by k_asm) (by k_updF) (by k_asm) (strKind_is _ _ _ _) (by exact rfl) ?_); intro h' o' F' N' hd'; (first | rw [st_state] at hd' | rw [st_dr] at hd' | rw [st_bdr] at hd' | rw [st_dr_address] at hd' | rw [st_bdr_address] at hd' | rw [st_neighbours] at hd' | rw [st_hello_at] at hd' | rw [st_wait_until] at hd' | rw [st_new] at hd' | rw [st_nb] at hd' | simp only [merged, List.foldl_cons, List.foldl_nil, stored, List.any_cons, List.any_nil, List.map_cons, List.map_nil, ofs_eq, String.reduceEq, decide_true, decide_false, Bool.or_true, Bool.true_or, Bool.false_or, Bool.or_false, Bool.false_eq_true, if_true, if_false, List.cons_append, List.nil_append] at hd' | skip); (try dsimp only at N'); (try dsimp only))) | (with_reducible ((with_reducible show wpAny _ _ (eval (PySem.Expr.Subscript (PySem.Expr.Name _ _) (PySem.Expr.Constant (Const.str _) _ _) _) (envOf _ _ _ _ _)) _ _ _); k_dflt (refine sub_key (by k_asm) (by exact rfl) (by k_asm) (by k_mem) (by k_asm) (by (first | with_reducible exact va_router | with_reducible exact va_state | with_reducible exact va_dr | with_reducible exact va_bdr | with_reducible exact va_dr_address | with_reducible exact va_bdr_address | with_reducible exact va_neighbours | with_reducible exact va_hello_at | with_reducible exact va_wait_until | with_reducible exact va_kind | with_reducible exact va_address | with_reducible exact va_priority | with_reducible exact va_hello | with_reducible exact va_dead | with_reducible exact va_options | with_reducible exact va_delay | with_reducible exact va_number | with_reducible exact va_area | with_reducible exact va_stub | with_reducible exact va_length | with_reducible exact va_cost | with_reducible exact va_resend | (repeat (first | exact valueAt_hit | refine (valueAt_miss (by decide)).trans ?_)))) ?_))) | (with_reducible ((with_reducible show wpAny _ _ (subscriptTail _ _ (Value.ref _) (Value.str _ _)) _ _ _); k_dflt (refine kda_item (knd := PySem.strKind _ _) (by k_asm) (by k_mem) (by k_asm) (strKind_is _ _ _ _) (by (first | with_reducible exact va_router | with_reducible exact va_state | with_reducible exact va_dr | with_reducible exact va_bdr | with_reducible exact va_dr_address | with_reducible exact va_bdr_address | with_reducible exact va_neighbours | with_reducible exact va_hello_at | with_reducible exact va_wait_until | with_reducible exact va_kind | with_reducible exact va_address | with_reducible exact va_priority | with_reducible exact va_hello | with_reducible exact va_dead | with_reducible exact va_options | with_reducible exact va_delay | with_reducible exact va_number | with_reducible exact va_area | with_reducible exact va_stub | with_reducible exact va_length | with_reducible exact va_cost | with_reducible exact va_resend | (repeat (first | exact valueAt_hit | refine (valueAt_miss (by decide)).trans ?_)))) ?_))) | walk1 | (dsimp only; walk1) | (leave1; (try dsimp only))))
    refine range_ind (TurnIf w I d nb pool cells o vs n n') ?_ ?_ _ _ _ _ (Nat.zero_add _) ?_
    · intro m8 news8 h8 tk8 T8 F8 N8
      obtain ⟨ws, xs, tl, sp, t, k, e8, mf, mp, hws, hxs, hlw, hsp0, hsp1, q1, q2, q3, q4, q5⟩ := T8
      subst e8
      replace F8 := fr_name2 F8 mf mp (by decide)
      (repeat' (first | (k_unfold; (try dsimp only)) | (k_end; wrow_close) | (with_reducible ((with_reducible show wpAny _ _ (call (Value.ref 213) _) _ _ _); k_dflt (refine draw_u (by k_asm) (by k_asm) (by k_asm) (by k_asm) (by k_asm) (by first | exact rfl | assumption) (by k_updF) (by assumption) (by assumption) (by (first | lia | omega)) (by (first | lia | omega)) (by (first | lia | omega)) (by (first | lia | omega)) (by first | assumption | (show @Ne Nat _ _; k_ne)) (by ktr_room) (by ktr_units) (by lcg_sub) ?_); intro rz9 oz9 hz9 tkz9 Fz9 Nz9 Pz9; obtain ⟨vz9, tz9, uz9, ez9, hv8, hvz9, fz9⟩ := Pz9; subst ez9; subst fz9; (try dsimp only at Nz9); (try dsimp only))) | (with_reducible ((with_reducible show wpAny _ _ (subscriptTail (PySem.Expr.List [_, _, _, _] _) _ (Value.ref _) (Value.int _ _)) _ _ _); k_dflt (refine kinds_item (News.isList (by k_asm) (by k_mem)) (by (first | lia | omega)) (by (first | lia | omega)) ?_ (hs := by rfl)); intro kdz9 tkz9 bz9 hkz9; cases bz9)) | (with_reducible ((with_reducible show wpAny _ _ (compareOp CmpOp.In (Value.str _ _) (Value.ref _)) _ _ _); (k_dflt (refine kind_in (by k_asm) (by k_mem) (by assumption) ?_)))) | (with_reducible ((with_reducible show wpAny _ _ (call (Value.ref 158) _) _ _ _); refine stop_at ?_)) | (with_reducible ((with_reducible show wpAny _ _ (call (Value.type "range") _) _ _ _); ((rename Fr _ _ _ _ => F'); (rename News _ _ _ _ => N'); (with_unfolding_all refine range1_rows F' N' ?_; intro _ _ _ _ _ _ _ _ _)))) | (with_reducible ((with_reducible show wpAny _ _ (pyIter (Value.ref _)) (fun it s₂ => LoopAtV _ _ _ _ (envOf (Str.ofString "_law_iface") _ _ _ _) _ _ _ _ it s₂) _ _); (rename Fr _ _ _ _ => lF'); (rename News _ _ _ _ => lN'); (with_unfolding_all refine iter_rangeUnr (by rfl) (by assumption) (small_one (by (first | lia | omega)) (by (first | lia | omega)) (by (first | lia | omega)) (by (first | lia | omega))) (rangeSize_nat _ _) lF' lN' ?_); clear lF' lN'; intro I l1; (try k_lt l1))) | (with_reducible ((with_reducible show wpAny _ _ (call (Value.ref 165) _) _ _ _); k_dflt (refine nb_c.use (by k_asm) (by k_asm) (by k_asm) (by k_asm) (by k_asm) (by first | exact rfl | assumption) (by ktr_room) (by ktr_units) _ (fun _ h => nomatch h) (fun _ h => h) Off.nil ?_); intro rz9 lz9 hz9 tkz9 Fz9 Nz9 offz9 Pz9; obtain ⟨bz9, oz9, x1, x2, x3, x4, x5, x6, x7, x8, xz9, y1, y2, ez9, fz9, hdz9⟩ := Pz9; subst ez9; subst fz9; (try simp only [List.cons_append, List.nil_append] at Nz9); replace offz9 := off_one offz9; obtain ⟨_, offz9⟩ := offc offz9; obtain ⟨_, offz9⟩ := offc offz9; obtain ⟨_, offz9⟩ := offc offz9; obtain ⟨_, offz9⟩ := offc offz9; obtain ⟨_, offz9⟩ := offc offz9; obtain ⟨_, offz9⟩ := offc offz9; obtain ⟨_, offz9⟩ := offc offz9; (try dsimp only))) | (with_reducible ((with_reducible show wpAny _ _ (call (Value.builtin _) [Value.ref _, _]) _ _ _); k_dflt (refine append_K (by k_asm) (by k_asm) (by k_upd) ?_ (by rw [List.size_toArray, sizeLine_eq]; (first | lia | omega))); intro h' F' N'; (try dsimp only))) | (with_reducible ((with_reducible refine execs_tk ?_); intro _; (try dsimp only); (try k_fold))) | (with_reducible ((with_reducible show wpAny _ _ (call (Value.ref _) _) _ _ _); refine wpAny_call ?_; k_dflt (refine code_def (by k_asm) (by k_asm) (by k_asm) (by k_asm) (by k_asm) rfl rfl (by first | exact rfl | assumption) (by k_is) (by k_is) (by ktr_room) (by exact BindsTo.of_eq rfl) (by exact locs rfl) ?_ (by exact rfl) (by exact rfl) (by exact rfl) (by decide); k_whole; intro g' L' h' FG' F' N' B' X' T'; (try dsimp only); (try k_lift B'); (try k_fold)))) | (with_reducible ((with_reducible show wpAny _ _ (eval (PySem.Expr.Dict ..) _) _ _ _); refine kdn_str (by k_dflt rfl) (by k_asm) (by first | k_asm | exact News.nil) (by exact Top.nolimit (by k_asm)) (by k_dflt rfl) (by k_dflt rfl) (by exact List.cons_ne_nil _ _) (by k_dflt (exact Nat.le_of_ble_eq_true rfl)) ?_; intro d' h' o' F' N' l1 lo' hd'; (try k_lt l1))) | (with_reducible ((with_reducible show KdnMade ..); k_dflt (refine kdn_made_str (by k_asm) (by k_asm) (by k_updF) (by k_asm) (by rfl) (by exact of_decide_eq_true (by first | rfl | kernel_rfl!)) ?_; intro h' o' F' N' hd'); (try dsimp only [strPairs] at hd'); (try dsimp only at N'))) | (with_reducible ((with_reducible show wpAny _ _ (call (Value.builtin "dict.update") [Value.ref _, Value.ref _]) _ _ _); k_dflt (refine upd_s (knd := PySem.strKind _ _) (by k_asm) (by k_asm) (by k_updF) (by k_asm) (by k_mem) (by k_asm) (by k_asm) (by first | assumption | k_ne) (by exact rfl) ?_); intro h' o' F' N' hd'; (first | rw [mg_line] at hd' | rw [mg_shared] at hd' | rw [mg_new1] at hd' | rw [mg_new2] at hd' | rw [mg_nb] at hd' | rw [mg_hv1] at hd' | rw [mg_hv2] at hd' | simp only [merged, List.foldl_cons, List.foldl_nil, stored, List.any_cons, List.any_nil, List.map_cons, List.map_nil, ofs_eq, String.reduceEq, decide_true, decide_false, Bool.or_true, Bool.true_or, Bool.false_or, Bool.or_false, Bool.false_eq_true, if_true, if_false, List.cons_append, List.nil_append] at hd' | skip); (try dsimp only at N'))) | (with_reducible ((with_reducible show wpAny _ _ (getMethod (Value.ref _) (Str.ofString "update") _) _ _ _); k_dflt (refine meth_upd (knd := PySem.strKind _ _) (by k_asm) (by k_mem) (by k_asm) ?_))) | (with_reducible ((with_reducible show wpAny _ _ (callWith _ (Value.builtin _) (_ :: _) (backTo _ (starEach (_ :: _) _)) []) _ _ _); k_dflt (refine callWith_method1 ?_))) | (with_reducible ((with_reducible show wpAny _ _ (setItem (Value.ref _) (Value.str _ _) _) _ _ _); k_dflt (refine set_s (knd := PySem.strKind _ _) (by k_asm) (by k_asm) (by k_updF) (by k_asm) (strKind_is _ _ _ _) (by exact rfl) ?_); intro h' o' F' N' hd'; (first | rw [st_state] at hd' | rw [st_dr] at hd' | rw [st_bdr] at hd' | rw [st_dr_address] at hd' | rw [st_bdr_address] at hd' | rw [st_neighbours] at hd' | rw [st_hello_at] at hd' | rw [st_wait_until] at hd' | rw [st_new] at hd' | rw [st_nb] at hd' | simp only [merged, List.foldl_cons, List.foldl_nil, stored, List.any_cons, List.any_nil, List.map_cons, List.map_nil, ofs_eq, String.reduceEq, decide_true, decide_false, Bool.or_true, Bool.true_or, Bool.false_or, Bool.or_false, Bool.false_eq_true, if_true, if_false, List.cons_append, List.nil_append] at hd' | skip); (try dsimp only at N'); (try dsimp only))) | (with_reducible ((with_reducible show wpAny _ _ (eval (PySem.Expr.Subscript (PySem.Expr.Name _ _) (PySem.Expr.Constant (Const.str _) _ _) _) (envOf _ _ _ _ _)) _ _ _); k_dflt (refine sub_key (by k_asm) (by exact rfl) (by k_asm) (by k_mem) (by k_asm) (by (first | with_reducible exact va_router | with_reducible exact va_state | with_reducible exact va_dr | with_reducible exact va_bdr | with_reducible exact va_dr_address | with_reducible exact va_bdr_address | with_reducible exact va_neighbours | with_reducible exact va_hello_at | with_reducible exact va_wait_until | with_reducible exact va_kind | with_reducible exact va_address | with_reducible exact va_priority | with_reducible exact va_hello | with_reducible exact va_dead | with_reducible exact va_options | with_reducible exact va_delay | with_reducible exact va_number | with_reducible exact va_area | with_reducible exact va_stub | with_reducible exact va_length | with_reducible exact va_cost | with_reducible exact va_resend | (repeat (first | exact valueAt_hit | refine (valueAt_miss (by decide)).trans ?_)))) ?_))) | (with_reducible ((with_reducible show wpAny _ _ (subscriptTail _ _ (Value.ref _) (Value.str _ _)) _ _ _); k_dflt (refine kda_item (knd := PySem.strKind _ _) (by k_asm) (by k_mem) (by k_asm) (strKind_is _ _ _ _) (by (first | with_reducible exact va_router | with_reducible exact va_state | with_reducible exact va_dr | with_reducible exact va_bdr | with_reducible exact va_dr_address | with_reducible exact va_bdr_address | with_reducible exact va_neighbours | with_reducible exact va_hello_at | with_reducible exact va_wait_until | with_reducible exact va_kind | with_reducible exact va_address | with_reducible exact va_priority | with_reducible exact va_hello | with_reducible exact va_dead | with_reducible exact va_options | with_reducible exact va_delay | with_reducible exact va_number | with_reducible exact va_area | with_reducible exact va_stub | with_reducible exact va_length | with_reducible exact va_cost | with_reducible exact va_resend | (repeat (first | exact valueAt_hit | refine (valueAt_miss (by decide)).trans ?_)))) ?_))) | walk1 | (dsimp only; walk1) | (leave1; (try dsimp only))))
      refine' ctr_end hret ?post ?G ?F' ?N' ?F ?N ?hs
      (case G => assumption); (case F' => assumption); (case N' => assumption); (case F => assumption); (case N => assumption); (case hs => exact fun _ hp => hp)
      exact ⟨d, rfl, o, nb, kd, st, own, dr, bdr, dra, bdra, ha, wu, de, op, t1, t2, t3, t4, t5, t6, t7, t8, t9, t10, t11, t12, t13, t14, t15, t16, ws, xs, tl, sp, t, k, rfl, hd9, hif, hws, hxs, by (first | lia | omega), hsp0, by (first | lia | omega), ne1, ne2, ne3, ne4, ne5, q1, q2, q3, q4⟩
    · intro i8 m8 news8 hi8 T8 t8 h8 tk8 F8 N8
      obtain ⟨ws, xs, tl, sp, t, k, e8, mf, mp, hws, hxs, hlw, hsp0, hsp1, q1, q2, q3, q4, q5⟩ := T8
      subst e8
      replace F8 := fr_name2 F8 (a := "found") (b := "pool") ((if_neg (fun h => absurd (ofs_inj h) (by decide))).trans mf) ((if_neg (fun h => absurd (ofs_inj h) (by decide))).trans mp) (by decide)
      have hi9 : i8 < 4 := by (first | lia | omega)
      clear mf mp
      (repeat' (first | (k_unfold; (try dsimp only)) | (k_end; wrow_close) | (with_reducible ((with_reducible show wpAny _ _ (call (Value.ref 213) _) _ _ _); k_dflt (refine draw_u (by k_asm) (by k_asm) (by k_asm) (by k_asm) (by k_asm) (by first | exact rfl | assumption) (by k_updF) (by assumption) (by assumption) (by (first | lia | omega)) (by (first | lia | omega)) (by (first | lia | omega)) (by (first | lia | omega)) (by first | assumption | (show @Ne Nat _ _; k_ne)) (by ktr_room) (by ktr_units) (by lcg_sub) ?_); intro rz9 oz9 hz9 tkz9 Fz9 Nz9 Pz9; obtain ⟨vz9, tz9, uz9, ez9, hv8, hvz9, fz9⟩ := Pz9; subst ez9; subst fz9; (try dsimp only at Nz9); (try dsimp only))) | (with_reducible ((with_reducible show wpAny _ _ (subscriptTail (PySem.Expr.List [_, _, _, _] _) _ (Value.ref _) (Value.int _ _)) _ _ _); k_dflt (refine kinds_item (News.isList (by k_asm) (by k_mem)) (by (first | lia | omega)) (by (first | lia | omega)) ?_ (hs := by rfl)); intro kdz9 tkz9 bz9 hkz9; cases bz9)) | (with_reducible ((with_reducible show wpAny _ _ (compareOp CmpOp.In (Value.str _ _) (Value.ref _)) _ _ _); (k_dflt (refine kind_in (by k_asm) (by k_mem) (by assumption) ?_)))) | (with_reducible ((with_reducible show wpAny _ _ (call (Value.ref 158) _) _ _ _); refine stop_at ?_)) | (with_reducible ((with_reducible show wpAny _ _ (call (Value.type "range") _) _ _ _); ((rename Fr _ _ _ _ => F'); (rename News _ _ _ _ => N'); (with_unfolding_all refine range1_rows F' N' ?_; intro _ _ _ _ _ _ _ _ _)))) | (with_reducible ((with_reducible show wpAny _ _ (pyIter (Value.ref _)) (fun it s₂ => LoopAtV _ _ _ _ (envOf (Str.ofString "_law_iface") _ _ _ _) _ _ _ _ it s₂) _ _); (rename Fr _ _ _ _ => lF'); (rename News _ _ _ _ => lN'); (with_unfolding_all refine iter_rangeUnr (by rfl) (by assumption) (small_one (by (first | lia | omega)) (by (first | lia | omega)) (by (first | lia | omega)) (by (first | lia | omega))) (rangeSize_nat _ _) lF' lN' ?_); clear lF' lN'; intro I l1; (try k_lt l1))) | (with_reducible ((with_reducible show wpAny _ _ (call (Value.ref 165) _) _ _ _); k_dflt (refine nb_c.use (by k_asm) (by k_asm) (by k_asm) (by k_asm) (by k_asm) (by first | exact rfl | assumption) (by ktr_room) (by ktr_units) _ (fun _ h => nomatch h) (fun _ h => h) Off.nil ?_); intro rz9 lz9 hz9 tkz9 Fz9 Nz9 offz9 Pz9; obtain ⟨bz9, oz9, x1, x2, x3, x4, x5, x6, x7, x8, xz9, y1, y2, ez9, fz9, hdz9⟩ := Pz9; subst ez9; subst fz9; (try simp only [List.cons_append, List.nil_append] at Nz9); replace offz9 := off_one offz9; obtain ⟨_, offz9⟩ := offc offz9; obtain ⟨_, offz9⟩ := offc offz9; obtain ⟨_, offz9⟩ := offc offz9; obtain ⟨_, offz9⟩ := offc offz9; obtain ⟨_, offz9⟩ := offc offz9; obtain ⟨_, offz9⟩ := offc offz9; obtain ⟨_, offz9⟩ := offc offz9; (try dsimp only))) | (with_reducible ((with_reducible show wpAny _ _ (call (Value.builtin _) [Value.ref _, _]) _ _ _); k_dflt (refine append_K (by k_asm) (by k_asm) (by k_upd) ?_ (by rw [List.size_toArray, sizeLine_eq]; (first | lia | omega))); intro h' F' N'; (try dsimp only))) | (with_reducible ((with_reducible refine execs_tk ?_); intro _; (try dsimp only); (try k_fold))) | (with_reducible ((with_reducible show wpAny _ _ (call (Value.ref _) _) _ _ _); refine wpAny_call ?_; k_dflt (refine code_def (by k_asm) (by k_asm) (by k_asm) (by k_asm) (by k_asm) rfl rfl (by first | exact rfl | assumption) (by k_is) (by k_is) (by ktr_room) (by exact BindsTo.of_eq rfl) (by exact locs rfl) ?_ (by exact rfl) (by exact rfl) (by exact rfl) (by decide); k_whole; intro g' L' h' FG' F' N' B' X' T'; (try dsimp only); (try k_lift B'); (try k_fold)))) | (with_reducible ((with_reducible show wpAny _ _ (eval (PySem.Expr.Dict ..) _) _ _ _); refine kdn_str (by k_dflt rfl) (by k_asm) (by first | k_asm | exact News.nil) (by exact Top.nolimit (by k_asm)) (by k_dflt rfl) (by k_dflt rfl) (by exact List.cons_ne_nil _ _) (by k_dflt (exact Nat.le_of_ble_eq_true rfl)) ?_; intro d' h' o' F' N' l1 lo' hd'; (try k_lt l1))) | (with_reducible ((with_reducible show KdnMade ..); k_dflt (refine kdn_made_str (by k_asm) (by k_asm) (by k_updF) (by k_asm) (by rfl) (by exact of_decide_eq_true (by first | rfl | kernel_rfl!)) ?_; intro h' o' F' N' hd'); (try dsimp only [strPairs] at hd'); (try dsimp only at N'))) | (with_reducible ((with_reducible show wpAny _ _ (call (Value.builtin "dict.update") [Value.ref _, Value.ref _]) _ _ _); k_dflt (refine upd_s (knd := PySem.strKind _ _) (by k_asm) (by k_asm) (by k_updF) (by k_asm) (by k_mem) (by k_asm) (by k_asm) (by first | assumption | k_ne) (by exact rfl) ?_); intro h' o' F' N' hd'; (first | rw [mg_line] at hd' | rw [mg_shared] at hd' | rw [mg_new1] at hd' | rw [mg_new2] at hd' | rw [mg_nb] at hd' | rw [mg_hv1] at hd' | rw [mg_hv2] at hd' | simp only [merged, List.foldl_cons, List.foldl_nil, stored, List.any_cons, List.any_nil, List.map_cons, List.map_nil, ofs_eq, String.reduceEq, decide_true, decide_false, Bool.or_true, Bool.true_or, Bool.false_or, Bool.or_false, Bool.false_eq_true, if_true, if_false, List.cons_append, List.nil_append] at hd' | skip); (try dsimp only at N'))) | (with_reducible ((with_reducible show wpAny _ _ (getMethod (Value.ref _) (Str.ofString "update") _) _ _ _); k_dflt (refine meth_upd (knd := PySem.strKind _ _) (by k_asm) (by k_mem) (by k_asm) ?_))) | (with_reducible ((with_reducible show wpAny _ _ (callWith _ (Value.builtin _) (_ :: _) (backTo _ (starEach (_ :: _) _)) []) _ _ _); k_dflt (refine callWith_method1 ?_))) | (with_reducible ((with_reducible show wpAny _ _ (setItem (Value.ref _) (Value.str _ _) _) _ _ _); k_dflt (refine set_s (knd := PySem.strKind _ _) (by k_asm) (by k_asm) (by k_updF) (by k_asm) (strKind_is _ _ _ _) (by exact rfl) ?_); intro h' o' F' N' hd'; (first | rw [st_state] at hd' | rw [st_dr] at hd' | rw [st_bdr] at hd' | rw [st_dr_address] at hd' | rw [st_bdr_address] at hd' | rw [st_neighbours] at hd' | rw [st_hello_at] at hd' | rw [st_wait_until] at hd' | rw [st_new] at hd' | rw [st_nb] at hd' | simp only [merged, List.foldl_cons, List.foldl_nil, stored, List.any_cons, List.any_nil, List.map_cons, List.map_nil, ofs_eq, String.reduceEq, decide_true, decide_false, Bool.or_true, Bool.true_or, Bool.false_or, Bool.or_false, Bool.false_eq_true, if_true, if_false, List.cons_append, List.nil_append] at hd' | skip); (try dsimp only at N'); (try dsimp only))) | (with_reducible ((with_reducible show wpAny _ _ (eval (PySem.Expr.Subscript (PySem.Expr.Name _ _) (PySem.Expr.Constant (Const.str _) _ _) _) (envOf _ _ _ _ _)) _ _ _); k_dflt (refine sub_key (by k_asm) (by exact rfl) (by k_asm) (by k_mem) (by k_asm) (by (first | with_reducible exact va_router | with_reducible exact va_state | with_reducible exact va_dr | with_reducible exact va_bdr | with_reducible exact va_dr_address | with_reducible exact va_bdr_address | with_reducible exact va_neighbours | with_reducible exact va_hello_at | with_reducible exact va_wait_until | with_reducible exact va_kind | with_reducible exact va_address | with_reducible exact va_priority | with_reducible exact va_hello | with_reducible exact va_dead | with_reducible exact va_options | with_reducible exact va_delay | with_reducible exact va_number | with_reducible exact va_area | with_reducible exact va_stub | with_reducible exact va_length | with_reducible exact va_cost | with_reducible exact va_resend | (repeat (first | exact valueAt_hit | refine (valueAt_miss (by decide)).trans ?_)))) ?_))) | (with_reducible ((with_reducible show wpAny _ _ (subscriptTail _ _ (Value.ref _) (Value.str _ _)) _ _ _); k_dflt (refine kda_item (knd := PySem.strKind _ _) (by k_asm) (by k_mem) (by k_asm) (strKind_is _ _ _ _) (by (first | with_reducible exact va_router | with_reducible exact va_state | with_reducible exact va_dr | with_reducible exact va_bdr | with_reducible exact va_dr_address | with_reducible exact va_bdr_address | with_reducible exact va_neighbours | with_reducible exact va_hello_at | with_reducible exact va_wait_until | with_reducible exact va_kind | with_reducible exact va_address | with_reducible exact va_priority | with_reducible exact va_hello | with_reducible exact va_dead | with_reducible exact va_options | with_reducible exact va_delay | with_reducible exact va_number | with_reducible exact va_area | with_reducible exact va_stub | with_reducible exact va_length | with_reducible exact va_cost | with_reducible exact va_resend | (repeat (first | exact valueAt_hit | refine (valueAt_miss (by decide)).trans ?_)))) ?_))) | walk1 | (dsimp only; walk1) | (leave1; (try dsimp only))))
      exact turnIf_end (by assumption) (by assumption) rfl rfl (by k_mem) (by k_mem) (by k_mem) (by k_mem) (by k_mem) (by k_mem) (by assumption) (by kcf_all) (menu2b (by assumption) (by assumption)) (menu3 (by assumption) (by assumption)) hws hxs hlw (by (first | lia | omega)) (by (first | lia | omega))
        q1 q2 q3 q4 q5 (by assumption) (by assumption) (by assumption) (by assumption) (by assumption) (by k_ne) (by k_ne) (by k_ne) (by k_ne)
    · exact ⟨[], [], [], _, _, _, rfl, rfl, rfl, .nil, fun _ h => (nomatch h), rfl, by (first | lia | omega), by (first | lia | omega), fun _ h => (nomatch h), fun _ h => (nomatch h), fun _ h => (nomatch h), fun _ h => (nomatch h), fun _ h => (nomatch h)⟩
end
theorem off_M5 : True := by w_top off; trivial
/-- whom router_at finds among the neighbours -/
noncomputable def firstAt : List (Int × Int) → Int → Int
  | [], _ => 0
  | (r, b) :: xs, a => if b = a then r else firstAt xs a
inductive TurnRt (w : World) (I d nb : Addr) (o : Obj) (ws : List Value) (k : Nat) (tl : Led) (a : Int) (tk : Tok) (want : Int) (r : List Value) (m : PySem.Str → Option Value) (news : Led) : Prop
  | mk (xs) (q1 : news = (d, o) :: (nb, listOf ws.toArray k) :: tl) (q2 : m "address" = some (.int a tk)) (q3 : NbsAt w tl r xs) (q4 : firstAt xs a = want) : TurnRt w I d nb o ws k tl a tk want r m news
set_option maxHeartbeats 4000000 in
theorem router_c {w : World} {d nb : Addr} {o : Obj} {kd st : PySem.Str} {own dr bdr dra bdra a : Int} {ha wu de op : Value} {t1 t2 t3 t4 t5 t6 t7 t8 t9 t10 t11 t12 t13 t14 t15 t16 ta : Tok} {ws : List Value} {xs : List (Int × Int)} {k : Nat} {tl : Led}
    (hd : o.IsDictOf (PySem.strKind PR w) (ifKvs kd st own dr bdr dra bdra nb ha wu de op t1 t2 t3 t4 t5 t6 t7 t8 t9 t10 t11 t12 t13 t14 t15 t16)) (hws : NbsAt w tl ws xs) (h4 : ws.length ≤ 4) :
    Ctr w 1 192 [.ref d, .int a ta] ((d, o) :: (nb, listOf ws.toArray k) :: tl)
      (fun x l => (∃ t, x = .int (if a = 0 then 0 else if a = own then 70 else firstAt xs a) t) ∧ l = (d, o) :: (nb, listOf ws.toArray k) :: tl) := by
  unfold Ctr
  intro mean mg mb dp un gd cn cs a' ccd cl outer A₀ base h₀ L m s Q E B F X N T hk hdp hun hret
  refine wpAny_call ?_
  k_dflt ((refine' code_defG ?k1 ?k2 ?k3 ?k4 ?k5 ?kA ?kF ?kK ?k6 ?k7 ?k8 ?k9 ?kB ?_ ?c2 ?c3 ?c4 ?c5; (case kA => exact rfl); (case kF => exact rfl); (case kK => assumption); (case k1 => k_asm); (case k2 => k_asm); (case k3 => k_asm); (case k4 => k_asm); (case k5 => k_asm); (case k6 => k_is); (case k7 => k_is); (case k8 => ktr_room); (case k9 => exact BindsTo.of_eq rfl); (case c5 => decide); (case kB => exact locs rfl); (case c2 => exact rfl); (case c3 => exact rfl); (case c4 => exact rfl); k_whole; intro g' L' h' FG' F' N' B' X' T' kG'; (try dsimp only); (try k_lift B'); (try k_fold)))
  (repeat' (first | (k_unfold; (try dsimp only)) | (k_end; wrow_close) | (with_reducible ((with_reducible show wpAny _ _ (pyIter (Value.ref _)) (fun it s₂ => LoopAtV _ _ _ _ (envOf (Str.ofString "router_at") _ _ _ _) _ _ _ _ it s₂) _ _); (rename Fr _ _ _ _ => lF'); (rename News _ _ _ _ => lN'); (with_unfolding_all refine iter_listUnr (by rfl) lF' lN' (by k_mem) (by rfl) (by rfl) ?_); clear lF' lN'; intro I l1; (try k_lt l1))) | (with_reducible ((with_reducible show wpAny _ _ (exec _ (envOf (Str.ofString "router_at") _ _ _ _)) _ _ _); (rename Fr _ _ _ _ => lF'); (with_unfolding_all refine' For_invVF lF' ?_ ?_ ?_; exact rfl; exact rfl; k_whole))) | (with_reducible ((with_reducible refine execs_tk ?_); intro _; (try dsimp only); (try k_fold))) | (with_reducible ((with_reducible show wpAny _ _ (eval (PySem.Expr.Subscript (PySem.Expr.Name _ _) (PySem.Expr.Constant (Const.str _) _ _) _) (envOf _ _ _ _ _)) _ _ _); k_dflt (refine sub_key (by k_asm) (by exact rfl) (by k_asm) (by k_mem) (by k_asm) (by (first | with_reducible exact va_router | with_reducible exact va_state | with_reducible exact va_dr | with_reducible exact va_bdr | with_reducible exact va_dr_address | with_reducible exact va_bdr_address | with_reducible exact va_neighbours | with_reducible exact va_hello_at | with_reducible exact va_wait_until | with_reducible exact va_kind | with_reducible exact va_address | with_reducible exact va_priority | with_reducible exact va_hello | with_reducible exact va_dead | with_reducible exact va_options | with_reducible exact va_delay | with_reducible exact va_number | with_reducible exact va_area | with_reducible exact va_stub | with_reducible exact va_length | with_reducible exact va_cost | with_reducible exact va_resend | (repeat (first | exact valueAt_hit | refine (valueAt_miss (by decide)).trans ?_)))) ?_))) | walk1 | (dsimp only; walk1) | (leave1; (try dsimp only))))
  · have e : a = 0 := by assumption
    subst e
    refine' ctr_end hret ?post ?G ?F' ?N' ?F ?N ?hs
    (case G => assumption); (case F' => assumption); (case N' => assumption); (case F => assumption); (case N => assumption); (case hs => exact fun _ hp => hp)
    exact ⟨⟨_, rfl⟩, rfl⟩
  · have e : a = own := by assumption
    have e0 : ¬ a = 0 := by assumption
    refine' ctr_end hret ?post2 ?G2 ?F2' ?N2' ?F2 ?N2 ?hs2
    (case G2 => assumption); (case F2' => assumption); (case N2' => assumption); (case F2 => assumption); (case N2 => assumption); (case hs2 => exact fun _ hp => hp)
    exact ⟨⟨_, by rw [if_neg e0, if_pos e]⟩, rfl⟩
  · replace l1 : ∀ p ∈ (d, o) :: (nb, listOf ws.toArray k) :: tl, p.1 ≠ I := allne_of l1
    refine list_ind (TurnRt w I d nb o ws k tl a ta (firstAt xs a)) ?_ ?_ _ _ _ ?_
    · intro m8 news8 h8 tk8 T8 F8 N8
      obtain ⟨xs', e8, ma, hr8, hwant⟩ := T8
      subst e8
      cases hr8
      dsimp only
      (repeat' (first | (k_unfold; (try dsimp only)) | (k_end; wrow_close) | (with_reducible ((with_reducible show wpAny _ _ (pyIter (Value.ref _)) (fun it s₂ => LoopAtV _ _ _ _ (envOf (Str.ofString "router_at") _ _ _ _) _ _ _ _ it s₂) _ _); (rename Fr _ _ _ _ => lF'); (rename News _ _ _ _ => lN'); (with_unfolding_all refine iter_listUnr (by rfl) lF' lN' (by k_mem) (by rfl) (by rfl) ?_); clear lF' lN'; intro I l1; (try k_lt l1))) | (with_reducible ((with_reducible show wpAny _ _ (exec _ (envOf (Str.ofString "router_at") _ _ _ _)) _ _ _); (rename Fr _ _ _ _ => lF'); (with_unfolding_all refine' For_invVF lF' ?_ ?_ ?_; exact rfl; exact rfl; k_whole))) | (with_reducible ((with_reducible refine execs_tk ?_); intro _; (try dsimp only); (try k_fold))) | (with_reducible ((with_reducible show wpAny _ _ (eval (PySem.Expr.Subscript (PySem.Expr.Name _ _) (PySem.Expr.Constant (Const.str _) _ _) _) (envOf _ _ _ _ _)) _ _ _); k_dflt (refine sub_key (by k_asm) (by exact rfl) (by k_asm) (by k_mem) (by k_asm) (by (first | with_reducible exact va_router | with_reducible exact va_state | with_reducible exact va_dr | with_reducible exact va_bdr | with_reducible exact va_dr_address | with_reducible exact va_bdr_address | with_reducible exact va_neighbours | with_reducible exact va_hello_at | with_reducible exact va_wait_until | with_reducible exact va_kind | with_reducible exact va_address | with_reducible exact va_priority | with_reducible exact va_hello | with_reducible exact va_dead | with_reducible exact va_options | with_reducible exact va_delay | with_reducible exact va_number | with_reducible exact va_area | with_reducible exact va_stub | with_reducible exact va_length | with_reducible exact va_cost | with_reducible exact va_resend | (repeat (first | exact valueAt_hit | refine (valueAt_miss (by decide)).trans ?_)))) ?_))) | walk1 | (dsimp only; walk1) | (leave1; (try dsimp only))))
      refine' ctr_end hret ?post3 ?G3 ?F3' ?N3' ?F3 ?N3 ?hs3
      (case G3 => assumption); (case F3' => assumption); (case N3' => assumption); (case F3 => assumption); (case N3 => assumption); (case hs3 => exact fun _ hp => hp)
      exact ⟨⟨_, by rw [if_neg (by assumption), if_neg (by assumption), ← hwant]; rfl⟩, rfl⟩
    · intro v8 r8 m8 news8 T8 it8 h8 tk8 hc8 F8 N8
      obtain ⟨xs', e8, ma, hr8, hwant⟩ := T8
      subst e8
      obtain _ | ⟨⟨b9, o9, v1, v2, v3, v4, v5, s1, s2, s3, s4, s5, s6, e9, hm9, hd9⟩, hr9⟩ := hr8
      rename_i r a9 xs9
      subst e9
      replace F8 := fr_name F8 (x := "address") ((if_neg (fun h => absurd (ofs_inj h) (by decide))).trans ma)
      (repeat' (first | (k_unfold; (try dsimp only)) | (k_end; wrow_close) | (with_reducible ((with_reducible show wpAny _ _ (pyIter (Value.ref _)) (fun it s₂ => LoopAtV _ _ _ _ (envOf (Str.ofString "router_at") _ _ _ _) _ _ _ _ it s₂) _ _); (rename Fr _ _ _ _ => lF'); (rename News _ _ _ _ => lN'); (with_unfolding_all refine iter_listUnr (by rfl) lF' lN' (by k_mem) (by rfl) (by rfl) ?_); clear lF' lN'; intro I l1; (try k_lt l1))) | (with_reducible ((with_reducible show wpAny _ _ (exec _ (envOf (Str.ofString "router_at") _ _ _ _)) _ _ _); (rename Fr _ _ _ _ => lF'); (with_unfolding_all refine' For_invVF lF' ?_ ?_ ?_; exact rfl; exact rfl; k_whole))) | (with_reducible ((with_reducible refine execs_tk ?_); intro _; (try dsimp only); (try k_fold))) | (with_reducible ((with_reducible show wpAny _ _ (eval (PySem.Expr.Subscript (PySem.Expr.Name _ _) (PySem.Expr.Constant (Const.str _) _ _) _) (envOf _ _ _ _ _)) _ _ _); k_dflt (refine sub_key (by k_asm) (by exact rfl) (by k_asm) (by k_mem) (by k_asm) (by (first | with_reducible exact va_router | with_reducible exact va_state | with_reducible exact va_dr | with_reducible exact va_bdr | with_reducible exact va_dr_address | with_reducible exact va_bdr_address | with_reducible exact va_neighbours | with_reducible exact va_hello_at | with_reducible exact va_wait_until | with_reducible exact va_kind | with_reducible exact va_address | with_reducible exact va_priority | with_reducible exact va_hello | with_reducible exact va_dead | with_reducible exact va_options | with_reducible exact va_delay | with_reducible exact va_number | with_reducible exact va_area | with_reducible exact va_stub | with_reducible exact va_length | with_reducible exact va_cost | with_reducible exact va_resend | (repeat (first | exact valueAt_hit | refine (valueAt_miss (by decide)).trans ?_)))) ?_))) | walk1 | (dsimp only; walk1) | (leave1; (try dsimp only))))
      · refine' ctr_end hret ?post4 ?G4 ?F4' ?N4' ?F4 ?N4 ?hs4
        (case G4 => assumption); (case F4' => assumption); (case N4' => assumption); (case F4 => assumption); (case N4 => assumption); (case hs4 => exact fun _ hp => .tail _ hp)
        exact ⟨⟨_, by rw [if_neg (by assumption), if_neg (by assumption), ← hwant, firstAt, if_pos (by assumption)]⟩, rfl⟩
      · refine UnrEnd.intro (by assumption) (by assumption) ((d, o) :: (nb, listOf ws.toArray k) :: tl) (fun _ hp => hp) l1 ⟨.tail _ (.head _), xs9, rfl, rfl, hr9, ?_⟩
        rw [← hwant, firstAt, if_neg (by assumption)]
    · exact ⟨xs, rfl, by with_unfolding_all rfl, hws, rfl⟩
section
theorem off_M6 : True := by w_top off; trivial
local macro_rules | `(tactic| walk_at "none 0") => `(tactic| fail)
noncomputable abbrev tup (vs : List Value) : Obj := { cls := .type "tuple", data := .seq vs.toArray }
/-- a row of the election that cannot be chosen -/
def Row0 (tl : Led) (v : Value) : Prop := ∃ b r a x y t1 t2 t3 t4 t5, v = .ref b ∧ (b, tup [.int r t1, .int a t2, .int 0 t3, .int x t4, .int y t5]) ∈ tl
theorem canbe_off {rl q d : Addr} {tl : Led} (h : (@Ne Nat rl d) ∧ (@Ne Nat q d) ∧ LCg.Off1 d tl) : NeA q d ∧ ∀ p ∈ tl, p.1 ≠ d := ⟨h.2.1, off1_mem h.2.2⟩
set_option maxHeartbeats 4000000 in
theorem canbe_c {w : World} {rl q : Addr} {vs : List Value} {k : Nat} {tl : Led} {r a x y : Int} {t1 t2 t3 t4 t5 : Tok}
    (hvs : ∀ v ∈ vs, Row0 tl v) (h4 : vs.length ≤ 4) :
    Ctr w 1 33 [.ref rl] ((rl, listOf (vs ++ [Value.ref q]).toArray k) :: (q, tup [.int r t1, .int a t2, .int 1 t3, .int x t4, .int y t5]) :: tl)
      (fun z l => ∃ d, z = .ref d ∧ l = (d, listOf [Value.ref q].toArray 1) :: (q, tup [.int r t1, .int a t2, .int 1 t3, .int x t4, .int y t5]) :: tl ∧ NeA q d ∧ ∀ p ∈ tl, p.1 ≠ d) := by
  unfold Ctr
  intro mean mg mb dp un gd cn cs a' ccd cl outer A₀ base h₀ L m s Q E B F X N T hk hdp hun hret
  refine wpAny_call ?_
  k_dflt ((refine' code_defG ?k1 ?k2 ?k3 ?k4 ?k5 ?kA ?kF ?kK ?k6 ?k7 ?k8 ?k9 ?kB ?_ ?c2 ?c3 ?c4 ?c5; (case kA => exact rfl); (case kF => exact rfl); (case kK => assumption); (case k1 => k_asm); (case k2 => k_asm); (case k3 => k_asm); (case k4 => k_asm); (case k5 => k_asm); (case k6 => k_is); (case k7 => k_is); (case k8 => ktr_room); (case k9 => exact BindsTo.of_eq rfl); (case c5 => decide); (case kB => exact locs rfl); (case c2 => exact rfl); (case c3 => exact rfl); (case c4 => exact rfl); k_whole; intro g' L' h' FG' F' N' B' X' T' kG'; (try dsimp only); (try k_lift B'); (try k_fold)))
  (repeat' (first | (k_unfold; (try dsimp only)) | (k_end; wrow_close) | (with_reducible ((with_reducible show wpAny _ _ (eval _ (envOf (Str.ofString "can_be_chosen") _ _ _ _)) _ _ _); k_dflt (refine LCt.ListComp_T (F₀ := by k_asm) (by with_unfolding_all rfl) (by decide) (by rfl) (by decide) (by rfl) ?_))) | (with_reducible ((with_reducible show LCt.CompSrcT ..); (k_dflt (refine LCt.CompSrcT.ledger (by rfl) (by k_asm) (by k_asm) (by k_mem) (by rw [List.size_toArray, sizeLine_eq, List.length_append, List.length_singleton]; omega) ?_); intro g'))) | (with_reducible ((with_reducible refine execs_tk ?_); intro _; (try dsimp only); (try k_fold))) | (with_reducible ((with_reducible show wpAny _ _ (call (Value.ref _) _) _ _ _); refine wpAny_call ?_; k_dflt (refine code_def (by k_asm) (by k_asm) (by k_asm) (by k_asm) (by k_asm) rfl rfl (by first | exact rfl | assumption) (by k_is) (by k_is) (by ktr_room) (by exact BindsTo.of_eq rfl) (by exact locs rfl) ?_ (by exact rfl) (by exact rfl) (by exact rfl) (by decide); k_whole; intro g' L' h' FG' F' N' B' X' T'; (try dsimp only); (try k_lift B'); (try k_fold)))) | (with_reducible ((with_reducible show wpAny _ _ (eval (PySem.Expr.Subscript (PySem.Expr.Name _ _) (PySem.Expr.Constant (Const.str _) _ _) _) (envOf _ _ _ _ _)) _ _ _); k_dflt (refine sub_key (by k_asm) (by exact rfl) (by k_asm) (by k_mem) (by k_asm) (by (first | with_reducible exact va_router | with_reducible exact va_state | with_reducible exact va_dr | with_reducible exact va_bdr | with_reducible exact va_dr_address | with_reducible exact va_bdr_address | with_reducible exact va_neighbours | with_reducible exact va_hello_at | with_reducible exact va_wait_until | with_reducible exact va_kind | with_reducible exact va_address | with_reducible exact va_priority | with_reducible exact va_hello | with_reducible exact va_dead | with_reducible exact va_options | with_reducible exact va_delay | with_reducible exact va_number | with_reducible exact va_area | with_reducible exact va_stub | with_reducible exact va_length | with_reducible exact va_cost | with_reducible exact va_resend | (repeat (first | exact valueAt_hit | refine (valueAt_miss (by decide)).trans ?_)))) ?_))) | walk1 | (dsimp only; walk1) | (leave1; (try dsimp only))))
  refine compT_ind (fun i ys news => news = (rl, listOf (vs ++ [Value.ref q]).toArray k) :: (q, tup [.int r t1, .int a t2, .int 1 t3, .int x t4, .int y t5]) :: tl ∧ ys = if i ≤ vs.length then [] else [Value.ref q]) ?_ ?_ _ _ _ _ (Nat.zero_add _) ⟨rfl, rfl⟩
  · intro ys news8 h8
    obtain ⟨e1, e2⟩ := h8
    rw [if_neg (by rw [List.size_toArray, List.length_append, List.length_singleton]; omega)] at e2
    subst e1 e2
    (repeat' (first | (k_unfold; (try dsimp only)) | (k_end; wrow_close) | (with_reducible ((with_reducible show wpAny _ _ (eval _ (envOf (Str.ofString "can_be_chosen") _ _ _ _)) _ _ _); k_dflt (refine LCt.ListComp_T (F₀ := by k_asm) (by with_unfolding_all rfl) (by decide) (by rfl) (by decide) (by rfl) ?_))) | (with_reducible ((with_reducible show LCt.CompSrcT ..); (k_dflt (refine LCt.CompSrcT.ledger (by rfl) (by k_asm) (by k_asm) (by k_mem) (by rw [List.size_toArray, sizeLine_eq, List.length_append, List.length_singleton]; omega) ?_); intro g'))) | (with_reducible ((with_reducible refine execs_tk ?_); intro _; (try dsimp only); (try k_fold))) | (with_reducible ((with_reducible show wpAny _ _ (call (Value.ref _) _) _ _ _); refine wpAny_call ?_; k_dflt (refine code_def (by k_asm) (by k_asm) (by k_asm) (by k_asm) (by k_asm) rfl rfl (by first | exact rfl | assumption) (by k_is) (by k_is) (by ktr_room) (by exact BindsTo.of_eq rfl) (by exact locs rfl) ?_ (by exact rfl) (by exact rfl) (by exact rfl) (by decide); k_whole; intro g' L' h' FG' F' N' B' X' T'; (try dsimp only); (try k_lift B'); (try k_fold)))) | (with_reducible ((with_reducible show wpAny _ _ (eval (PySem.Expr.Subscript (PySem.Expr.Name _ _) (PySem.Expr.Constant (Const.str _) _ _) _) (envOf _ _ _ _ _)) _ _ _); k_dflt (refine sub_key (by k_asm) (by exact rfl) (by k_asm) (by k_mem) (by k_asm) (by (first | with_reducible exact va_router | with_reducible exact va_state | with_reducible exact va_dr | with_reducible exact va_bdr | with_reducible exact va_dr_address | with_reducible exact va_bdr_address | with_reducible exact va_neighbours | with_reducible exact va_hello_at | with_reducible exact va_wait_until | with_reducible exact va_kind | with_reducible exact va_address | with_reducible exact va_priority | with_reducible exact va_hello | with_reducible exact va_dead | with_reducible exact va_options | with_reducible exact va_delay | with_reducible exact va_number | with_reducible exact va_area | with_reducible exact va_stub | with_reducible exact va_length | with_reducible exact va_cost | with_reducible exact va_resend | (repeat (first | exact valueAt_hit | refine (valueAt_miss (by decide)).trans ?_)))) ?_))) | walk1 | (dsimp only; walk1) | (leave1; (try dsimp only))))
    refine' ctr_end hret ?post ?G ?F' ?N' ?F ?N ?hs
    (case' post => refine ⟨_, rfl, rfl, ?_⟩)
    (case post => exact canbe_off (by assumption))
    (case G => assumption); (case F' => assumption); (case N' => assumption); (case F => assumption); (case N => assumption)
    case hs => exact List.forall_mem_cons.mpr ⟨.head _, fun p hp => .tail _ (.tail _ hp)⟩
  · intro i8 ys8 news8 hi8 h8 v8 I8 oI8 C8 oC8 D8 m8 hp8 tk8 E8 hP8 hO8 hm8 F8 N8 off8 ne8
    obtain ⟨e1, e2⟩ := h8
    subst e1
    rw [List.size_toArray, List.length_append, List.length_singleton] at hi8
    rw [if_pos (by omega)] at e2
    subst e2
    have hP9 : (vs ++ [Value.ref q])[i8]? = some v8 := by simpa using hP8
    by_cases hlt : i8 < vs.length
    · rw [List.getElem?_append_left hlt] at hP9
      obtain ⟨b9, r9, a9, x9, y9, s1, s2, s3, s4, s5, e9, hm9⟩ := hvs v8 (List.mem_of_getElem? hP9)
      subst e9
      (repeat' (first | (k_unfold; (try dsimp only)) | (k_end; wrow_close) | (with_reducible ((with_reducible show wpAny _ _ (eval _ (envOf (Str.ofString "can_be_chosen") _ _ _ _)) _ _ _); k_dflt (refine LCt.ListComp_T (F₀ := by k_asm) (by with_unfolding_all rfl) (by decide) (by rfl) (by decide) (by rfl) ?_))) | (with_reducible ((with_reducible show LCt.CompSrcT ..); (k_dflt (refine LCt.CompSrcT.ledger (by rfl) (by k_asm) (by k_asm) (by k_mem) (by rw [List.size_toArray, sizeLine_eq, List.length_append, List.length_singleton]; omega) ?_); intro g'))) | (with_reducible ((with_reducible refine execs_tk ?_); intro _; (try dsimp only); (try k_fold))) | (with_reducible ((with_reducible show wpAny _ _ (call (Value.ref _) _) _ _ _); refine wpAny_call ?_; k_dflt (refine code_def (by k_asm) (by k_asm) (by k_asm) (by k_asm) (by k_asm) rfl rfl (by first | exact rfl | assumption) (by k_is) (by k_is) (by ktr_room) (by exact BindsTo.of_eq rfl) (by exact locs rfl) ?_ (by exact rfl) (by exact rfl) (by exact rfl) (by decide); k_whole; intro g' L' h' FG' F' N' B' X' T'; (try dsimp only); (try k_lift B'); (try k_fold)))) | (with_reducible ((with_reducible show wpAny _ _ (eval (PySem.Expr.Subscript (PySem.Expr.Name _ _) (PySem.Expr.Constant (Const.str _) _ _) _) (envOf _ _ _ _ _)) _ _ _); k_dflt (refine sub_key (by k_asm) (by exact rfl) (by k_asm) (by k_mem) (by k_asm) (by (first | with_reducible exact va_router | with_reducible exact va_state | with_reducible exact va_dr | with_reducible exact va_bdr | with_reducible exact va_dr_address | with_reducible exact va_bdr_address | with_reducible exact va_neighbours | with_reducible exact va_hello_at | with_reducible exact va_wait_until | with_reducible exact va_kind | with_reducible exact va_address | with_reducible exact va_priority | with_reducible exact va_hello | with_reducible exact va_dead | with_reducible exact va_options | with_reducible exact va_delay | with_reducible exact va_number | with_reducible exact va_area | with_reducible exact va_stub | with_reducible exact va_length | with_reducible exact va_cost | with_reducible exact va_resend | (repeat (first | exact valueAt_hit | refine (valueAt_miss (by decide)).trans ?_)))) ?_))) | walk1 | (dsimp only; walk1) | (leave1; (try dsimp only))))
      dsimp only
      refine LCg.CompEnd.intro (by assumption) (by assumption) ((rl, listOf (vs ++ [Value.ref q]).toArray k) :: (q, tup [.int r t1, .int a t2, .int 1 t3, .int x t4, .int y t5]) :: tl) (fun p hp => hp) off8 (.inr ⟨_, .head _, rfl, _, rfl⟩) ⟨rfl, ?_⟩
      rw [if_pos (by omega)]
    · have e : i8 = vs.length := by omega
      subst e
      rw [List.getElem?_append_right (Nat.le_refl _), Nat.sub_self] at hP9
      cases hP9
      (repeat' (first | (k_unfold; (try dsimp only)) | (k_end; wrow_close) | (with_reducible ((with_reducible show wpAny _ _ (eval _ (envOf (Str.ofString "can_be_chosen") _ _ _ _)) _ _ _); k_dflt (refine LCt.ListComp_T (F₀ := by k_asm) (by with_unfolding_all rfl) (by decide) (by rfl) (by decide) (by rfl) ?_))) | (with_reducible ((with_reducible show LCt.CompSrcT ..); (k_dflt (refine LCt.CompSrcT.ledger (by rfl) (by k_asm) (by k_asm) (by k_mem) (by rw [List.size_toArray, sizeLine_eq, List.length_append, List.length_singleton]; omega) ?_); intro g'))) | (with_reducible ((with_reducible refine execs_tk ?_); intro _; (try dsimp only); (try k_fold))) | (with_reducible ((with_reducible show wpAny _ _ (call (Value.ref _) _) _ _ _); refine wpAny_call ?_; k_dflt (refine code_def (by k_asm) (by k_asm) (by k_asm) (by k_asm) (by k_asm) rfl rfl (by first | exact rfl | assumption) (by k_is) (by k_is) (by ktr_room) (by exact BindsTo.of_eq rfl) (by exact locs rfl) ?_ (by exact rfl) (by exact rfl) (by exact rfl) (by decide); k_whole; intro g' L' h' FG' F' N' B' X' T'; (try dsimp only); (try k_lift B'); (try k_fold)))) | (with_reducible ((with_reducible show wpAny _ _ (eval (PySem.Expr.Subscript (PySem.Expr.Name _ _) (PySem.Expr.Constant (Const.str _) _ _) _) (envOf _ _ _ _ _)) _ _ _); k_dflt (refine sub_key (by k_asm) (by exact rfl) (by k_asm) (by k_mem) (by k_asm) (by (first | with_reducible exact va_router | with_reducible exact va_state | with_reducible exact va_dr | with_reducible exact va_bdr | with_reducible exact va_dr_address | with_reducible exact va_bdr_address | with_reducible exact va_neighbours | with_reducible exact va_hello_at | with_reducible exact va_wait_until | with_reducible exact va_kind | with_reducible exact va_address | with_reducible exact va_priority | with_reducible exact va_hello | with_reducible exact va_dead | with_reducible exact va_options | with_reducible exact va_delay | with_reducible exact va_number | with_reducible exact va_area | with_reducible exact va_stub | with_reducible exact va_length | with_reducible exact va_cost | with_reducible exact va_resend | (repeat (first | exact valueAt_hit | refine (valueAt_miss (by decide)).trans ?_)))) ?_))) | walk1 | (dsimp only; walk1) | (leave1; (try dsimp only))))
      dsimp only
      refine LCg.CompEnd.intro (by assumption) (by assumption) ((rl, listOf (vs ++ [Value.ref q]).toArray k) :: (q, tup [.int r t1, .int a t2, .int 1 t3, .int x t4, .int y t5]) :: tl) (fun p hp => hp) off8 (.inr ⟨_, .head _, rfl, _, rfl⟩) ⟨rfl, ?_⟩
      rw [if_neg (by omega)]; rfl
end
section
theorem off_M7 : True := by w_top off; trivial
local macro_rules | `(tactic| k_ne) => `(tactic| (refine neN ?_; (try dsimp only); first | with_reducible assumption | (refine Nat.ne_of_lt ?_; kby_size) | (refine Nat.ne_of_gt ?_; kby_size) | kby_size | (refine Ne.symm ?_; kby_size) | with_reducible solve_by_elim (maxDepth := 6) -exfalso [And.left, And.right] | omega))
set_option maxHeartbeats 4000000 in
theorem cb1_c {w : World} {d q : Addr} {k : Nat} {t1 t2 t3 t4 t5 : Tok} (hne : NeA q d) :
    Ctr w 4 52 [.ref d] [(d, listOf [Value.ref q].toArray k), (q, tup [.int 70 t1, .int 7 t2, .int 1 t3, .int 1 t4, .int 7 t5])]
      (fun z l => (∃ t, z = .int 7 t) ∧ l = [(d, listOf [Value.ref q].toArray k), (q, tup [.int 70 t1, .int 7 t2, .int 1 t3, .int 1 t4, .int 7 t5])]) := by
  unfold Ctr
  intro mean mg mb dp un gd cn cs a' ccd cl outer A₀ base h₀ L m s Q E B F X N T hk hdp hun hret
  unfold NeA at hne
  refine wpAny_call ?_
  k_dflt ((refine' code_defG ?k1 ?k2 ?k3 ?k4 ?k5 ?kA ?kF ?kK ?k6 ?k7 ?k8 ?k9 ?kB ?_ ?c2 ?c3 ?c4 ?c5; (case kA => exact rfl); (case kF => exact rfl); (case kK => assumption); (case k1 => k_asm); (case k2 => k_asm); (case k3 => k_asm); (case k4 => k_asm); (case k5 => k_asm); (case k6 => k_is); (case k7 => k_is); (case k8 => ktr_room); (case k9 => exact BindsTo.of_eq rfl); (case c5 => decide); (case kB => exact locs rfl); (case c2 => exact rfl); (case c3 => exact rfl); (case c4 => exact rfl); k_whole; intro g' L' h' FG' F' N' B' X' T' kG'; (try dsimp only); (try k_lift B'); (try k_fold)))
  (repeat' (first | (k_unfold; (try dsimp only)) | (k_end; wrow_close) | (with_reducible ((with_reducible refine execs_tk ?_); intro _; (try dsimp only); (try k_fold))) | (with_reducible ((with_reducible show wpAny _ _ (call (Value.ref _) _) _ _ _); refine wpAny_call ?_; k_dflt (refine code_def (by k_asm) (by k_asm) (by k_asm) (by k_asm) (by k_asm) rfl rfl (by first | exact rfl | assumption) (by k_is) (by k_is) (by ktr_room) (by exact BindsTo.of_eq rfl) (by exact locs rfl) ?_ (by exact rfl) (by exact rfl) (by exact rfl) (by decide); k_whole; intro g' L' h' FG' F' N' B' X' T'; (try dsimp only); (try k_lift B'); (try k_fold)))) | (with_reducible ((with_reducible show wpAny _ _ (eval (PySem.Expr.Subscript (PySem.Expr.Name _ _) (PySem.Expr.Constant (Const.str _) _ _) _) (envOf _ _ _ _ _)) _ _ _); k_dflt (refine sub_key (by k_asm) (by exact rfl) (by k_asm) (by k_mem) (by k_asm) (by (first | with_reducible exact va_router | with_reducible exact va_state | with_reducible exact va_dr | with_reducible exact va_bdr | with_reducible exact va_dr_address | with_reducible exact va_bdr_address | with_reducible exact va_neighbours | with_reducible exact va_hello_at | with_reducible exact va_wait_until | with_reducible exact va_kind | with_reducible exact va_address | with_reducible exact va_priority | with_reducible exact va_hello | with_reducible exact va_dead | with_reducible exact va_options | with_reducible exact va_delay | with_reducible exact va_number | with_reducible exact va_area | with_reducible exact va_stub | with_reducible exact va_length | with_reducible exact va_cost | with_reducible exact va_resend | (repeat (first | exact valueAt_hit | refine (valueAt_miss (by decide)).trans ?_)))) ?_))) | walk1 | (dsimp only; walk1) | (leave1; (try dsimp only))))
  refine' ctr_end hret ?post ?G ?F' ?N' ?F ?N ?hs
  case post => exact ⟨⟨_, rfl⟩, rfl⟩
  (((case G => assumption); (case F' => assumption); (case N' => assumption); (case F => assumption); (case N => assumption); (case hs => lcg_sub)))
set_option maxHeartbeats 4000000 in
theorem cb2_c {w : World} {d q : Addr} {k : Nat} {t1 t2 t3 t4 t5 : Tok} (hne : NeA q d) :
    Ctr w 4 52 [.ref d] [(d, listOf [Value.ref q].toArray k), (q, tup [.int 70 t1, .int 7 t2, .int 1 t3, .int 7 t4, .int 7 t5])]
      (fun z l => (∃ t, z = .int 0 t) ∧ l = [(d, listOf [Value.ref q].toArray k), (q, tup [.int 70 t1, .int 7 t2, .int 1 t3, .int 7 t4, .int 7 t5])]) := by
  unfold Ctr
  intro mean mg mb dp un gd cn cs a' ccd cl outer A₀ base h₀ L m s Q E B F X N T hk hdp hun hret
  unfold NeA at hne
  refine wpAny_call ?_
  k_dflt ((refine' code_defG ?k1 ?k2 ?k3 ?k4 ?k5 ?kA ?kF ?kK ?k6 ?k7 ?k8 ?k9 ?kB ?_ ?c2 ?c3 ?c4 ?c5; (case kA => exact rfl); (case kF => exact rfl); (case kK => assumption); (case k1 => k_asm); (case k2 => k_asm); (case k3 => k_asm); (case k4 => k_asm); (case k5 => k_asm); (case k6 => k_is); (case k7 => k_is); (case k8 => ktr_room); (case k9 => exact BindsTo.of_eq rfl); (case c5 => decide); (case kB => exact locs rfl); (case c2 => exact rfl); (case c3 => exact rfl); (case c4 => exact rfl); k_whole; intro g' L' h' FG' F' N' B' X' T' kG'; (try dsimp only); (try k_lift B'); (try k_fold)))
  (repeat' (first | (k_unfold; (try dsimp only)) | (k_end; wrow_close) | (with_reducible ((with_reducible refine execs_tk ?_); intro _; (try dsimp only); (try k_fold))) | (with_reducible ((with_reducible show wpAny _ _ (call (Value.ref _) _) _ _ _); refine wpAny_call ?_; k_dflt (refine code_def (by k_asm) (by k_asm) (by k_asm) (by k_asm) (by k_asm) rfl rfl (by first | exact rfl | assumption) (by k_is) (by k_is) (by ktr_room) (by exact BindsTo.of_eq rfl) (by exact locs rfl) ?_ (by exact rfl) (by exact rfl) (by exact rfl) (by decide); k_whole; intro g' L' h' FG' F' N' B' X' T'; (try dsimp only); (try k_lift B'); (try k_fold)))) | (with_reducible ((with_reducible show wpAny _ _ (eval (PySem.Expr.Subscript (PySem.Expr.Name _ _) (PySem.Expr.Constant (Const.str _) _ _) _) (envOf _ _ _ _ _)) _ _ _); k_dflt (refine sub_key (by k_asm) (by exact rfl) (by k_asm) (by k_mem) (by k_asm) (by (first | with_reducible exact va_router | with_reducible exact va_state | with_reducible exact va_dr | with_reducible exact va_bdr | with_reducible exact va_dr_address | with_reducible exact va_bdr_address | with_reducible exact va_neighbours | with_reducible exact va_hello_at | with_reducible exact va_wait_until | with_reducible exact va_kind | with_reducible exact va_address | with_reducible exact va_priority | with_reducible exact va_hello | with_reducible exact va_dead | with_reducible exact va_options | with_reducible exact va_delay | with_reducible exact va_number | with_reducible exact va_area | with_reducible exact va_stub | with_reducible exact va_length | with_reducible exact va_cost | with_reducible exact va_resend | (repeat (first | exact valueAt_hit | refine (valueAt_miss (by decide)).trans ?_)))) ?_))) | walk1 | (dsimp only; walk1) | (leave1; (try dsimp only))))
  refine' ctr_end hret ?post ?G ?F' ?N' ?F ?N ?hs
  case post => exact ⟨⟨_, rfl⟩, rfl⟩
  (((case G => assumption); (case F' => assumption); (case N' => assumption); (case F => assumption); (case N => assumption); (case hs => lcg_sub)))
set_option maxHeartbeats 4000000 in
theorem cd1_c {w : World} {d q : Addr} {k : Nat} {t1 t2 t3 t4 t5 ta : Tok} (hne : NeA q d) :
    Ctr w 4 57 [.ref d, .int 7 ta] [(d, listOf [Value.ref q].toArray k), (q, tup [.int 70 t1, .int 7 t2, .int 1 t3, .int 1 t4, .int 7 t5])]
      (fun z l => (∃ t, z = .int 7 t) ∧ l = [(d, listOf [Value.ref q].toArray k), (q, tup [.int 70 t1, .int 7 t2, .int 1 t3, .int 1 t4, .int 7 t5])]) := by
  unfold Ctr
  intro mean mg mb dp un gd cn cs a' ccd cl outer A₀ base h₀ L m s Q E B F X N T hk hdp hun hret
  unfold NeA at hne
  refine wpAny_call ?_
  k_dflt ((refine' code_defG ?k1 ?k2 ?k3 ?k4 ?k5 ?kA ?kF ?kK ?k6 ?k7 ?k8 ?k9 ?kB ?_ ?c2 ?c3 ?c4 ?c5; (case kA => exact rfl); (case kF => exact rfl); (case kK => assumption); (case k1 => k_asm); (case k2 => k_asm); (case k3 => k_asm); (case k4 => k_asm); (case k5 => k_asm); (case k6 => k_is); (case k7 => k_is); (case k8 => ktr_room); (case k9 => exact BindsTo.of_eq rfl); (case c5 => decide); (case kB => exact locs rfl); (case c2 => exact rfl); (case c3 => exact rfl); (case c4 => exact rfl); k_whole; intro g' L' h' FG' F' N' B' X' T' kG'; (try dsimp only); (try k_lift B'); (try k_fold)))
  (repeat' (first | (k_unfold; (try dsimp only)) | (k_end; wrow_close) | (with_reducible ((with_reducible refine execs_tk ?_); intro _; (try dsimp only); (try k_fold))) | (with_reducible ((with_reducible show wpAny _ _ (call (Value.ref _) _) _ _ _); refine wpAny_call ?_; k_dflt (refine code_def (by k_asm) (by k_asm) (by k_asm) (by k_asm) (by k_asm) rfl rfl (by first | exact rfl | assumption) (by k_is) (by k_is) (by ktr_room) (by exact BindsTo.of_eq rfl) (by exact locs rfl) ?_ (by exact rfl) (by exact rfl) (by exact rfl) (by decide); k_whole; intro g' L' h' FG' F' N' B' X' T'; (try dsimp only); (try k_lift B'); (try k_fold)))) | (with_reducible ((with_reducible show wpAny _ _ (eval (PySem.Expr.Subscript (PySem.Expr.Name _ _) (PySem.Expr.Constant (Const.str _) _ _) _) (envOf _ _ _ _ _)) _ _ _); k_dflt (refine sub_key (by k_asm) (by exact rfl) (by k_asm) (by k_mem) (by k_asm) (by (first | with_reducible exact va_router | with_reducible exact va_state | with_reducible exact va_dr | with_reducible exact va_bdr | with_reducible exact va_dr_address | with_reducible exact va_bdr_address | with_reducible exact va_neighbours | with_reducible exact va_hello_at | with_reducible exact va_wait_until | with_reducible exact va_kind | with_reducible exact va_address | with_reducible exact va_priority | with_reducible exact va_hello | with_reducible exact va_dead | with_reducible exact va_options | with_reducible exact va_delay | with_reducible exact va_number | with_reducible exact va_area | with_reducible exact va_stub | with_reducible exact va_length | with_reducible exact va_cost | with_reducible exact va_resend | (repeat (first | exact valueAt_hit | refine (valueAt_miss (by decide)).trans ?_)))) ?_))) | walk1 | (dsimp only; walk1) | (leave1; (try dsimp only))))
  refine' ctr_end hret ?post ?G ?F' ?N' ?F ?N ?hs
  case post => exact ⟨⟨_, rfl⟩, rfl⟩
  (((case G => assumption); (case F' => assumption); (case N' => assumption); (case F => assumption); (case N => assumption); (case hs => lcg_sub)))
set_option maxHeartbeats 4000000 in
theorem cd2_c {w : World} {d q : Addr} {k : Nat} {t1 t2 t3 t4 t5 ta : Tok} (hne : NeA q d) :
    Ctr w 4 57 [.ref d, .int 0 ta] [(d, listOf [Value.ref q].toArray k), (q, tup [.int 70 t1, .int 7 t2, .int 1 t3, .int 7 t4, .int 7 t5])]
      (fun z l => (∃ t, z = .int 7 t) ∧ l = [(d, listOf [Value.ref q].toArray k), (q, tup [.int 70 t1, .int 7 t2, .int 1 t3, .int 7 t4, .int 7 t5])]) := by
  unfold Ctr
  intro mean mg mb dp un gd cn cs a' ccd cl outer A₀ base h₀ L m s Q E B F X N T hk hdp hun hret
  unfold NeA at hne
  refine wpAny_call ?_
  k_dflt ((refine' code_defG ?k1 ?k2 ?k3 ?k4 ?k5 ?kA ?kF ?kK ?k6 ?k7 ?k8 ?k9 ?kB ?_ ?c2 ?c3 ?c4 ?c5; (case kA => exact rfl); (case kF => exact rfl); (case kK => assumption); (case k1 => k_asm); (case k2 => k_asm); (case k3 => k_asm); (case k4 => k_asm); (case k5 => k_asm); (case k6 => k_is); (case k7 => k_is); (case k8 => ktr_room); (case k9 => exact BindsTo.of_eq rfl); (case c5 => decide); (case kB => exact locs rfl); (case c2 => exact rfl); (case c3 => exact rfl); (case c4 => exact rfl); k_whole; intro g' L' h' FG' F' N' B' X' T' kG'; (try dsimp only); (try k_lift B'); (try k_fold)))
  (repeat' (first | (k_unfold; (try dsimp only)) | (k_end; wrow_close) | (with_reducible ((with_reducible refine execs_tk ?_); intro _; (try dsimp only); (try k_fold))) | (with_reducible ((with_reducible show wpAny _ _ (call (Value.ref _) _) _ _ _); refine wpAny_call ?_; k_dflt (refine code_def (by k_asm) (by k_asm) (by k_asm) (by k_asm) (by k_asm) rfl rfl (by first | exact rfl | assumption) (by k_is) (by k_is) (by ktr_room) (by exact BindsTo.of_eq rfl) (by exact locs rfl) ?_ (by exact rfl) (by exact rfl) (by exact rfl) (by decide); k_whole; intro g' L' h' FG' F' N' B' X' T'; (try dsimp only); (try k_lift B'); (try k_fold)))) | (with_reducible ((with_reducible show wpAny _ _ (eval (PySem.Expr.Subscript (PySem.Expr.Name _ _) (PySem.Expr.Constant (Const.str _) _ _) _) (envOf _ _ _ _ _)) _ _ _); k_dflt (refine sub_key (by k_asm) (by exact rfl) (by k_asm) (by k_mem) (by k_asm) (by (first | with_reducible exact va_router | with_reducible exact va_state | with_reducible exact va_dr | with_reducible exact va_bdr | with_reducible exact va_dr_address | with_reducible exact va_bdr_address | with_reducible exact va_neighbours | with_reducible exact va_hello_at | with_reducible exact va_wait_until | with_reducible exact va_kind | with_reducible exact va_address | with_reducible exact va_priority | with_reducible exact va_hello | with_reducible exact va_dead | with_reducible exact va_options | with_reducible exact va_delay | with_reducible exact va_number | with_reducible exact va_area | with_reducible exact va_stub | with_reducible exact va_length | with_reducible exact va_cost | with_reducible exact va_resend | (repeat (first | exact valueAt_hit | refine (valueAt_miss (by decide)).trans ?_)))) ?_))) | walk1 | (dsimp only; walk1) | (leave1; (try dsimp only))))
  refine' ctr_end hret ?post ?G ?F' ?N' ?F ?N ?hs
  case post => exact ⟨⟨_, rfl⟩, rfl⟩
  (((case G => assumption); (case F' => assumption); (case N' => assumption); (case F => assumption); (case N => assumption); (case hs => lcg_sub)))
end
section
theorem off_M8 : True := by w_top off; trivial
local macro_rules | `(tactic| walk_at "none 0") => `(tactic| fail)
theorem round_off {e q d : Addr} {tl : Led} (h : (@LT.lt Nat _ e d) ∧ (@LT.lt Nat _ q d) ∧ AllLt d tl) : NeA q d ∧ ∀ p ∈ tl, p.1 ≠ d := ⟨Nat.ne_of_lt h.2.1, allne_of h.2.2⟩
set_option maxHeartbeats 4000000 in
theorem or1_c {w : World} {rl q : Addr} {vs : List Value} {k : Nat} {tl : Led} {t1 t2 t3 t4 t5 : Tok} (hvs : ∀ v ∈ vs, Row0 tl v) (h4 : vs.length ≤ 4) (hq : ∀ p ∈ tl, p.1 ≠ q) :
    Ctr w 5 64 [.ref rl] ((rl, listOf (vs ++ [Value.ref q]).toArray k) :: (q, tup [.int 70 t1, .int 7 t2, .int 1 t3, .int 1 t4, .int 7 t5]) :: tl)
      (fun z l => ∃ d s1 s2, z = .ref d ∧ l = (d, tup [.int 7 s1, .int 7 s2]) :: (q, tup [.int 70 t1, .int 7 t2, .int 1 t3, .int 1 t4, .int 7 t5]) :: tl ∧ NeA q d ∧ ∀ p ∈ tl, p.1 ≠ d) := by
  unfold Ctr
  intro mean mg mb dp un gd cn cs a' ccd cl outer A₀ base h₀ L m s Q E B F X N T hk hdp hun hret
  refine wpAny_call ?_
  k_dflt ((refine' code_defG ?k1 ?k2 ?k3 ?k4 ?k5 ?kA ?kF ?kK ?k6 ?k7 ?k8 ?k9 ?kB ?_ ?c2 ?c3 ?c4 ?c5; (case kA => exact rfl); (case kF => exact rfl); (case kK => assumption); (case k1 => k_asm); (case k2 => k_asm); (case k3 => k_asm); (case k4 => k_asm); (case k5 => k_asm); (case k6 => k_is); (case k7 => k_is); (case k8 => ktr_room); (case k9 => exact BindsTo.of_eq rfl); (case c5 => decide); (case kB => exact locs rfl); (case c2 => exact rfl); (case c3 => exact rfl); (case c4 => exact rfl); k_whole; intro g' L' h' FG' F' N' B' X' T' kG'; (try dsimp only); (try k_lift B'); (try k_fold)))
  (repeat' (first | (k_unfold; (try dsimp only)) | (k_end; wrow_close) | (with_reducible ((with_reducible show wpAny _ _ (call (Value.ref 33) _) _ _ _); k_dflt (refine (canbe_c (by assumption) (by assumption)).use (by k_asm) (by k_asm) (by k_asm) (by k_asm) (by k_asm) (by first | exact rfl | assumption) (by ktr_room) (by ktr_units) [] (fun p h => h) (fun _ h => nomatch h) (fun _ _ _ h => nomatch h) ?_); intro rz9 lz9 hz9 tkz9 Fz9 Nz9 offz9 Pz9; obtain ⟨dz9, ez9, fz9, hqd, hd⟩ := Pz9; subst ez9; subst fz9; unfold NeA at hqd; rw [List.append_nil] at Nz9; clear offz9; (try dsimp only))) | (with_reducible ((with_reducible show wpAny _ _ (call (Value.ref 52) _) _ _ _); k_dflt (first | (refine (cb1_c (by assumption)).useA (by k_asm) (by k_asm) (by k_asm) (by k_asm) (by k_asm) (by first | exact rfl | assumption) (by ktr_room) (by ktr_units) (by (repeat (first | exact Off.nil | refine Off.cons (by k_all) ?_))) ?_) | (refine (cb2_c (by assumption)).useA (by k_asm) (by k_asm) (by k_asm) (by k_asm) (by k_asm) (by first | exact rfl | assumption) (by ktr_room) (by ktr_units) (by (repeat (first | exact Off.nil | refine Off.cons (by k_all) ?_))) ?_)); intro rz9 lz9 hz9 tkz9 Fz9 Nz9 offz9 Pz9; obtain ⟨⟨zz9, ez9⟩, fz9⟩ := Pz9; subst ez9; subst fz9; simp only [List.cons_append, List.nil_append] at Nz9; clear offz9; (try dsimp only))) | (with_reducible ((with_reducible show wpAny _ _ (call (Value.ref 57) _) _ _ _); k_dflt (first | (refine (cd1_c (by assumption)).useA (by k_asm) (by k_asm) (by k_asm) (by k_asm) (by k_asm) (by first | exact rfl | assumption) (by ktr_room) (by ktr_units) (by (repeat (first | exact Off.nil | refine Off.cons (by k_all) ?_))) ?_) | (refine (cd2_c (by assumption)).useA (by k_asm) (by k_asm) (by k_asm) (by k_asm) (by k_asm) (by first | exact rfl | assumption) (by ktr_room) (by ktr_units) (by (repeat (first | exact Off.nil | refine Off.cons (by k_all) ?_))) ?_)); intro rz9 lz9 hz9 tkz9 Fz9 Nz9 offz9 Pz9; obtain ⟨⟨zz9, ez9⟩, fz9⟩ := Pz9; subst ez9; subst fz9; simp only [List.cons_append, List.nil_append] at Nz9; clear offz9; (try dsimp only))) | (with_reducible ((with_reducible refine execs_tk ?_); intro _; (try dsimp only); (try k_fold))) | (with_reducible ((with_reducible show wpAny _ _ (call (Value.ref _) _) _ _ _); refine wpAny_call ?_; k_dflt (refine code_def (by k_asm) (by k_asm) (by k_asm) (by k_asm) (by k_asm) rfl rfl (by first | exact rfl | assumption) (by k_is) (by k_is) (by ktr_room) (by exact BindsTo.of_eq rfl) (by exact locs rfl) ?_ (by exact rfl) (by exact rfl) (by exact rfl) (by decide); k_whole; intro g' L' h' FG' F' N' B' X' T'; (try dsimp only); (try k_lift B'); (try k_fold)))) | walk1 | (dsimp only; walk1) | (leave1; (try dsimp only))))
  refine ctr_end2 hret (by assumption) (by assumption) (by assumption) (by assumption) (by assumption) ?_
  exact ⟨_, _, _, rfl, rfl, round_off (by assumption)⟩
set_option maxHeartbeats 4000000 in
theorem or2_c {w : World} {rl q : Addr} {vs : List Value} {k : Nat} {tl : Led} {t1 t2 t3 t4 t5 : Tok} (hvs : ∀ v ∈ vs, Row0 tl v) (h4 : vs.length ≤ 4) (hq : ∀ p ∈ tl, p.1 ≠ q) :
    Ctr w 5 64 [.ref rl] ((rl, listOf (vs ++ [Value.ref q]).toArray k) :: (q, tup [.int 70 t1, .int 7 t2, .int 1 t3, .int 7 t4, .int 7 t5]) :: tl)
      (fun z l => ∃ d s1 s2, z = .ref d ∧ l = (d, tup [.int 7 s1, .int 0 s2]) :: (q, tup [.int 70 t1, .int 7 t2, .int 1 t3, .int 7 t4, .int 7 t5]) :: tl ∧ NeA q d ∧ ∀ p ∈ tl, p.1 ≠ d) := by
  unfold Ctr
  intro mean mg mb dp un gd cn cs a' ccd cl outer A₀ base h₀ L m s Q E B F X N T hk hdp hun hret
  refine wpAny_call ?_
  k_dflt ((refine' code_defG ?k1 ?k2 ?k3 ?k4 ?k5 ?kA ?kF ?kK ?k6 ?k7 ?k8 ?k9 ?kB ?_ ?c2 ?c3 ?c4 ?c5; (case kA => exact rfl); (case kF => exact rfl); (case kK => assumption); (case k1 => k_asm); (case k2 => k_asm); (case k3 => k_asm); (case k4 => k_asm); (case k5 => k_asm); (case k6 => k_is); (case k7 => k_is); (case k8 => ktr_room); (case k9 => exact BindsTo.of_eq rfl); (case c5 => decide); (case kB => exact locs rfl); (case c2 => exact rfl); (case c3 => exact rfl); (case c4 => exact rfl); k_whole; intro g' L' h' FG' F' N' B' X' T' kG'; (try dsimp only); (try k_lift B'); (try k_fold)))
  (repeat' (first | (k_unfold; (try dsimp only)) | (k_end; wrow_close) | (with_reducible ((with_reducible show wpAny _ _ (call (Value.ref 33) _) _ _ _); k_dflt (refine (canbe_c (by assumption) (by assumption)).use (by k_asm) (by k_asm) (by k_asm) (by k_asm) (by k_asm) (by first | exact rfl | assumption) (by ktr_room) (by ktr_units) [] (fun p h => h) (fun _ h => nomatch h) (fun _ _ _ h => nomatch h) ?_); intro rz9 lz9 hz9 tkz9 Fz9 Nz9 offz9 Pz9; obtain ⟨dz9, ez9, fz9, hqd, hd⟩ := Pz9; subst ez9; subst fz9; unfold NeA at hqd; rw [List.append_nil] at Nz9; clear offz9; (try dsimp only))) | (with_reducible ((with_reducible show wpAny _ _ (call (Value.ref 52) _) _ _ _); k_dflt (first | (refine (cb1_c (by assumption)).useA (by k_asm) (by k_asm) (by k_asm) (by k_asm) (by k_asm) (by first | exact rfl | assumption) (by ktr_room) (by ktr_units) (by (repeat (first | exact Off.nil | refine Off.cons (by k_all) ?_))) ?_) | (refine (cb2_c (by assumption)).useA (by k_asm) (by k_asm) (by k_asm) (by k_asm) (by k_asm) (by first | exact rfl | assumption) (by ktr_room) (by ktr_units) (by (repeat (first | exact Off.nil | refine Off.cons (by k_all) ?_))) ?_)); intro rz9 lz9 hz9 tkz9 Fz9 Nz9 offz9 Pz9; obtain ⟨⟨zz9, ez9⟩, fz9⟩ := Pz9; subst ez9; subst fz9; simp only [List.cons_append, List.nil_append] at Nz9; clear offz9; (try dsimp only))) | (with_reducible ((with_reducible show wpAny _ _ (call (Value.ref 57) _) _ _ _); k_dflt (first | (refine (cd1_c (by assumption)).useA (by k_asm) (by k_asm) (by k_asm) (by k_asm) (by k_asm) (by first | exact rfl | assumption) (by ktr_room) (by ktr_units) (by (repeat (first | exact Off.nil | refine Off.cons (by k_all) ?_))) ?_) | (refine (cd2_c (by assumption)).useA (by k_asm) (by k_asm) (by k_asm) (by k_asm) (by k_asm) (by first | exact rfl | assumption) (by ktr_room) (by ktr_units) (by (repeat (first | exact Off.nil | refine Off.cons (by k_all) ?_))) ?_)); intro rz9 lz9 hz9 tkz9 Fz9 Nz9 offz9 Pz9; obtain ⟨⟨zz9, ez9⟩, fz9⟩ := Pz9; subst ez9; subst fz9; simp only [List.cons_append, List.nil_append] at Nz9; clear offz9; (try dsimp only))) | (with_reducible ((with_reducible refine execs_tk ?_); intro _; (try dsimp only); (try k_fold))) | (with_reducible ((with_reducible show wpAny _ _ (call (Value.ref _) _) _ _ _); refine wpAny_call ?_; k_dflt (refine code_def (by k_asm) (by k_asm) (by k_asm) (by k_asm) (by k_asm) rfl rfl (by first | exact rfl | assumption) (by k_is) (by k_is) (by ktr_room) (by exact BindsTo.of_eq rfl) (by exact locs rfl) ?_ (by exact rfl) (by exact rfl) (by exact rfl) (by decide); k_whole; intro g' L' h' FG' F' N' B' X' T'; (try dsimp only); (try k_lift B'); (try k_fold)))) | walk1 | (dsimp only; walk1) | (leave1; (try dsimp only))))
  refine ctr_end2 hret (by assumption) (by assumption) (by assumption) (by assumption) (by assumption) ?_
  exact ⟨_, _, _, rfl, rfl, round_off (by assumption)⟩
end
set_option pp.deepTerms.threshold 5
theorem off_M9 : True := by w_top off; trivial
theorem off1 {a b : Addr} {o : Obj} (h : @Ne Nat a b) : ∀ p ∈ [(a, o)], p.1 ≠ b := fun p hp e => by rw [List.mem_singleton.mp hp] at e; exact h e
theorem off_tl {a : Addr} {o : Obj} {tl : Led} (h : ∀ p ∈ tl, p.1 ≠ a) : Off tl [(a, o)] := fun p hp q hq e => h p hp (by rw [List.mem_singleton.mp hq] at e; exact e)
set_option maxHeartbeats 4000000 in
theorem elect_c {w : World} {rw q : Addr} {vs : List Value} {k : Nat} {tl : Led} {t1 t2 t3 t4 t5 : Tok} (hvs : ∀ v ∈ vs, Row0 tl v) (h4 : vs.length ≤ 4) (hq : ∀ p ∈ tl, p.1 ≠ q) (hrw : ∀ p ∈ tl, p.1 ≠ rw) (hrq : NeA rw q) :
    Ctr w 6 85 [.ref rw, .ref q] ((rw, listOf vs.toArray k) :: (q, tup [.int 70 t1, .int 7 t2, .int 1 t3, .int 1 t4, .int 7 t5]) :: tl)
      (fun z l => ∃ d s1 s2, z = .ref d ∧ l = (d, tup [.int 7 s1, .int 0 s2]) :: (q, tup [.int 70 t1, .int 7 t2, .int 1 t3, .int 1 t4, .int 7 t5]) :: tl ∧ NeA q d ∧ ∀ p ∈ tl, p.1 ≠ d) := by
  unfold Ctr
  intro mean mg mb dp un gd cn cs a' ccd cl outer A₀ base h₀ L m s Q E B F X N T hk hdp hun hret
  refine wpAny_call ?_
  k_dflt ((refine' code_defG ?k1 ?k2 ?k3 ?k4 ?k5 ?kA ?kF ?kK ?k6 ?k7 ?k8 ?k9 ?kB ?_ ?c2 ?c3 ?c4 ?c5; (case kA => exact rfl); (case kF => exact rfl); (case kK => assumption); (case k1 => k_asm); (case k2 => k_asm); (case k3 => k_asm); (case k4 => k_asm); (case k5 => k_asm); (case k6 => k_is); (case k7 => k_is); (case k8 => ktr_room); (case k9 => exact BindsTo.of_eq rfl); (case c5 => decide); (case kB => exact locs rfl); (case c2 => exact rfl); (case c3 => exact rfl); (case c4 => exact rfl); k_whole; intro g' L' h' FG' F' N' B' X' T' kG'; (try dsimp only); (try k_lift B'); (try k_fold)))
  (repeat' (first | (k_unfold; (try dsimp only)) | (k_end; wrow_close) | (with_reducible ((with_reducible show wpAny _ _ (call (Value.ref 64) _) _ _ _); refine stop_at ?_)) | (with_reducible ((with_reducible refine execs_tk ?_); intro _; (try dsimp only); (try k_fold))) | (with_reducible ((with_reducible show wpAny _ _ (call (Value.ref _) _) _ _ _); refine wpAny_call ?_; k_dflt (refine code_def (by k_asm) (by k_asm) (by k_asm) (by k_asm) (by k_asm) rfl rfl (by first | exact rfl | assumption) (by k_is) (by k_is) (by ktr_room) (by exact BindsTo.of_eq rfl) (by exact locs rfl) ?_ (by exact rfl) (by exact rfl) (by exact rfl) (by decide); k_whole; intro g' L' h' FG' F' N' B' X' T'; (try dsimp only); (try k_lift B'); (try k_fold)))) | (with_reducible ((with_reducible show wpAny _ _ (eval (PySem.Expr.Subscript (PySem.Expr.Name _ _) (PySem.Expr.Constant (Const.str _) _ _) _) (envOf _ _ _ _ _)) _ _ _); k_dflt (refine sub_key (by k_asm) (by exact rfl) (by k_asm) (by k_mem) (by k_asm) (by (first | with_reducible exact va_router | with_reducible exact va_state | with_reducible exact va_dr | with_reducible exact va_bdr | with_reducible exact va_dr_address | with_reducible exact va_bdr_address | with_reducible exact va_neighbours | with_reducible exact va_hello_at | with_reducible exact va_wait_until | with_reducible exact va_kind | with_reducible exact va_address | with_reducible exact va_priority | with_reducible exact va_hello | with_reducible exact va_dead | with_reducible exact va_options | with_reducible exact va_delay | with_reducible exact va_number | with_reducible exact va_area | with_reducible exact va_stub | with_reducible exact va_length | with_reducible exact va_cost | with_reducible exact va_resend | (repeat (first | exact valueAt_hit | refine (valueAt_miss (by decide)).trans ?_)))) ?_))) | walk1 | (dsimp only; walk1) | (leave1; (try dsimp only))))
  refine stop_out ?_
  rename_i D8 c8 _ l1a l8 h8 F8 N8 l1b h9 F9 N9
  have lt1 : @LT.lt Nat _ rw h8.objs.size := Heap.lt_size (N8 (rw, listOf vs.toArray k) (by k_mem)).1
  have lt2 : @LT.lt Nat _ q h8.objs.size := Heap.lt_size (N8 (q, _) (.tail _ (.tail _ (.tail _ (.head _))))).1
  refine (or1_c hvs h4 hq).use (by k_asm) F9 (by k_asm) N9 (by k_asm) (by first | exact rfl | assumption) (by ktr_room) (by ktr_units) [(rw, listOf vs.toArray k)]
    (List.forall_mem_cons.mpr ⟨.head _, List.forall_mem_cons.mpr ⟨.tail _ (.tail _ (.tail _ (.tail _ (.head _)))), fun p hp => .tail _ (.tail _ (.tail _ (.tail _ (.tail _ hp))))⟩⟩)
    (List.forall_mem_cons.mpr ⟨.tail _ (.tail _ (.tail _ (.head _))), fun _ h => nomatch h⟩) (Off.cons (off1 (Nat.ne_of_lt lt1)) (Off.cons (off1 hrq) (off_tl hrw))) ?_
  intro r7 l7 h7 tk7 F7 N7 off7 P7
  obtain ⟨d, s1, s2, e7, f7, hqd, htd⟩ := P7
  subst e7; subst f7
  have N6 := cb_drop (news := (d, tup [.int 7 s1, .int 7 s2]) :: (rw, listOf vs.toArray k) :: (q, tup [.int 70 t1, .int 7 t2, .int 1 t3, .int 1 t4, .int 7 t5]) :: tl) N7
    (List.forall_mem_cons.mpr ⟨.head _, List.forall_mem_cons.mpr ⟨.tail _ (List.mem_cons_of_mem _ (List.mem_append.mpr (.inr (.head _)))), List.forall_mem_cons.mpr ⟨.tail _ (.head _), fun p hp => List.mem_append.mpr (.inl (.tail _ (.tail _ hp)))⟩⟩⟩)
  have ed : @Ne Nat rw d := fun e => off7 _ (.head _) _ (.head _) e.symm
  clear N7 off7 F8 N8 F9 N9 l1a l1b lt1 lt2
  unfold NeA at hqd
  dsimp only
  (repeat' (first | (k_unfold; (try dsimp only)) | (k_end; wrow_close) | (with_reducible ((with_reducible show wpAny _ _ (call (Value.ref 64) _) _ _ _); refine stop_at ?_)) | (with_reducible ((with_reducible refine execs_tk ?_); intro _; (try dsimp only); (try k_fold))) | (with_reducible ((with_reducible show wpAny _ _ (call (Value.ref _) _) _ _ _); refine wpAny_call ?_; k_dflt (refine code_def (by k_asm) (by k_asm) (by k_asm) (by k_asm) (by k_asm) rfl rfl (by first | exact rfl | assumption) (by k_is) (by k_is) (by ktr_room) (by exact BindsTo.of_eq rfl) (by exact locs rfl) ?_ (by exact rfl) (by exact rfl) (by exact rfl) (by decide); k_whole; intro g' L' h' FG' F' N' B' X' T'; (try dsimp only); (try k_lift B'); (try k_fold)))) | (with_reducible ((with_reducible show wpAny _ _ (eval (PySem.Expr.Subscript (PySem.Expr.Name _ _) (PySem.Expr.Constant (Const.str _) _ _) _) (envOf _ _ _ _ _)) _ _ _); k_dflt (refine sub_key (by k_asm) (by exact rfl) (by k_asm) (by k_mem) (by k_asm) (by (first | with_reducible exact va_router | with_reducible exact va_state | with_reducible exact va_dr | with_reducible exact va_bdr | with_reducible exact va_dr_address | with_reducible exact va_bdr_address | with_reducible exact va_neighbours | with_reducible exact va_hello_at | with_reducible exact va_wait_until | with_reducible exact va_kind | with_reducible exact va_address | with_reducible exact va_priority | with_reducible exact va_hello | with_reducible exact va_dead | with_reducible exact va_options | with_reducible exact va_delay | with_reducible exact va_number | with_reducible exact va_area | with_reducible exact va_stub | with_reducible exact va_length | with_reducible exact va_cost | with_reducible exact va_resend | (repeat (first | exact valueAt_hit | refine (valueAt_miss (by decide)).trans ?_)))) ?_))) | walk1 | (dsimp only; walk1) | (leave1; (try dsimp only))))
  refine stop_out ?_
  rename_i D2 h2 F2 N2 l2 _ _ l3 h3 F3 N3 l3b h4' F4 N4
  have lt3 : @LT.lt Nat _ q h3.objs.size := Heap.lt_size (N3 (q, _) (.tail _ (.tail _ (.tail _ (.tail _ (.tail _ (.head _))))))).1
  refine (or2_c (q := D2) (vs := vs) (tl := tl) hvs h4 (allne_of l2.2.2.2.2)).use (by k_asm) F4 (by k_asm) N4 (by k_asm) (by first | exact rfl | assumption) (by ktr_room) (by ktr_units) [(q, tup [.int 70 t1, .int 7 t2, .int 1 t3, .int 1 t4, .int 7 t5])]
    (List.forall_mem_cons.mpr ⟨.head _, List.forall_mem_cons.mpr ⟨.tail _ (.tail _ (.head _)), fun p hp => .tail _ (.tail _ (.tail _ (.tail _ (.tail _ (.tail _ (.tail _ hp))))))⟩⟩)
    (List.forall_mem_cons.mpr ⟨.tail _ (.tail _ (.tail _ (.tail _ (.tail _ (.tail _ (.head _)))))), fun _ h => nomatch h⟩) (Off.cons (off1 (Nat.ne_of_lt lt3)) (Off.cons (off1 (Nat.ne_of_lt l2.2.2.2.1)) (off_tl hq))) ?_
  intro r7 l7 h7' tk7' F7' N7 off7 P7
  obtain ⟨d2, s1', s2', e7, f7, hqd', htd'⟩ := P7
  subst e7; subst f7
  have ed' : @Ne Nat q d2 := fun e => off7 _ (.head _) _ (.head _) e.symm
  have N6' := cb_drop (news := (d2, tup [.int 7 s1', .int 0 s2']) :: (q, tup [.int 70 t1, .int 7 t2, .int 1 t3, .int 1 t4, .int 7 t5]) :: tl) N7
    (List.forall_mem_cons.mpr ⟨.head _, List.forall_mem_cons.mpr ⟨List.mem_append.mpr (.inr (.head _)), fun p hp => List.mem_append.mpr (.inl (.tail _ (.tail _ hp)))⟩⟩)
  clear N7 off7 F4 N4 F3 N3 F2 N2
  dsimp only
  (repeat' (first | (k_unfold; (try dsimp only)) | (k_end; wrow_close) | (with_reducible ((with_reducible show wpAny _ _ (call (Value.ref 64) _) _ _ _); refine stop_at ?_)) | (with_reducible ((with_reducible refine execs_tk ?_); intro _; (try dsimp only); (try k_fold))) | (with_reducible ((with_reducible show wpAny _ _ (call (Value.ref _) _) _ _ _); refine wpAny_call ?_; k_dflt (refine code_def (by k_asm) (by k_asm) (by k_asm) (by k_asm) (by k_asm) rfl rfl (by first | exact rfl | assumption) (by k_is) (by k_is) (by ktr_room) (by exact BindsTo.of_eq rfl) (by exact locs rfl) ?_ (by exact rfl) (by exact rfl) (by exact rfl) (by decide); k_whole; intro g' L' h' FG' F' N' B' X' T'; (try dsimp only); (try k_lift B'); (try k_fold)))) | (with_reducible ((with_reducible show wpAny _ _ (eval (PySem.Expr.Subscript (PySem.Expr.Name _ _) (PySem.Expr.Constant (Const.str _) _ _) _) (envOf _ _ _ _ _)) _ _ _); k_dflt (refine sub_key (by k_asm) (by exact rfl) (by k_asm) (by k_mem) (by k_asm) (by (first | with_reducible exact va_router | with_reducible exact va_state | with_reducible exact va_dr | with_reducible exact va_bdr | with_reducible exact va_dr_address | with_reducible exact va_bdr_address | with_reducible exact va_neighbours | with_reducible exact va_hello_at | with_reducible exact va_wait_until | with_reducible exact va_kind | with_reducible exact va_address | with_reducible exact va_priority | with_reducible exact va_hello | with_reducible exact va_dead | with_reducible exact va_options | with_reducible exact va_delay | with_reducible exact va_number | with_reducible exact va_area | with_reducible exact va_stub | with_reducible exact va_length | with_reducible exact va_cost | with_reducible exact va_resend | (repeat (first | exact valueAt_hit | refine (valueAt_miss (by decide)).trans ?_)))) ?_))) | walk1 | (dsimp only; walk1) | (leave1; (try dsimp only))))
  refine' ctr_end hret ?post ?G ?F' ?N' ?F ?N ?hs
  (case G => assumption); (case F' => assumption); (case N' => assumption); (case F => assumption); (case N => assumption); (case hs => exact fun _ hp => hp)
  exact ⟨d2, _, _, rfl, rfl, ed', htd'⟩
section
theorem off_M12 : True := by w_top off; trivial
local macro_rules | `(tactic| walk_at "none 0") => `(tactic| fail)
open PySem.SeqAt in
theorem wpAny_forIn_upto {M : Model} {A : Around} {E : Value → Shared → Prop} {s : Shared} {β : Type} (n : Nat) (f : Nat → β → Sem (ForInStep β)) (I : List Nat → β → Shared → Prop) (Q : β → Shared → Prop)
    (turn : ∀ y rest b s', I (y :: rest) b s' → wpAny M A (f y b) (fun r s'' => match r with | .yield b' => I rest b' s'' | .done b' => Q b' s'') E s')
    (fin : ∀ b s', I [] b s' → Q b s') (b : β) (h : I (List.range' 0 n) b s) : wpAny M A (forIn [:n] b f) Q E s := by
  rw [Std.Legacy.Range.forIn_eq_forIn_range']
  simp only [Std.Legacy.Range.size, Nat.sub_zero, Nat.add_sub_cancel, Nat.div_one]
  exact wpAny_forIn_list f I Q turn fin _ b h
open PySem.SeqAt in
theorem tuple_index_at (l : Addr) (items : Array Value) (n : Nat) (dd : Option Addr) (sl : Array (Option Value)) (x : Value) (e : Value → Bool) (j : Nat) (hj : j < items.size)
    (hit : e items[j] = true) (hno : ∀ m (hm : m < items.size), m < j → e items[m] = false) :
    Meets (Builtin.«tuple.index» ⟨[.ref l, x], []⟩)
      (fun A R s => s.heap.get? l = some { cls := .type "tuple", dict := dd, data := .seq items n, slots := sl } ∧ (∀ y, y ∈ items → EqAt A.in1 s y x (e y)) ∧ R (.ok (.ret (.int j s.toks))) { s with toks := s.toks + 1 }) :=
  .of_wp fun prog w A R s h => by
    obtain ⟨hp, g, d, tk, os⟩ := s; obtain ⟨hl, he, h⟩ := h
    wp_walk using wpAny_loadPart' hl, wpAny_forIn_upto _ _ (fun rest b s' => b.1 = none ∧ s' = ⟨hp, g, d, tk, os⟩ ∧ ∃ i, rest = List.range' i (items.size - i) ∧ i ≤ j) _
    case turn =>
      rintro y rest b s' ⟨hb, rfl, i, hr, hi⟩
      have e1 : items.size - i = (items.size - (i + 1)) + 1 := by rw [Nat.sub_add_eq, Nat.sub_add_cancel (Nat.sub_pos_of_lt (Nat.lt_of_le_of_lt hi hj))]
      rw [e1, List.range'_succ] at hr
      injection hr with h1 h2
      subst h1
      have hlt : y < items.size := by omega
      rw [Array.getElem?_eq_getElem hlt]
      dsimp only
      refine wpAny_bind (he items[y] (Array.getElem_mem hlt) prog w _ _ ?_)
      by_cases hyj : y = j
      · subst hyj
        rw [hit]
        wp_walk
        exact ⟨_, rfl, h⟩
      · rw [hno y hlt (by omega)]
        wp_walk
        exact ⟨rfl, rfl, y + 1, h2, by omega⟩
    case fin =>
      rintro ⟨b1, b2⟩ s' ⟨hb, rfl, i, hr, hi⟩
      exfalso
      have e1 : items.size - i = (items.size - (i + 1)) + 1 := by rw [Nat.sub_add_eq, Nat.sub_add_cancel (Nat.sub_pos_of_lt (Nat.lt_of_le_of_lt hi hj))]
      rw [e1, List.range'_succ] at hr
      cases hr
    case h =>
      refine ⟨rfl, rfl, 0, ?_, Nat.zero_le _⟩
      rw [Nat.min_self, Nat.sub_zero]

noncomputable def strIs (x : PySem.Str) : Value → Bool
  | .str b _ => b == x
  | _ => false
theorem tuple_index_strs {prog : Program} {w : World} {A : Around} {E : Value → Shared → Prop} {s : Shared} {l : Addr} {items : Array Value} {x : PySem.Str} {t : Tok} {Q : Value → Shared → Prop} (j : Nat)
    (ho : s.heap.get? l = some { cls := .type "tuple", data := .seq items }) (hs : ∀ y ∈ items, ∃ b u, y = .str b u) (hj : j < items.size) (hit : strIs x items[j] = true) (hno : ∀ m (hm : m < items.size), m < j → strIs x items[m] = false)
    (h : Q (.int j s.toks) { s with toks := s.toks + 1 }) : wpAny (model prog w) A (call (.builtin "tuple.index") [.ref l, .str x t]) Q E s :=
  call_meets PySem.F.slot_tuple_index ⟨_, ho, rfl⟩ PySem.F.entry_tuple_index (PySem.F.args_tuple_index_2 _ _) (tuple_index_at l items 0 none #[] (.str x t) (strIs x) j hj hit hno)
    ⟨ho, fun y hy => by obtain ⟨b, u, rfl⟩ := hs y hy; exact PySem.SeqAt.EqAt.str_str b u x t, h⟩
theorem st_index {w : World} {A : Around} {E : Value → Shared → Prop} {s : Shared} {h₀ : Heap} {L : Addr} {m : PySem.Str → Option Value} {t : Tok} {Q : Value → Shared → Prop} {x : String} (j : Nat)
    (hx : (x = "down" ∧ j = 0) ∨ (x = "init" ∧ j = 2) ∨ (x = "two_way" ∧ j = 3) ∨ (x = "full" ∧ j = 7)) (F : Fr h₀ L s.heap m) (X : (hd.heap_39 w.params).In h₀)
    (h : Q (.int j s.toks) { s with toks := s.toks + 1 }) : wpAny (model PR w) A (call (.builtin "tuple.index") [.ref 130, .str (Str.ofString x) t]) Q E s := by
  have ho := fun (o : Obj) (e : (hd.heap_39 w.params).lookup 130 = some o) => F.keep _ _ (X _ _ e)
  refine tuple_index_strs j (ho _ (by k_is)) ?_ ?_ ?_ ?_ h
  · intro y hy
    simp only [List.mem_toArray, List.mem_cons, List.not_mem_nil, or_false] at hy
    rcases hy with rfl | rfl | rfl | rfl | rfl | rfl | rfl | rfl <;> exact ⟨_, _, rfl⟩
  · rcases hx with ⟨_, rfl⟩ | ⟨_, rfl⟩ | ⟨_, rfl⟩ | ⟨_, rfl⟩ <;> decide
  · rcases hx with ⟨rfl, rfl⟩ | ⟨rfl, rfl⟩ | ⟨rfl, rfl⟩ | ⟨rfl, rfl⟩ <;> exact beq_self_eq_true _
  · have ne : ∀ a b : String, a ≠ b → (Str.ofString a == Str.ofString b) = false := fun a b h => beq_eq_false_iff_ne.mpr fun e => h (ofs_inj e)
    rcases hx with ⟨rfl, rfl⟩ | ⟨rfl, rfl⟩ | ⟨rfl, rfl⟩ | ⟨rfl, rfl⟩ <;> intro m hm hlt
    · exact absurd hlt (Nat.not_lt_zero _)
    · have : m = 0 ∨ m = 1 := (by decide : ∀ m < 2, m = 0 ∨ m = 1) m hlt
      rcases this with rfl | rfl <;> exact ne _ _ (by decide)
    · have : m = 0 ∨ m = 1 ∨ m = 2 := (by decide : ∀ m < 3, m = 0 ∨ m = 1 ∨ m = 2) m hlt
      rcases this with rfl | rfl | rfl <;> exact ne _ _ (by decide)
    · have : m = 0 ∨ m = 1 ∨ m = 2 ∨ m = 3 ∨ m = 4 ∨ m = 5 ∨ m = 6 := (by decide : ∀ m < 7, m = 0 ∨ m = 1 ∨ m = 2 ∨ m = 3 ∨ m = 4 ∨ m = 5 ∨ m = 6) m hlt
      rcases this with rfl | rfl | rfl | rfl | rfl | rfl | rfl <;> exact ne _ _ (by decide)
theorem st_meth {w : World} {A : Around} {E : Value → Shared → Prop} {s : Shared} {h₀ : Heap} {L : Addr} {m : PySem.Str → Option Value} {pl : Sem Bool} {Q : Value × List Value → Shared → Prop} (F : Fr h₀ L s.heap m) (X : (hd.heap_39 w.params).In h₀)
    (h : Q (.builtin "tuple.index", [.ref 130]) s) : wpAny (model PR w) A (getMethod (.ref 130) "index" pl) Q E s := by
  have ho := fun (o : Obj) (e : (hd.heap_39 w.params).lookup 130 = some o) => F.keep _ _ (X _ _ e)
  have h1 := ho _ (by k_is)
  exact getMethod_builtin ⟨_, h1, rfl⟩ PySem.F.plainAttrs_tuple PySem.F.slot_tuple_index PySem.F.type_tuple_index (fun a e => by cases e; exact ⟨_, h1, rfl⟩) h
set_option maxHeartbeats 4000000 in
theorem both_c {w : World} {t : Tok} : Ctr w 2 144 [.str "full" t] [] (fun z l => z = .bool true ∧ l = []) := by
  unfold Ctr
  intro mean mg mb dp un gd cn cs a' ccd cl outer A₀ base h₀ L m s Q E B F X N T hk hdp hun hret
  refine wpAny_call ?_
  k_dflt ((refine' code_defG ?k1 ?k2 ?k3 ?k4 ?k5 ?kA ?kF ?kK ?k6 ?k7 ?k8 ?k9 ?kB ?_ ?c2 ?c3 ?c4 ?c5; (case kA => exact rfl); (case kF => exact rfl); (case kK => assumption); (case k1 => k_asm); (case k2 => k_asm); (case k3 => k_asm); (case k4 => k_asm); (case k5 => k_asm); (case k6 => k_is); (case k7 => k_is); (case k8 => ktr_room); (case k9 => exact BindsTo.of_eq rfl); (case c5 => decide); (case kB => exact locs rfl); (case c2 => exact rfl); (case c3 => exact rfl); (case c4 => exact rfl); k_whole; intro g' L' h' FG' F' N' B' X' T' kG'; (try dsimp only); (try k_lift B'); (try k_fold)))
  (repeat' (first | (k_unfold; (try dsimp only)) | (k_end; wrow_close) | (with_reducible ((with_reducible show wpAny _ _ (getMethod (Value.ref 130) _ _) _ _ _); k_dflt (refine st_meth (by k_asm) (by k_asm) ?_))) | (with_reducible ((with_reducible show wpAny _ _ (call (Value.builtin "tuple.index") _) _ _ _); (k_dflt (first | refine st_index 3 (.inr (.inr (.inl ⟨rfl, rfl⟩))) (by k_asm) (by k_asm) ?_ | refine st_index 2 (.inr (.inl ⟨rfl, rfl⟩)) (by k_asm) (by k_asm) ?_ | refine st_index 0 (.inl ⟨rfl, rfl⟩) (by k_asm) (by k_asm) ?_ | refine st_index 7 (.inr (.inr (.inr ⟨rfl, rfl⟩))) (by k_asm) (by k_asm) ?_)))) | (with_reducible ((with_reducible refine execs_tk ?_); intro _; (try dsimp only); (try k_fold))) | (with_reducible ((with_reducible show wpAny _ _ (call (Value.ref _) _) _ _ _); refine wpAny_call ?_; k_dflt (refine code_def (by k_asm) (by k_asm) (by k_asm) (by k_asm) (by k_asm) rfl rfl (by first | exact rfl | assumption) (by k_is) (by k_is) (by ktr_room) (by exact BindsTo.of_eq rfl) (by exact locs rfl) ?_ (by exact rfl) (by exact rfl) (by exact rfl) (by decide); k_whole; intro g' L' h' FG' F' N' B' X' T'; (try dsimp only); (try k_lift B'); (try k_fold)))) | walk1 | (dsimp only; walk1) | (leave1; (try dsimp only))))
  refine' ctr_end hret ?post ?G ?F' ?N' ?F ?N ?hs
  case post => exact ⟨by simp, rfl⟩
  (((case G => assumption); (case F' => assumption); (case N' => assumption); (case F => assumption); (case N => assumption); (case hs => lcg_sub)))
set_option maxHeartbeats 4000000 in
theorem told1_c {w : World} {t : Tok} : Ctr w 2 151 [.str "init" t] [] (fun z l => z = .bool true ∧ l = []) := by
  unfold Ctr
  intro mean mg mb dp un gd cn cs a' ccd cl outer A₀ base h₀ L m s Q E B F X N T hk hdp hun hret
  refine wpAny_call ?_
  k_dflt ((refine' code_defG ?k1 ?k2 ?k3 ?k4 ?k5 ?kA ?kF ?kK ?k6 ?k7 ?k8 ?k9 ?kB ?_ ?c2 ?c3 ?c4 ?c5; (case kA => exact rfl); (case kF => exact rfl); (case kK => assumption); (case k1 => k_asm); (case k2 => k_asm); (case k3 => k_asm); (case k4 => k_asm); (case k5 => k_asm); (case k6 => k_is); (case k7 => k_is); (case k8 => ktr_room); (case k9 => exact BindsTo.of_eq rfl); (case c5 => decide); (case kB => exact locs rfl); (case c2 => exact rfl); (case c3 => exact rfl); (case c4 => exact rfl); k_whole; intro g' L' h' FG' F' N' B' X' T' kG'; (try dsimp only); (try k_lift B'); (try k_fold)))
  (repeat' (first | (k_unfold; (try dsimp only)) | (k_end; wrow_close) | (with_reducible ((with_reducible show wpAny _ _ (getMethod (Value.ref 130) _ _) _ _ _); k_dflt (refine st_meth (by k_asm) (by k_asm) ?_))) | (with_reducible ((with_reducible show wpAny _ _ (call (Value.builtin "tuple.index") _) _ _ _); (k_dflt (first | refine st_index 3 (.inr (.inr (.inl ⟨rfl, rfl⟩))) (by k_asm) (by k_asm) ?_ | refine st_index 2 (.inr (.inl ⟨rfl, rfl⟩)) (by k_asm) (by k_asm) ?_ | refine st_index 0 (.inl ⟨rfl, rfl⟩) (by k_asm) (by k_asm) ?_ | refine st_index 7 (.inr (.inr (.inr ⟨rfl, rfl⟩))) (by k_asm) (by k_asm) ?_)))) | (with_reducible ((with_reducible refine execs_tk ?_); intro _; (try dsimp only); (try k_fold))) | (with_reducible ((with_reducible show wpAny _ _ (call (Value.ref _) _) _ _ _); refine wpAny_call ?_; k_dflt (refine code_def (by k_asm) (by k_asm) (by k_asm) (by k_asm) (by k_asm) rfl rfl (by first | exact rfl | assumption) (by k_is) (by k_is) (by ktr_room) (by exact BindsTo.of_eq rfl) (by exact locs rfl) ?_ (by exact rfl) (by exact rfl) (by exact rfl) (by decide); k_whole; intro g' L' h' FG' F' N' B' X' T'; (try dsimp only); (try k_lift B'); (try k_fold)))) | walk1 | (dsimp only; walk1) | (leave1; (try dsimp only))))
  refine' ctr_end hret ?post ?G ?F' ?N' ?F ?N ?hs
  case post => exact ⟨by simp, rfl⟩
  (((case G => assumption); (case F' => assumption); (case N' => assumption); (case F => assumption); (case N => assumption); (case hs => lcg_sub)))
set_option maxHeartbeats 4000000 in
theorem told0_c {w : World} {t : Tok} : Ctr w 2 151 [.str "down" t] [] (fun z l => z = .bool false ∧ l = []) := by
  unfold Ctr
  intro mean mg mb dp un gd cn cs a' ccd cl outer A₀ base h₀ L m s Q E B F X N T hk hdp hun hret
  refine wpAny_call ?_
  k_dflt ((refine' code_defG ?k1 ?k2 ?k3 ?k4 ?k5 ?kA ?kF ?kK ?k6 ?k7 ?k8 ?k9 ?kB ?_ ?c2 ?c3 ?c4 ?c5; (case kA => exact rfl); (case kF => exact rfl); (case kK => assumption); (case k1 => k_asm); (case k2 => k_asm); (case k3 => k_asm); (case k4 => k_asm); (case k5 => k_asm); (case k6 => k_is); (case k7 => k_is); (case k8 => ktr_room); (case k9 => exact BindsTo.of_eq rfl); (case c5 => decide); (case kB => exact locs rfl); (case c2 => exact rfl); (case c3 => exact rfl); (case c4 => exact rfl); k_whole; intro g' L' h' FG' F' N' B' X' T' kG'; (try dsimp only); (try k_lift B'); (try k_fold)))
  (repeat' (first | (k_unfold; (try dsimp only)) | (k_end; wrow_close) | (with_reducible ((with_reducible show wpAny _ _ (getMethod (Value.ref 130) _ _) _ _ _); k_dflt (refine st_meth (by k_asm) (by k_asm) ?_))) | (with_reducible ((with_reducible show wpAny _ _ (call (Value.builtin "tuple.index") _) _ _ _); (k_dflt (first | refine st_index 3 (.inr (.inr (.inl ⟨rfl, rfl⟩))) (by k_asm) (by k_asm) ?_ | refine st_index 2 (.inr (.inl ⟨rfl, rfl⟩)) (by k_asm) (by k_asm) ?_ | refine st_index 0 (.inl ⟨rfl, rfl⟩) (by k_asm) (by k_asm) ?_ | refine st_index 7 (.inr (.inr (.inr ⟨rfl, rfl⟩))) (by k_asm) (by k_asm) ?_)))) | (with_reducible ((with_reducible refine execs_tk ?_); intro _; (try dsimp only); (try k_fold))) | (with_reducible ((with_reducible show wpAny _ _ (call (Value.ref _) _) _ _ _); refine wpAny_call ?_; k_dflt (refine code_def (by k_asm) (by k_asm) (by k_asm) (by k_asm) (by k_asm) rfl rfl (by first | exact rfl | assumption) (by k_is) (by k_is) (by ktr_room) (by exact BindsTo.of_eq rfl) (by exact locs rfl) ?_ (by exact rfl) (by exact rfl) (by exact rfl) (by decide); k_whole; intro g' L' h' FG' F' N' B' X' T'; (try dsimp only); (try k_lift B'); (try k_fold)))) | walk1 | (dsimp only; walk1) | (leave1; (try dsimp only))))
  refine' ctr_end hret ?post ?G ?F' ?N' ?F ?N ?hs
  case post => exact ⟨by simp, rfl⟩
  (((case G => assumption); (case F' => assumption); (case N' => assumption); (case F => assumption); (case N => assumption); (case hs => lcg_sub)))
end
theorem off_M10 : True := by w_top off; trivial
theorem off_tl2 {a b : Addr} {o p : Obj} {tl : Led} (h : ∀ p ∈ tl, p.1 ≠ a) (k : ∀ p ∈ tl, p.1 ≠ b) : Off tl [(a, o), (b, p)] := fun x hx y hy e => by
  rcases List.mem_cons.mp hy with rfl | hy
  · exact h x hx e
  · rw [List.mem_singleton.mp hy] at e; exact k x hx e
theorem choice_off {e q d nb u : Addr} {tl : Led} (h : (@LT.lt Nat _ e u) ∧ (@LT.lt Nat _ q u) ∧ (@LT.lt Nat _ d u) ∧ (@LT.lt Nat _ nb u) ∧ AllLt u tl) : NeA u d := Nat.ne_of_gt h.2.2.1
/-- the end of a contract's proof where the third object is of no use any more -/
theorem ctr_end3 {h₀ g h' : Heap} {L L' : Addr} {m m' : PySem.Str → Option Value} {adr : List Addr} {s : Shared} {Q : Value → Shared → Prop} {Post : Value → Led → Prop} {a b c : Addr × Obj} {rest : Led} {r : Value} {tk' : Nat}
    (hret : ∀ (r : Value) (foot' : Led) (h' : Heap) (tk' : Nat), Fr h₀ L h' m → News h₀ L h' foot' → (∀ b o, s.heap.get? b = some o → b ∉ adr → h'.get? b = some o) → (∀ p ∈ foot', s.heap.get? p.1 = none ∨ p.1 ∈ adr) →
      Post r foot' → Q r { s with heap := h', toks := tk' })
    (G : GSub s.heap g adr) (F' : Fr g L' h' m') (N' : News g L' h' (a :: b :: c :: rest)) (F : Fr h₀ L h' m) (N : News h₀ L h' (a :: b :: c :: rest)) (post : Post r (a :: b :: rest)) : Q r { s with heap := h', toks := tk' } :=
  ctr_end hret post G F' N' F N fun p hp => by
    rcases List.mem_cons.mp hp with rfl | hp
    · exact .head _
    · rcases List.mem_cons.mp hp with rfl | hp
      · exact .tail _ (.head _)
      · exact .tail _ (.tail _ (.tail _ hp))
noncomputable abbrev ownRow (t1 t2 t3 t4 t5 : Tok) : Obj := tup [.int 70 t1, .int 7 t2, .int 1 t3, .int 1 t4, .int 7 t5]
/-- between the turns of choice_of's loop -/
inductive TurnCh (w : World) (I d nb q rl : Addr) (o lo qo : Obj) (tl : Led) (r : List Value) (m : PySem.Str → Option Value) (news : Led) : Prop
  | mk (rs : List Value) (zl : Led) (kk : Nat) (xs' : List (Int × Int)) (q1 : news = (rl, listOf rs.toArray kk) :: (q, qo) :: (d, o) :: (nb, lo) :: zl) (q2 : m "rows" = some (.ref rl)) (q3 : m "own" = some (.ref q)) (q4 : NbsAt w zl r xs') (q5 : (∀ v ∈ rs, Row0 zl v)) (q6 : rs.length + r.length ≤ 4) (q7 : (∀ p ∈ tl, p ∈ zl)) (q8 : (∀ p ∈ zl, p.1 ≠ d)) (q9 : (∀ p ∈ zl, p.1 ≠ nb)) (q10 : (∀ p ∈ zl, p.1 ≠ q)) (q11 : (∀ p ∈ zl, p.1 ≠ rl)) (q12 : (∀ p ∈ zl, p.1 ≠ I)) : TurnCh w I d nb q rl o lo qo tl r m news
theorem Row0.mono {tl tl' : Led} {v : Value} (h : Row0 tl v) (k : ∀ p ∈ tl, p ∈ tl') : Row0 tl' v :=
  let ⟨b, r, a, x, y, t1, t2, t3, t4, t5, e, hm⟩ := h
  ⟨b, r, a, x, y, t1, t2, t3, t4, t5, e, k _ hm⟩
theorem turnCh_end {w : World} {I d nb q rl D : Addr} {o lo qo it : Obj} {tl zl all : Led} {rs r : List Value} {xs : List (Int × Int)} {kk : Nat} {g h' : Heap} {L : Addr} {s₁ : Shared} {tk : Nat} {m' : PySem.Str → Option Value}
    {rr ra rx ry : Int} {s1 s2 s3 s4 s5 : Tok}
    (F : Fr g L h' m') (N : News g L h' all) (mf : m' "rows" = some (.ref rl)) (mp : m' "own" = some (.ref q)) (hI : (I, it) ∈ all) (hrl : (rl, listOf (rs.toArray.push (.ref D)) (kk + 1)) ∈ all) (hq : (q, qo) ∈ all) (hd : (d, o) ∈ all) (hn : (nb, lo) ∈ all)
    (hD : (D, tup [.int rr s1, .int ra s2, .int 0 s3, .int rx s4, .int ry s5]) ∈ all) (hz : ∀ p ∈ zl, p ∈ all)
    (hws : NbsAt w zl r xs) (hrs : ∀ v ∈ rs, Row0 zl v) (hlen : rs.length + (r.length + 1) ≤ 4) (htl : ∀ p ∈ tl, p ∈ zl)
    (q1 : ∀ p ∈ zl, p.1 ≠ d) (q2 : ∀ p ∈ zl, p.1 ≠ nb) (q3 : ∀ p ∈ zl, p.1 ≠ q) (q4 : ∀ p ∈ zl, p.1 ≠ rl) (q5 : ∀ p ∈ zl, p.1 ≠ I)
    (e1 : @Ne Nat D d) (e2 : @Ne Nat D nb) (e3 : @Ne Nat D q) (e4 : @Ne Nat D rl) (e5 : @Ne Nat D I) (f1 : @Ne Nat d I) (f2 : @Ne Nat nb I) (f3 : @Ne Nat q I) (f4 : @Ne Nat rl I) :
    UnrEnd g L s₁ I it (fun m' n' => (nb, lo) ∈ n' ∧ TurnCh w I d nb q rl o lo qo tl r m' n') { s₁ with heap := h', toks := tk } := by
  have cons : ∀ {z : Addr}, (∀ p ∈ zl, p.1 ≠ z) → @Ne Nat D z → ∀ p ∈ (D, tup [.int rr s1, .int ra s2, .int 0 s3, .int rx s4, .int ry s5]) :: zl, p.1 ≠ z := fun q e p hp x => by
    rcases List.mem_cons.mp hp with rfl | hp
    · exact e x
    · exact q p hp x
  refine UnrEnd.intro F N ((rl, listOf (rs.toArray.push (.ref D)) (kk + 1)) :: (q, qo) :: (d, o) :: (nb, lo) :: (D, tup [.int rr s1, .int ra s2, .int 0 s3, .int rx s4, .int ry s5]) :: zl) ?_ ?_ ?_
  · exact List.forall_mem_cons.mpr ⟨hI, List.forall_mem_cons.mpr ⟨hrl, List.forall_mem_cons.mpr ⟨hq, List.forall_mem_cons.mpr ⟨hd, List.forall_mem_cons.mpr ⟨hn, List.forall_mem_cons.mpr ⟨hD, hz⟩⟩⟩⟩⟩⟩
  · exact List.forall_mem_cons.mpr ⟨f4, List.forall_mem_cons.mpr ⟨f3, List.forall_mem_cons.mpr ⟨f1, List.forall_mem_cons.mpr ⟨f2, cons q5 e5⟩⟩⟩⟩
  · refine ⟨.tail _ (.tail _ (.tail _ (.head _))), rs ++ [.ref D], (D, tup [.int rr s1, .int ra s2, .int 0 s3, .int rx s4, .int ry s5]) :: zl, kk + 1, xs, ?_, mf, mp, hws.mono fun p hp => .tail _ hp, ?_, ?_, fun p hp => .tail _ (htl p hp), cons q1 e1, cons q2 e2, cons q3 e3, cons q4 e4, cons q5 e5⟩
    · rw [List.push_toArray]
    · intro v hv
      rcases List.mem_append.mp hv with hv | hv
      · exact (hrs v hv).mono fun p hp => .tail _ hp
      · rw [List.mem_singleton.mp hv]; exact ⟨D, rr, ra, rx, ry, s1, s2, s3, s4, s5, rfl, .head _⟩
    · rw [List.length_append, List.length_singleton]; omega
set_option maxHeartbeats 4000000 in
theorem choice_c {w : World} {d nb : Addr} {o : Obj} {kd st : PySem.Str} {dr bdr : Int} {ha wu de op : Value} {t1 t2 t3 t4 t5 t6 t7 t8 t9 t10 t11 t12 t13 t14 t15 t16 : Tok} {ws : List Value} {xs : List (Int × Int)} {k : Nat} {tl : Led}
    (hd : o.IsDictOf (PySem.strKind PR w) (ifKvs kd st 7 dr bdr 1 7 nb ha wu de op t1 t2 t3 t4 t5 t6 t7 t8 t9 t10 t11 t12 t13 t14 t15 t16)) (hws : NbsAt w tl ws xs) (h4 : ws.length ≤ 4)
    (hdn : NeA d nb) (htd : ∀ p ∈ tl, p.1 ≠ d) (htn : ∀ p ∈ tl, p.1 ≠ nb) :
    Ctr w 8 185 [.ref d] ((d, o) :: (nb, listOf ws.toArray k) :: tl)
      (fun z l => ∃ u e s1 s2 s3, z = .ref u ∧ l = (u, tup [.ref e, .str "dr" s3]) :: (e, tup [.int 7 s1, .int 0 s2]) :: (d, o) :: (nb, listOf ws.toArray k) :: tl ∧ NeA u d ∧ NeA e d) := by
  unfold Ctr
  intro mean mg mb dp un gd cn cs a' ccd cl outer A₀ base h₀ L m s Q E B F X N T hk hdp hun hret
  unfold NeA at hdn
  refine wpAny_call ?_
  k_dflt ((refine' code_defG ?k1 ?k2 ?k3 ?k4 ?k5 ?kA ?kF ?kK ?k6 ?k7 ?k8 ?k9 ?kB ?_ ?c2 ?c3 ?c4 ?c5; (case kA => exact rfl); (case kF => exact rfl); (case kK => assumption); (case k1 => k_asm); (case k2 => k_asm); (case k3 => k_asm); (case k4 => k_asm); (case k5 => k_asm); (case k6 => k_is); (case k7 => k_is); (case k8 => ktr_room); (case k9 => exact BindsTo.of_eq rfl); (case c5 => decide); (case kB => exact locs rfl); (case c2 => exact rfl); (case c3 => exact rfl); (case c4 => exact rfl); k_whole; intro g' L' h' FG' F' N' B' X' T' kG'; (try dsimp only); (try k_lift B'); (try k_fold)))
  (repeat' (first | (k_unfold; (try dsimp only)) | (k_end; wrow_close) | (with_reducible ((with_reducible show wpAny _ _ (call (Value.ref 85) _) _ _ _); refine stop_at ?_)) | (with_reducible ((with_reducible show wpAny _ _ (call (Value.ref 144) _) _ _ _); k_dflt (refine both_c.use (by k_asm) (by k_asm) (by k_asm) (by k_asm) (by k_asm) (by first | exact rfl | assumption) (by ktr_room) (by ktr_units) _ (fun _ h => nomatch h) (fun _ h => h) Off.nil ?_); intro rz9 lz9 hz9 tkz9 Fz9 Nz9 offz9 Pz9; obtain ⟨ez9, fz9⟩ := Pz9; subst ez9; subst fz9; simp only [List.nil_append] at Nz9; clear offz9; (try dsimp only))) | (with_reducible ((with_reducible show wpAny _ _ (exec _ (envOf (Str.ofString "choice_of") _ _ _ _)) _ _ _); (rename Fr _ _ _ _ => lF'); (with_unfolding_all refine' For_invVF lF' ?_ ?_ ?_; exact rfl; exact rfl; k_whole))) | (with_reducible ((with_reducible show wpAny _ _ (pyIter (Value.ref _)) (fun it s₂ => LoopAtV _ _ _ _ (envOf (Str.ofString "choice_of") _ _ _ _) _ _ _ _ it s₂) _ _); (rename Fr _ _ _ _ => lF'); (rename News _ _ _ _ => lN'); (with_unfolding_all refine iter_listUnr (by rfl) lF' lN' (by k_mem) (by rfl) (by rfl) ?_); clear lF' lN'; intro I l1; (try k_lt l1))) | (with_reducible ((with_reducible show wpAny _ _ (call (Value.builtin _) [Value.ref _, _]) _ _ _); k_dflt (refine append_K (by k_asm) (by k_asm) (by k_upd) ?_ (by rw [List.size_toArray, sizeLine_eq]; omega)); intro h' F' N'; (try dsimp only))) | (with_reducible ((with_reducible refine execs_tk ?_); intro _; (try dsimp only); (try k_fold))) | (with_reducible ((with_reducible show wpAny _ _ (call (Value.ref _) _) _ _ _); refine wpAny_call ?_; k_dflt (refine code_def (by k_asm) (by k_asm) (by k_asm) (by k_asm) (by k_asm) rfl rfl (by first | exact rfl | assumption) (by k_is) (by k_is) (by ktr_room) (by exact BindsTo.of_eq rfl) (by exact locs rfl) ?_ (by exact rfl) (by exact rfl) (by exact rfl) (by decide); k_whole; intro g' L' h' FG' F' N' B' X' T'; (try dsimp only); (try k_lift B'); (try k_fold)))) | (with_reducible ((with_reducible show wpAny _ _ (eval (PySem.Expr.Subscript (PySem.Expr.Name _ _) (PySem.Expr.Constant (Const.str _) _ _) _) (envOf _ _ _ _ _)) _ _ _); k_dflt (refine sub_key (by k_asm) (by exact rfl) (by k_asm) (by k_mem) (by k_asm) (by (first | with_reducible exact va_router | with_reducible exact va_state | with_reducible exact va_dr | with_reducible exact va_bdr | with_reducible exact va_dr_address | with_reducible exact va_bdr_address | with_reducible exact va_neighbours | with_reducible exact va_hello_at | with_reducible exact va_wait_until | with_reducible exact va_kind | with_reducible exact va_address | with_reducible exact va_priority | with_reducible exact va_hello | with_reducible exact va_dead | with_reducible exact va_options | with_reducible exact va_delay | with_reducible exact va_number | with_reducible exact va_area | with_reducible exact va_stub | with_reducible exact va_length | with_reducible exact va_cost | with_reducible exact va_resend | (repeat (first | exact valueAt_hit | refine (valueAt_miss (by decide)).trans ?_)))) ?_))) | (with_reducible ((with_reducible show wpAny _ _ (subscriptTail _ _ (Value.ref _) (Value.str _ _)) _ _ _); k_dflt (refine kda_item (knd := PySem.strKind _ _) (by k_asm) (by k_mem) (by k_asm) (strKind_is _ _ _ _) (by (first | with_reducible exact va_router | with_reducible exact va_state | with_reducible exact va_dr | with_reducible exact va_bdr | with_reducible exact va_dr_address | with_reducible exact va_bdr_address | with_reducible exact va_neighbours | with_reducible exact va_hello_at | with_reducible exact va_wait_until | with_reducible exact va_kind | with_reducible exact va_address | with_reducible exact va_priority | with_reducible exact va_hello | with_reducible exact va_dead | with_reducible exact va_options | with_reducible exact va_delay | with_reducible exact va_number | with_reducible exact va_area | with_reducible exact va_stub | with_reducible exact va_length | with_reducible exact va_cost | with_reducible exact va_resend | (repeat (first | exact valueAt_hit | refine (valueAt_miss (by decide)).trans ?_)))) ?_))) | walk1 | (dsimp only; walk1) | (leave1; (try dsimp only))))
  rename_i q hA l1a hB tkA qkA ekA rl hC l1b hD tkB
  refine list_ind (TurnCh w I d nb q rl o (listOf ws.toArray k) (ownRow t1 t10 t13 t5 t6) tl) ?_ ?_ _ _ _ ?_
  · intro m8 news8 h8 tk8 T8 F8 N8
    obtain ⟨rs, zl, kk, xs', e8, mf, mp, hr8, hrs, hlen, htl, q1, q2, q3, q4, q5⟩ := T8
    subst e8
    replace F8 := fr_name2 F8 mf mp (by decide)
    dsimp only
    (repeat' (first | (k_unfold; (try dsimp only)) | (k_end; wrow_close) | (with_reducible ((with_reducible show wpAny _ _ (call (Value.ref 85) _) _ _ _); refine stop_at ?_)) | (with_reducible ((with_reducible show wpAny _ _ (call (Value.ref 144) _) _ _ _); k_dflt (refine both_c.use (by k_asm) (by k_asm) (by k_asm) (by k_asm) (by k_asm) (by first | exact rfl | assumption) (by ktr_room) (by ktr_units) _ (fun _ h => nomatch h) (fun _ h => h) Off.nil ?_); intro rz9 lz9 hz9 tkz9 Fz9 Nz9 offz9 Pz9; obtain ⟨ez9, fz9⟩ := Pz9; subst ez9; subst fz9; simp only [List.nil_append] at Nz9; clear offz9; (try dsimp only))) | (with_reducible ((with_reducible show wpAny _ _ (exec _ (envOf (Str.ofString "choice_of") _ _ _ _)) _ _ _); (rename Fr _ _ _ _ => lF'); (with_unfolding_all refine' For_invVF lF' ?_ ?_ ?_; exact rfl; exact rfl; k_whole))) | (with_reducible ((with_reducible show wpAny _ _ (pyIter (Value.ref _)) (fun it s₂ => LoopAtV _ _ _ _ (envOf (Str.ofString "choice_of") _ _ _ _) _ _ _ _ it s₂) _ _); (rename Fr _ _ _ _ => lF'); (rename News _ _ _ _ => lN'); (with_unfolding_all refine iter_listUnr (by rfl) lF' lN' (by k_mem) (by rfl) (by rfl) ?_); clear lF' lN'; intro I l1; (try k_lt l1))) | (with_reducible ((with_reducible show wpAny _ _ (call (Value.builtin _) [Value.ref _, _]) _ _ _); k_dflt (refine append_K (by k_asm) (by k_asm) (by k_upd) ?_ (by rw [List.size_toArray, sizeLine_eq]; omega)); intro h' F' N'; (try dsimp only))) | (with_reducible ((with_reducible refine execs_tk ?_); intro _; (try dsimp only); (try k_fold))) | (with_reducible ((with_reducible show wpAny _ _ (call (Value.ref _) _) _ _ _); refine wpAny_call ?_; k_dflt (refine code_def (by k_asm) (by k_asm) (by k_asm) (by k_asm) (by k_asm) rfl rfl (by first | exact rfl | assumption) (by k_is) (by k_is) (by ktr_room) (by exact BindsTo.of_eq rfl) (by exact locs rfl) ?_ (by exact rfl) (by exact rfl) (by exact rfl) (by decide); k_whole; intro g' L' h' FG' F' N' B' X' T'; (try dsimp only); (try k_lift B'); (try k_fold)))) | (with_reducible ((with_reducible show wpAny _ _ (eval (PySem.Expr.Subscript (PySem.Expr.Name _ _) (PySem.Expr.Constant (Const.str _) _ _) _) (envOf _ _ _ _ _)) _ _ _); k_dflt (refine sub_key (by k_asm) (by exact rfl) (by k_asm) (by k_mem) (by k_asm) (by (first | with_reducible exact va_router | with_reducible exact va_state | with_reducible exact va_dr | with_reducible exact va_bdr | with_reducible exact va_dr_address | with_reducible exact va_bdr_address | with_reducible exact va_neighbours | with_reducible exact va_hello_at | with_reducible exact va_wait_until | with_reducible exact va_kind | with_reducible exact va_address | with_reducible exact va_priority | with_reducible exact va_hello | with_reducible exact va_dead | with_reducible exact va_options | with_reducible exact va_delay | with_reducible exact va_number | with_reducible exact va_area | with_reducible exact va_stub | with_reducible exact va_length | with_reducible exact va_cost | with_reducible exact va_resend | (repeat (first | exact valueAt_hit | refine (valueAt_miss (by decide)).trans ?_)))) ?_))) | (with_reducible ((with_reducible show wpAny _ _ (subscriptTail _ _ (Value.ref _) (Value.str _ _)) _ _ _); k_dflt (refine kda_item (knd := PySem.strKind _ _) (by k_asm) (by k_mem) (by k_asm) (strKind_is _ _ _ _) (by (first | with_reducible exact va_router | with_reducible exact va_state | with_reducible exact va_dr | with_reducible exact va_bdr | with_reducible exact va_dr_address | with_reducible exact va_bdr_address | with_reducible exact va_neighbours | with_reducible exact va_hello_at | with_reducible exact va_wait_until | with_reducible exact va_kind | with_reducible exact va_address | with_reducible exact va_priority | with_reducible exact va_hello | with_reducible exact va_dead | with_reducible exact va_options | with_reducible exact va_delay | with_reducible exact va_number | with_reducible exact va_area | with_reducible exact va_stub | with_reducible exact va_length | with_reducible exact va_cost | with_reducible exact va_resend | (repeat (first | exact valueAt_hit | refine (valueAt_miss (by decide)).trans ?_)))) ?_))) | walk1 | (dsimp only; walk1) | (leave1; (try dsimp only))))
    refine stop_out ?_
    have e1 : @Ne Nat rl q := by have := l1b.1; omega
    refine (elect_c hrs (by omega) q3 q4 e1).use (by k_asm) (by k_asm) (by k_asm) (by k_asm) (by k_asm) (by first | exact rfl | assumption) (by ktr_room) (by ktr_units) [(d, o), (nb, listOf ws.toArray k)]
      (List.forall_mem_cons.mpr ⟨.head _, List.forall_mem_cons.mpr ⟨.tail _ (.head _), fun p hp => .tail _ (.tail _ (.tail _ (.tail _ hp)))⟩⟩)
      (List.forall_mem_cons.mpr ⟨.tail _ (.tail _ (.head _)), List.forall_mem_cons.mpr ⟨.tail _ (.tail _ (.tail _ (.head _))), fun _ h => (nomatch h)⟩⟩)
      (Off.cons (by k_all) (Off.cons (by k_all) (off_tl2 q1 q2))) ?_
    intro r7 l7 h7 tk7 F7 N7 off7 P7
    obtain ⟨e, s1, s2, e7, f7, hqe, hte⟩ := P7
    subst e7; subst f7
    have ne1 : @Ne Nat e d := off7 _ (.head _) _ (.head _)
    have ne2 : @Ne Nat e nb := off7 _ (.head _) _ (.tail _ (.head _))
    have N6 := cb_drop (news := (e, tup [.int 7 s1, .int 0 s2]) :: (q, ownRow t1 t10 t13 t5 t6) :: (d, o) :: (nb, listOf ws.toArray k) :: tl) N7
      (List.forall_mem_cons.mpr ⟨.head _, List.forall_mem_cons.mpr ⟨.tail _ (.head _), List.forall_mem_cons.mpr ⟨List.mem_append.mpr (.inr (.head _)), List.forall_mem_cons.mpr ⟨List.mem_append.mpr (.inr (.tail _ (.head _))), fun p hp => List.mem_append.mpr (.inl (.tail _ (.tail _ (htl p hp))))⟩⟩⟩⟩)
    clear N7 off7 N8
    dsimp only
    (repeat' (first | (k_unfold; (try dsimp only)) | (k_end; wrow_close) | (with_reducible ((with_reducible show wpAny _ _ (call (Value.ref 85) _) _ _ _); refine stop_at ?_)) | (with_reducible ((with_reducible show wpAny _ _ (call (Value.ref 144) _) _ _ _); k_dflt (refine both_c.use (by k_asm) (by k_asm) (by k_asm) (by k_asm) (by k_asm) (by first | exact rfl | assumption) (by ktr_room) (by ktr_units) _ (fun _ h => nomatch h) (fun _ h => h) Off.nil ?_); intro rz9 lz9 hz9 tkz9 Fz9 Nz9 offz9 Pz9; obtain ⟨ez9, fz9⟩ := Pz9; subst ez9; subst fz9; simp only [List.nil_append] at Nz9; clear offz9; (try dsimp only))) | (with_reducible ((with_reducible show wpAny _ _ (exec _ (envOf (Str.ofString "choice_of") _ _ _ _)) _ _ _); (rename Fr _ _ _ _ => lF'); (with_unfolding_all refine' For_invVF lF' ?_ ?_ ?_; exact rfl; exact rfl; k_whole))) | (with_reducible ((with_reducible show wpAny _ _ (pyIter (Value.ref _)) (fun it s₂ => LoopAtV _ _ _ _ (envOf (Str.ofString "choice_of") _ _ _ _) _ _ _ _ it s₂) _ _); (rename Fr _ _ _ _ => lF'); (rename News _ _ _ _ => lN'); (with_unfolding_all refine iter_listUnr (by rfl) lF' lN' (by k_mem) (by rfl) (by rfl) ?_); clear lF' lN'; intro I l1; (try k_lt l1))) | (with_reducible ((with_reducible show wpAny _ _ (call (Value.builtin _) [Value.ref _, _]) _ _ _); k_dflt (refine append_K (by k_asm) (by k_asm) (by k_upd) ?_ (by rw [List.size_toArray, sizeLine_eq]; omega)); intro h' F' N'; (try dsimp only))) | (with_reducible ((with_reducible refine execs_tk ?_); intro _; (try dsimp only); (try k_fold))) | (with_reducible ((with_reducible show wpAny _ _ (call (Value.ref _) _) _ _ _); refine wpAny_call ?_; k_dflt (refine code_def (by k_asm) (by k_asm) (by k_asm) (by k_asm) (by k_asm) rfl rfl (by first | exact rfl | assumption) (by k_is) (by k_is) (by ktr_room) (by exact BindsTo.of_eq rfl) (by exact locs rfl) ?_ (by exact rfl) (by exact rfl) (by exact rfl) (by decide); k_whole; intro g' L' h' FG' F' N' B' X' T'; (try dsimp only); (try k_lift B'); (try k_fold)))) | (with_reducible ((with_reducible show wpAny _ _ (eval (PySem.Expr.Subscript (PySem.Expr.Name _ _) (PySem.Expr.Constant (Const.str _) _ _) _) (envOf _ _ _ _ _)) _ _ _); k_dflt (refine sub_key (by k_asm) (by exact rfl) (by k_asm) (by k_mem) (by k_asm) (by (first | with_reducible exact va_router | with_reducible exact va_state | with_reducible exact va_dr | with_reducible exact va_bdr | with_reducible exact va_dr_address | with_reducible exact va_bdr_address | with_reducible exact va_neighbours | with_reducible exact va_hello_at | with_reducible exact va_wait_until | with_reducible exact va_kind | with_reducible exact va_address | with_reducible exact va_priority | with_reducible exact va_hello | with_reducible exact va_dead | with_reducible exact va_options | with_reducible exact va_delay | with_reducible exact va_number | with_reducible exact va_area | with_reducible exact va_stub | with_reducible exact va_length | with_reducible exact va_cost | with_reducible exact va_resend | (repeat (first | exact valueAt_hit | refine (valueAt_miss (by decide)).trans ?_)))) ?_))) | (with_reducible ((with_reducible show wpAny _ _ (subscriptTail _ _ (Value.ref _) (Value.str _ _)) _ _ _); k_dflt (refine kda_item (knd := PySem.strKind _ _) (by k_asm) (by k_mem) (by k_asm) (strKind_is _ _ _ _) (by (first | with_reducible exact va_router | with_reducible exact va_state | with_reducible exact va_dr | with_reducible exact va_bdr | with_reducible exact va_dr_address | with_reducible exact va_bdr_address | with_reducible exact va_neighbours | with_reducible exact va_hello_at | with_reducible exact va_wait_until | with_reducible exact va_kind | with_reducible exact va_address | with_reducible exact va_priority | with_reducible exact va_hello | with_reducible exact va_dead | with_reducible exact va_options | with_reducible exact va_delay | with_reducible exact va_number | with_reducible exact va_area | with_reducible exact va_stub | with_reducible exact va_length | with_reducible exact va_cost | with_reducible exact va_resend | (repeat (first | exact valueAt_hit | refine (valueAt_miss (by decide)).trans ?_)))) ?_))) | walk1 | (dsimp only; walk1) | (leave1; (try dsimp only))))
    refine ctr_end3 hret (by assumption) (by assumption) (by assumption) (by assumption) (by assumption) ?_
    exact ⟨_, _, _, _, _, rfl, rfl, choice_off (by assumption), ne1⟩
  · intro v8 r8 m8 news8 T8 it8 h8 tk8 hc8 F8 N8
    obtain ⟨rs, zl, kk, xs', e8, mf, mp, hr8, hrs, hlen, htl, q1, q2, q3, q4, q5⟩ := T8
    subst e8
    obtain _ | ⟨⟨b9, o9, v1, v2, v3, v4, v5, s1, s2, s3, s4, s5, s6, e9, hm9, hd9⟩, hr9⟩ := hr8
    rename_i r a9 xs9
    subst e9
    rw [List.length_cons] at hlen
    replace F8 := fr_name2 F8 (a := "rows") (b := "own") ((if_neg (fun h => absurd (ofs_inj h) (by decide))).trans mf) ((if_neg (fun h => absurd (ofs_inj h) (by decide))).trans mp) (by decide)
    clear mf mp
    (repeat' (first | (k_unfold; (try dsimp only)) | (k_end; wrow_close) | (with_reducible ((with_reducible show wpAny _ _ (call (Value.ref 85) _) _ _ _); refine stop_at ?_)) | (with_reducible ((with_reducible show wpAny _ _ (call (Value.ref 144) _) _ _ _); k_dflt (refine both_c.use (by k_asm) (by k_asm) (by k_asm) (by k_asm) (by k_asm) (by first | exact rfl | assumption) (by ktr_room) (by ktr_units) _ (fun _ h => nomatch h) (fun _ h => h) Off.nil ?_); intro rz9 lz9 hz9 tkz9 Fz9 Nz9 offz9 Pz9; obtain ⟨ez9, fz9⟩ := Pz9; subst ez9; subst fz9; simp only [List.nil_append] at Nz9; clear offz9; (try dsimp only))) | (with_reducible ((with_reducible show wpAny _ _ (exec _ (envOf (Str.ofString "choice_of") _ _ _ _)) _ _ _); (rename Fr _ _ _ _ => lF'); (with_unfolding_all refine' For_invVF lF' ?_ ?_ ?_; exact rfl; exact rfl; k_whole))) | (with_reducible ((with_reducible show wpAny _ _ (pyIter (Value.ref _)) (fun it s₂ => LoopAtV _ _ _ _ (envOf (Str.ofString "choice_of") _ _ _ _) _ _ _ _ it s₂) _ _); (rename Fr _ _ _ _ => lF'); (rename News _ _ _ _ => lN'); (with_unfolding_all refine iter_listUnr (by rfl) lF' lN' (by k_mem) (by rfl) (by rfl) ?_); clear lF' lN'; intro I l1; (try k_lt l1))) | (with_reducible ((with_reducible show wpAny _ _ (call (Value.builtin _) [Value.ref _, _]) _ _ _); k_dflt (refine append_K (by k_asm) (by k_asm) (by k_upd) ?_ (by rw [List.size_toArray, sizeLine_eq]; omega)); intro h' F' N'; (try dsimp only))) | (with_reducible ((with_reducible refine execs_tk ?_); intro _; (try dsimp only); (try k_fold))) | (with_reducible ((with_reducible show wpAny _ _ (call (Value.ref _) _) _ _ _); refine wpAny_call ?_; k_dflt (refine code_def (by k_asm) (by k_asm) (by k_asm) (by k_asm) (by k_asm) rfl rfl (by first | exact rfl | assumption) (by k_is) (by k_is) (by ktr_room) (by exact BindsTo.of_eq rfl) (by exact locs rfl) ?_ (by exact rfl) (by exact rfl) (by exact rfl) (by decide); k_whole; intro g' L' h' FG' F' N' B' X' T'; (try dsimp only); (try k_lift B'); (try k_fold)))) | (with_reducible ((with_reducible show wpAny _ _ (eval (PySem.Expr.Subscript (PySem.Expr.Name _ _) (PySem.Expr.Constant (Const.str _) _ _) _) (envOf _ _ _ _ _)) _ _ _); k_dflt (refine sub_key (by k_asm) (by exact rfl) (by k_asm) (by k_mem) (by k_asm) (by (first | with_reducible exact va_router | with_reducible exact va_state | with_reducible exact va_dr | with_reducible exact va_bdr | with_reducible exact va_dr_address | with_reducible exact va_bdr_address | with_reducible exact va_neighbours | with_reducible exact va_hello_at | with_reducible exact va_wait_until | with_reducible exact va_kind | with_reducible exact va_address | with_reducible exact va_priority | with_reducible exact va_hello | with_reducible exact va_dead | with_reducible exact va_options | with_reducible exact va_delay | with_reducible exact va_number | with_reducible exact va_area | with_reducible exact va_stub | with_reducible exact va_length | with_reducible exact va_cost | with_reducible exact va_resend | (repeat (first | exact valueAt_hit | refine (valueAt_miss (by decide)).trans ?_)))) ?_))) | (with_reducible ((with_reducible show wpAny _ _ (subscriptTail _ _ (Value.ref _) (Value.str _ _)) _ _ _); k_dflt (refine kda_item (knd := PySem.strKind _ _) (by k_asm) (by k_mem) (by k_asm) (strKind_is _ _ _ _) (by (first | with_reducible exact va_router | with_reducible exact va_state | with_reducible exact va_dr | with_reducible exact va_bdr | with_reducible exact va_dr_address | with_reducible exact va_bdr_address | with_reducible exact va_neighbours | with_reducible exact va_hello_at | with_reducible exact va_wait_until | with_reducible exact va_kind | with_reducible exact va_address | with_reducible exact va_priority | with_reducible exact va_hello | with_reducible exact va_dead | with_reducible exact va_options | with_reducible exact va_delay | with_reducible exact va_number | with_reducible exact va_area | with_reducible exact va_stub | with_reducible exact va_length | with_reducible exact va_cost | with_reducible exact va_resend | (repeat (first | exact valueAt_hit | refine (valueAt_miss (by decide)).trans ?_)))) ?_))) | walk1 | (dsimp only; walk1) | (leave1; (try dsimp only))))
    exact turnCh_end (rs := rs) (kk := kk) (zl := zl) (by assumption) (by assumption) rfl rfl (by k_mem) (by k_mem) (by k_mem) (by k_mem) (by k_mem) (by k_mem) (by kcf_all) hr9 hrs hlen htl q1 q2 q3 q4 q5 (by k_ne) (by k_ne) (by k_ne) (by k_ne) (by k_ne) (by k_ne) (by k_ne) (by k_ne) (by k_ne)
  · exact ⟨[], tl, 0, xs, rfl, by with_unfolding_all rfl, by with_unfolding_all rfl, hws, (fun _ h => (nomatch h)), by simpa using h4, (fun _ h => h), htd, htn, allne_of l1a.2.2, allne_of l1b.2.2.2, allne_of l1.2.2.2.2⟩
section
theorem off_M11 : True := by w_top off; trivial
local macro_rules | `(tactic| walk_at "none 0") => `(tactic| fail)
/-- behind the first rows of iface_event -/
inductive MidEv (d nb : Addr) (o lo : Obj) (tl : Led) (ev : String) (te tn : Tok) (m' : PySem.Str → Option Value) (news' : Led) : Prop
  | mk (pv rs tr) (q1 : news' = (d, o) :: (nb, lo) :: tl) (q2 : m' "pair" = some pv) (q3 : m' "role" = some (.str rs tr)) (q4 : m' "iface" = some (.ref d)) (q5 : m' "event" = some (.str (Str.ofString ev) te)) (q6 : m' "now" = some (.int 105 tn)) : MidEv d nb o lo tl ev te tn m' news'
theorem midEv_intro {g h' : Heap} {L d nb : Addr} {o lo : Obj} {tl all : Led} {s₁ : Shared} {tk : Nat} {m' : PySem.Str → Option Value} {ev : String} {te tn tr : Tok} {pv : Value} {rs : PySem.Str} (F : Fr g L h' m') (N : News g L h' all)
    (m1 : m' "pair" = some pv) (m2 : m' "role" = some (.str rs tr)) (m3 : m' "iface" = some (.ref d)) (m4 : m' "event" = some (.str (Str.ofString ev) te)) (m5 : m' "now" = some (.int 105 tn))
    (hd : (d, o) ∈ all) (hn : (nb, lo) ∈ all) (hz : ∀ p ∈ tl, p ∈ all) : CutEnd g L s₁ (MidEv d nb o lo tl ev te tn) .next { s₁ with heap := h', toks := tk } :=
  CutEnd.intro _ ⟨pv, rs, tr, rfl, m1, m2, m3, m4, m5⟩ F N (List.forall_mem_cons.mpr ⟨hd, List.forall_mem_cons.mpr ⟨hn, hz⟩⟩)
theorem in_shared {w : World} {A : Around} {E : Value → Shared → Prop} {s : Shared} {h₀ : Heap} {L : Addr} {m : PySem.Str → Option Value} {t : Tok} {Q : Value → Shared → Prop} {kd : PySem.Str} {b : Bool}
    (hk : KindIs kd b) (F : Fr h₀ L s.heap m) (X : (hd.heap_39 w.params).In h₀) (h : Q (.bool b) s) :
    wpAny (model PR w) A (compareOp CmpOp.In (.str kd t) (.ref 101)) Q E s := by
  have ho := fun (o : Obj) (e : (hd.heap_39 w.params).lookup 101 = some o) => F.keep _ _ (X _ _ e)
  have hT := ho _ (by k_is)
  refine in_tuple_strs (ys := [Str.ofString "broadcast", Str.ofString "nbma"]) ⟨_, hT, rfl, _, rfl⟩ (by kde_strs) ?_
  have e : ([Str.ofString "broadcast", Str.ofString "nbma"].any (· == kd)) = b := by
    have ne : ∀ a b : String, a ≠ b → (Str.ofString a == Str.ofString b) = false := fun a b h => beq_eq_false_iff_ne.mpr fun e => h (ofs_inj e)
    simp only [List.any_cons, List.any_nil, Bool.or_false]
    rcases hk with ⟨rfl | rfl, rfl⟩ | ⟨rfl | rfl, rfl⟩
    · rw [ne _ _ (by decide), ne _ _ (by decide)]; rfl
    · rw [ne _ _ (by decide), ne _ _ (by decide)]; rfl
    · rw [beq_self_eq_true]; rfl
    · rw [beq_self_eq_true, ne _ _ (by decide)]; rfl
  rw [e]; exact h
theorem ev_turn {g h' : Heap} {L I u f d nb : Addr} {it uo o lo : Obj} {tl all : Led} {s₁ : Shared} {tk : Nat} {m' : PySem.Str → Option Value} {R : (PySem.Str → Option Value) → Led → Prop} (F : Fr g L h' m') (N : News g L h' all)
    (l : @LT.lt Nat _ q I ∧ @LT.lt Nat _ u I ∧ @LT.lt Nat _ f I ∧ @LT.lt Nat _ d I ∧ @LT.lt Nat _ nb I ∧ AllLt I tl) (hI : (I, it) ∈ all) (hu : (u, uo) ∈ all) (hd : (d, o) ∈ all) (hn : (nb, lo) ∈ all) (hz : ∀ p ∈ tl, p ∈ all)
    (r : R m' ((u, uo) :: (d, o) :: (nb, lo) :: tl)) : UnrEndW g L s₁ [(I, it)] (fun m' n' => SubL [(u, uo)] n' ∧ R m' n') { s₁ with heap := h', toks := tk } := by
  refine ⟨h', tk, m', _, rfl, F, ?_, ?_, ⟨.head _, trivial⟩, r⟩
  · exact List.forall_mem_cons.mpr ⟨N _ hI, List.forall_mem_cons.mpr ⟨N _ hu, List.forall_mem_cons.mpr ⟨N _ hd, List.forall_mem_cons.mpr ⟨N _ hn, fun p hp => N p (hz p hp)⟩⟩⟩⟩
  · intro p hp q hq
    rw [List.mem_singleton.mp hq]
    revert p
    exact List.forall_mem_cons.mpr ⟨Nat.ne_of_lt l.2.1, List.forall_mem_cons.mpr ⟨Nat.ne_of_lt l.2.2.2.1, List.forall_mem_cons.mpr ⟨Nat.ne_of_lt l.2.2.2.2.1, allne_of l.2.2.2.2.2⟩⟩⟩
theorem ev_ne {u f d nb : Addr} {tl : Led} (l : @LT.lt Nat _ f u ∧ @LT.lt Nat _ d u ∧ @LT.lt Nat _ nb u ∧ AllLt u tl) : NeA u d := Nat.ne_of_gt l.2.1
/-- behind next_state -/
inductive NxP (ev : String) (z : Value) (l : Led) : Prop
  | mk (D E : Addr) (st' : PySem.Str) (s0 s1 s2 : Tok) (q1 : z = .ref D) (q2 : l = [(D, tup [.str st' s0, .ref E]), (E, tup [.str "reset" s1, .str "kill_neighbours" s2])]) (q3 : ev = "down" ∧ st' = "down" ∨ ev = "loop" ∧ st' = "loopback") : NxP ev z l
set_option maxHeartbeats 4000000 in
theorem next_c {w : World} {st : PySem.Str} {ev : String} {t te : Tok} {fv : Value} (hev : ev = "down" ∨ ev = "loop") : Ctr w 1 129 [.str st t, .str (Str.ofString ev) te, fv] [] (NxP ev) := by
  unfold Ctr
  intro mean mg mb dp un gd cn cs a' ccd cl outer A₀ base h₀ L m s Q E B F X N T hk hdp hun hret
  refine wpAny_call ?_
  k_dflt ((refine' code_defG ?k1 ?k2 ?k3 ?k4 ?k5 ?kA ?kF ?kK ?k6 ?k7 ?k8 ?k9 ?kB ?_ ?c2 ?c3 ?c4 ?c5; (case kA => exact rfl); (case kF => exact rfl); (case kK => assumption); (case k1 => k_asm); (case k2 => k_asm); (case k3 => k_asm); (case k4 => k_asm); (case k5 => k_asm); (case k6 => k_is); (case k7 => k_is); (case k8 => ktr_room); (case k9 => exact BindsTo.of_eq rfl); (case c5 => decide); (case kB => exact locs rfl); (case c2 => exact rfl); (case c3 => exact rfl); (case c4 => exact rfl); k_whole; intro g' L' h' FG' F' N' B' X' T' kG'; (try dsimp only); (try k_lift B'); (try k_fold)))
  rcases hev with rfl | rfl
  · (repeat' (first | (k_unfold; (try dsimp only)) | (k_end; wrow_close) | (with_reducible ((with_reducible show wpAny _ _ (call (Value.ref 185) _) _ _ _); refine stop_at ?_)) | (with_reducible ((with_reducible show wpAny _ _ (exec _ (envOf (Str.ofString "iface_event") _ _ _ _)) _ _ _); (rename Fr _ _ _ _ => lF'); (with_unfolding_all refine For_turns lF' ?_; k_whole))) | (with_reducible ((with_reducible show wpAny _ _ (pyIter (Value.ref _)) (fun it s₂ => TurnsAt _ _ _ _ (envOf (Str.ofString "iface_event") _ _ _ _) _ _ _ _ it s₂) _ _); (rename Fr _ _ _ _ => lF'); (rename News _ _ _ _ => lN'); (with_unfolding_all refine iter_tupTurns (by rfl) lF' lN' (by k_mem) (by rfl) (by rfl) ?_); clear lF' lN'; intro i' l1; (try k_lt l1))) | (with_reducible ((with_reducible show wpAny _ _ (compareOp CmpOp.In (Value.str _ _) (Value.ref 101)) _ _ _); k_dflt (refine in_shared (by assumption) (by k_asm) (by k_asm) ?_))) | (with_reducible ((with_reducible show wpAny _ _ (call (Value.ref 129) _) _ _ _); k_dflt (refine (next_c hev).use (by k_asm) (by k_asm) (by k_asm) (by k_asm) (by k_asm) (by first | exact rfl | assumption) (by ktr_room) (by ktr_units) _ (fun _ h => nomatch h) (fun _ h => h) Off.nil ?_); intro rz lz hz tkz Fz Nz offz Pz; obtain ⟨Dz, Ez, stz, sz0, sz1, sz2, ez, fz, hstz⟩ := Pz; subst ez; subst fz; simp only [List.cons_append, List.nil_append] at Nz; replace offz := offLL_of offz; simp only [OffLL, OffL, and_true] at offz; obtain ⟨offa, offb⟩ := offz; (try dsimp only))) | (with_reducible ((with_reducible show wpAny _ _ (compareOp CmpOp.Eq (Value.str _ _) (Value.str (Str.ofString "wait_over") _)) _ _ _); k_dflt (refine ev_eq hev ?_))) | (with_reducible ((with_reducible refine execs_tk ?_); intro _; (try dsimp only); (try k_fold))) | (with_reducible ((with_reducible show wpAny _ _ (call (Value.ref _) _) _ _ _); refine wpAny_call ?_; k_dflt (refine code_def (by k_asm) (by k_asm) (by k_asm) (by k_asm) (by k_asm) rfl rfl (by first | exact rfl | assumption) (by k_is) (by k_is) (by ktr_room) (by exact BindsTo.of_eq rfl) (by exact locs rfl) ?_ (by exact rfl) (by exact rfl) (by exact rfl) (by decide); k_whole; intro g' L' h' FG' F' N' B' X' T'; (try dsimp only); (try k_lift B'); (try k_fold)))) | (with_reducible ((with_reducible show wpAny _ _ (eval (PySem.Expr.Dict ..) _) _ _ _); refine kdn_str (by k_dflt rfl) (by k_asm) (by first | k_asm | exact News.nil) (by exact Top.nolimit (by k_asm)) (by k_dflt rfl) (by k_dflt rfl) (by exact List.cons_ne_nil _ _) (by k_dflt (exact Nat.le_of_ble_eq_true rfl)) ?_; intro d' h' o' F' N' l1 lo' hd'; (try k_lt l1))) | (with_reducible ((with_reducible show KdnMade ..); k_dflt (refine kdn_made_str (by k_asm) (by k_asm) (by k_updF) (by k_asm) (by rfl) (by exact of_decide_eq_true (by first | rfl | kernel_rfl!)) ?_; intro h' o' F' N' hd'); (try dsimp only [strPairs] at hd'); (try dsimp only at N'))) | (with_reducible ((with_reducible show wpAny _ _ (setItem (Value.ref _) (Value.str _ _) _) _ _ _); k_dflt (refine set_s (knd := PySem.strKind _ _) (by k_asm) (by k_asm) (by k_updF) (by k_asm) (strKind_is _ _ _ _) (by exact rfl) ?_); intro h' o' F' N' hd'; (first | rw [st_state] at hd' | rw [st_dr] at hd' | rw [st_bdr] at hd' | rw [st_dr_address] at hd' | rw [st_bdr_address] at hd' | rw [st_neighbours] at hd' | rw [st_hello_at] at hd' | rw [st_wait_until] at hd' | rw [st_new] at hd' | rw [st_nb] at hd' | simp only [merged, List.foldl_cons, List.foldl_nil, stored, List.any_cons, List.any_nil, List.map_cons, List.map_nil, ofs_eq, String.reduceEq, decide_true, decide_false, Bool.or_true, Bool.true_or, Bool.false_or, Bool.or_false, Bool.false_eq_true, if_true, if_false, List.cons_append, List.nil_append] at hd' | skip); (try dsimp only at N'); (try dsimp only))) | (with_reducible ((with_reducible show wpAny _ _ (eval (PySem.Expr.Subscript (PySem.Expr.Name _ _) (PySem.Expr.Constant (Const.str _) _ _) _) (envOf _ _ _ _ _)) _ _ _); k_dflt (refine sub_key (by k_asm) (by exact rfl) (by k_asm) (by k_mem) (by k_asm) (by (first | with_reducible exact va_router | with_reducible exact va_state | with_reducible exact va_dr | with_reducible exact va_bdr | with_reducible exact va_dr_address | with_reducible exact va_bdr_address | with_reducible exact va_neighbours | with_reducible exact va_hello_at | with_reducible exact va_wait_until | with_reducible exact va_kind | with_reducible exact va_address | with_reducible exact va_priority | with_reducible exact va_hello | with_reducible exact va_dead | with_reducible exact va_options | with_reducible exact va_delay | with_reducible exact va_number | with_reducible exact va_area | with_reducible exact va_stub | with_reducible exact va_length | with_reducible exact va_cost | with_reducible exact va_resend | (repeat (first | exact valueAt_hit | refine (valueAt_miss (by decide)).trans ?_)))) ?_))) | (with_reducible ((with_reducible show wpAny _ _ (subscriptTail _ _ (Value.ref _) (Value.str _ _)) _ _ _); k_dflt (refine kda_item (knd := PySem.strKind _ _) (by k_asm) (by k_mem) (by k_asm) (strKind_is _ _ _ _) (by (first | with_reducible exact va_router | with_reducible exact va_state | with_reducible exact va_dr | with_reducible exact va_bdr | with_reducible exact va_dr_address | with_reducible exact va_bdr_address | with_reducible exact va_neighbours | with_reducible exact va_hello_at | with_reducible exact va_wait_until | with_reducible exact va_kind | with_reducible exact va_address | with_reducible exact va_priority | with_reducible exact va_hello | with_reducible exact va_dead | with_reducible exact va_options | with_reducible exact va_delay | with_reducible exact va_number | with_reducible exact va_area | with_reducible exact va_stub | with_reducible exact va_length | with_reducible exact va_cost | with_reducible exact va_resend | (repeat (first | exact valueAt_hit | refine (valueAt_miss (by decide)).trans ?_)))) ?_))) | walk1 | (dsimp only; walk1) | (leave1; (try dsimp only))))
    refine' ctr_end hret ?post ?G ?F' ?N' ?F ?N ?hs
    (case' post => refine' ⟨_, _, _, _, _, _, rfl, rfl, .inl ⟨rfl, rfl⟩⟩)
    (((case G => assumption); (case F' => assumption); (case N' => assumption); (case F => assumption); (case N => assumption); (case hs => lcg_sub)))
  · (repeat' (first | (k_unfold; (try dsimp only)) | (k_end; wrow_close) | (with_reducible ((with_reducible show wpAny _ _ (call (Value.ref 185) _) _ _ _); refine stop_at ?_)) | (with_reducible ((with_reducible show wpAny _ _ (exec _ (envOf (Str.ofString "iface_event") _ _ _ _)) _ _ _); (rename Fr _ _ _ _ => lF'); (with_unfolding_all refine For_turns lF' ?_; k_whole))) | (with_reducible ((with_reducible show wpAny _ _ (pyIter (Value.ref _)) (fun it s₂ => TurnsAt _ _ _ _ (envOf (Str.ofString "iface_event") _ _ _ _) _ _ _ _ it s₂) _ _); (rename Fr _ _ _ _ => lF'); (rename News _ _ _ _ => lN'); (with_unfolding_all refine iter_tupTurns (by rfl) lF' lN' (by k_mem) (by rfl) (by rfl) ?_); clear lF' lN'; intro i' l1; (try k_lt l1))) | (with_reducible ((with_reducible show wpAny _ _ (compareOp CmpOp.In (Value.str _ _) (Value.ref 101)) _ _ _); k_dflt (refine in_shared (by assumption) (by k_asm) (by k_asm) ?_))) | (with_reducible ((with_reducible show wpAny _ _ (call (Value.ref 129) _) _ _ _); k_dflt (refine (next_c hev).use (by k_asm) (by k_asm) (by k_asm) (by k_asm) (by k_asm) (by first | exact rfl | assumption) (by ktr_room) (by ktr_units) _ (fun _ h => nomatch h) (fun _ h => h) Off.nil ?_); intro rz lz hz tkz Fz Nz offz Pz; obtain ⟨Dz, Ez, stz, sz0, sz1, sz2, ez, fz, hstz⟩ := Pz; subst ez; subst fz; simp only [List.cons_append, List.nil_append] at Nz; replace offz := offLL_of offz; simp only [OffLL, OffL, and_true] at offz; obtain ⟨offa, offb⟩ := offz; (try dsimp only))) | (with_reducible ((with_reducible show wpAny _ _ (compareOp CmpOp.Eq (Value.str _ _) (Value.str (Str.ofString "wait_over") _)) _ _ _); k_dflt (refine ev_eq hev ?_))) | (with_reducible ((with_reducible refine execs_tk ?_); intro _; (try dsimp only); (try k_fold))) | (with_reducible ((with_reducible show wpAny _ _ (call (Value.ref _) _) _ _ _); refine wpAny_call ?_; k_dflt (refine code_def (by k_asm) (by k_asm) (by k_asm) (by k_asm) (by k_asm) rfl rfl (by first | exact rfl | assumption) (by k_is) (by k_is) (by ktr_room) (by exact BindsTo.of_eq rfl) (by exact locs rfl) ?_ (by exact rfl) (by exact rfl) (by exact rfl) (by decide); k_whole; intro g' L' h' FG' F' N' B' X' T'; (try dsimp only); (try k_lift B'); (try k_fold)))) | (with_reducible ((with_reducible show wpAny _ _ (eval (PySem.Expr.Dict ..) _) _ _ _); refine kdn_str (by k_dflt rfl) (by k_asm) (by first | k_asm | exact News.nil) (by exact Top.nolimit (by k_asm)) (by k_dflt rfl) (by k_dflt rfl) (by exact List.cons_ne_nil _ _) (by k_dflt (exact Nat.le_of_ble_eq_true rfl)) ?_; intro d' h' o' F' N' l1 lo' hd'; (try k_lt l1))) | (with_reducible ((with_reducible show KdnMade ..); k_dflt (refine kdn_made_str (by k_asm) (by k_asm) (by k_updF) (by k_asm) (by rfl) (by exact of_decide_eq_true (by first | rfl | kernel_rfl!)) ?_; intro h' o' F' N' hd'); (try dsimp only [strPairs] at hd'); (try dsimp only at N'))) | (with_reducible ((with_reducible show wpAny _ _ (setItem (Value.ref _) (Value.str _ _) _) _ _ _); k_dflt (refine set_s (knd := PySem.strKind _ _) (by k_asm) (by k_asm) (by k_updF) (by k_asm) (strKind_is _ _ _ _) (by exact rfl) ?_); intro h' o' F' N' hd'; (first | rw [st_state] at hd' | rw [st_dr] at hd' | rw [st_bdr] at hd' | rw [st_dr_address] at hd' | rw [st_bdr_address] at hd' | rw [st_neighbours] at hd' | rw [st_hello_at] at hd' | rw [st_wait_until] at hd' | rw [st_new] at hd' | rw [st_nb] at hd' | simp only [merged, List.foldl_cons, List.foldl_nil, stored, List.any_cons, List.any_nil, List.map_cons, List.map_nil, ofs_eq, String.reduceEq, decide_true, decide_false, Bool.or_true, Bool.true_or, Bool.false_or, Bool.or_false, Bool.false_eq_true, if_true, if_false, List.cons_append, List.nil_append] at hd' | skip); (try dsimp only at N'); (try dsimp only))) | (with_reducible ((with_reducible show wpAny _ _ (eval (PySem.Expr.Subscript (PySem.Expr.Name _ _) (PySem.Expr.Constant (Const.str _) _ _) _) (envOf _ _ _ _ _)) _ _ _); k_dflt (refine sub_key (by k_asm) (by exact rfl) (by k_asm) (by k_mem) (by k_asm) (by (first | with_reducible exact va_router | with_reducible exact va_state | with_reducible exact va_dr | with_reducible exact va_bdr | with_reducible exact va_dr_address | with_reducible exact va_bdr_address | with_reducible exact va_neighbours | with_reducible exact va_hello_at | with_reducible exact va_wait_until | with_reducible exact va_kind | with_reducible exact va_address | with_reducible exact va_priority | with_reducible exact va_hello | with_reducible exact va_dead | with_reducible exact va_options | with_reducible exact va_delay | with_reducible exact va_number | with_reducible exact va_area | with_reducible exact va_stub | with_reducible exact va_length | with_reducible exact va_cost | with_reducible exact va_resend | (repeat (first | exact valueAt_hit | refine (valueAt_miss (by decide)).trans ?_)))) ?_))) | (with_reducible ((with_reducible show wpAny _ _ (subscriptTail _ _ (Value.ref _) (Value.str _ _)) _ _ _); k_dflt (refine kda_item (knd := PySem.strKind _ _) (by k_asm) (by k_mem) (by k_asm) (strKind_is _ _ _ _) (by (first | with_reducible exact va_router | with_reducible exact va_state | with_reducible exact va_dr | with_reducible exact va_bdr | with_reducible exact va_dr_address | with_reducible exact va_bdr_address | with_reducible exact va_neighbours | with_reducible exact va_hello_at | with_reducible exact va_wait_until | with_reducible exact va_kind | with_reducible exact va_address | with_reducible exact va_priority | with_reducible exact va_hello | with_reducible exact va_dead | with_reducible exact va_options | with_reducible exact va_delay | with_reducible exact va_number | with_reducible exact va_area | with_reducible exact va_stub | with_reducible exact va_length | with_reducible exact va_cost | with_reducible exact va_resend | (repeat (first | exact valueAt_hit | refine (valueAt_miss (by decide)).trans ?_)))) ?_))) | walk1 | (dsimp only; walk1) | (leave1; (try dsimp only))))
    refine' ctr_end hret ?post2 ?G2 ?F2' ?N2' ?F2 ?N2 ?hs2
    (case' post2 => refine' ⟨_, _, _, _, _, _, rfl, rfl, .inr ⟨rfl, rfl⟩⟩)
    (case G2 => assumption); (case F2' => assumption); (case N2' => assumption); (case F2 => assumption); (case N2 => assumption); (case hs2 => lcg_sub)
theorem ev_eq {M : Program} {w : World} {A : Around} {E : Value → Shared → Prop} {s : Shared} {Q : Value → Shared → Prop} {ev : String} {t u : Tok} (hev : ev = "down" ∨ ev = "loop") (h : Q (.bool false) s) :
    wpAny (model M w) A (compareOp .Eq (.str (Str.ofString ev) t) (.str (Str.ofString "wait_over") u)) Q E s := by
  refine PyProof.Rows.eq_str ?_
  rw [show (Str.ofString ev == Str.ofString "wait_over") = false from beq_eq_false_iff_ne.mpr fun e => by rcases hev with rfl | rfl <;> exact absurd (ofs_inj e) (by decide)]
  exact h
/-- behind iface_event -/
inductive EvP (w : World) (d nb : Addr) (kd : PySem.Str) (own : Int) (de op : Value) (ws : List Value) (k : Nat) (tl : Led) (ev : String) (z : Value) (l : Led) : Prop
  | mk (u : Addr) (o' : Obj) (st' : PySem.Str) (s1 s2 u1 u2 u3 u4 u5 u6 u7 u8 u9 u10 u11 u12 u13 u14 u15 u16 : Tok) (q1 : z = .ref u) (q2 : l = (u, tup [.str "reset" s1, .str "kill_neighbours" s2]) :: (d, o') :: (nb, listOf ws.toArray k) :: tl)
    (q3 : o'.IsDictOf (PySem.strKind PR w) (ifKvs kd st' own 0 0 0 0 nb .none .none de op u1 u2 u3 u4 u5 u6 u7 u8 u9 u10 u11 u12 u13 u14 u15 u16)) (q4 : ev = "down" ∧ st' = "down" ∨ ev = "loop" ∧ st' = "loopback") (q5 : NeA u d) : EvP w d nb kd own de op ws k tl ev z l
set_option maxHeartbeats 4000000 in
theorem event_c {w : World} {d nb : Addr} {o : Obj} {kd st : PySem.Str} {own dr bdr dra bdra : Int} {ha wu de op : Value} {t1 t2 t3 t4 t5 t6 t7 t8 t9 t10 t11 t12 t13 t14 t15 t16 : Tok} {ws : List Value} {xs : List (Int × Int)} {k : Nat} {tl : Led} {ev : String} {te tn : Tok}
    (hd : o.IsDictOf (PySem.strKind PR w) (ifKvs kd st own dr bdr dra bdra nb ha wu de op t1 t2 t3 t4 t5 t6 t7 t8 t9 t10 t11 t12 t13 t14 t15 t16)) (hif : IfOk kd own dra bdra) (hws : NbsAt w tl ws xs) (h4 : ws.length ≤ 4)
    (hdn : NeA d nb) (htd : ∀ p ∈ tl, p.1 ≠ d) (htn : ∀ p ∈ tl, p.1 ≠ nb) (hev : ev = "down" ∨ ev = "loop") :
    Ctr w 10 206 [.ref d, .str (Str.ofString ev) te, .int 105 tn] ((d, o) :: (nb, listOf ws.toArray k) :: tl)
      (EvP w d nb kd own de op ws k tl ev) := by
  unfold Ctr
  intro mean mg mb dp un gd cn cs a' ccd cl outer A₀ base h₀ L m s Q E B F X N T hk hdp hun hret
  unfold NeA at hdn
  refine wpAny_call ?_
  k_dflt ((refine' code_defG ?k1 ?k2 ?k3 ?k4 ?k5 ?kA ?kF ?kK ?k6 ?k7 ?k8 ?k9 ?kB ?_ ?c2 ?c3 ?c4 ?c5; (case kA => exact rfl); (case kF => exact rfl); (case kK => assumption); (case k1 => k_asm); (case k2 => k_asm); (case k3 => k_asm); (case k4 => k_asm); (case k5 => k_asm); (case k6 => k_is); (case k7 => k_is); (case k8 => ktr_room); (case k9 => exact BindsTo.of_eq rfl); (case c5 => decide); (case kB => exact locs rfl); (case c2 => exact rfl); (case c3 => exact rfl); (case c4 => exact rfl); k_whole; intro g' L' h' FG' F' N' B' X' T' kG'; (try dsimp only); (try k_lift B'); (try k_fold)))
  refine execs_cut 2 (by k_asm) (MidEv d nb o (listOf ws.toArray k) tl ev te tn) ?_ ?_
  · clear hev
    rcases hif with ⟨hk, _⟩ | ⟨hk, h7, h6, h5⟩
    · have hK : KindIs kd false := .inl ⟨hk, rfl⟩
      clear hk
      simp only [List.take_succ_cons, List.take_zero]
      (repeat' (first | (k_unfold; (try dsimp only)) | (k_end; wrow_close) | (with_reducible ((with_reducible show wpAny _ _ (call (Value.ref 185) _) _ _ _); refine stop_at ?_)) | (with_reducible ((with_reducible show wpAny _ _ (exec _ (envOf (Str.ofString "iface_event") _ _ _ _)) _ _ _); (rename Fr _ _ _ _ => lF'); (with_unfolding_all refine For_turns lF' ?_; k_whole))) | (with_reducible ((with_reducible show wpAny _ _ (pyIter (Value.ref _)) (fun it s₂ => TurnsAt _ _ _ _ (envOf (Str.ofString "iface_event") _ _ _ _) _ _ _ _ it s₂) _ _); (rename Fr _ _ _ _ => lF'); (rename News _ _ _ _ => lN'); (with_unfolding_all refine iter_tupTurns (by rfl) lF' lN' (by k_mem) (by rfl) (by rfl) ?_); clear lF' lN'; intro i' l1; (try k_lt l1))) | (with_reducible ((with_reducible show wpAny _ _ (compareOp CmpOp.In (Value.str _ _) (Value.ref 101)) _ _ _); k_dflt (refine in_shared (by assumption) (by k_asm) (by k_asm) ?_))) | (with_reducible ((with_reducible show wpAny _ _ (call (Value.ref 129) _) _ _ _); k_dflt (refine (next_c hev).use (by k_asm) (by k_asm) (by k_asm) (by k_asm) (by k_asm) (by first | exact rfl | assumption) (by ktr_room) (by ktr_units) _ (fun _ h => nomatch h) (fun _ h => h) Off.nil ?_); intro rz lz hz tkz Fz Nz offz Pz; obtain ⟨Dz, Ez, stz, sz0, sz1, sz2, ez, fz, hstz⟩ := Pz; subst ez; subst fz; simp only [List.cons_append, List.nil_append] at Nz; replace offz := offLL_of offz; simp only [OffLL, OffL, and_true] at offz; obtain ⟨offa, offb⟩ := offz; (try dsimp only))) | (with_reducible ((with_reducible show wpAny _ _ (compareOp CmpOp.Eq (Value.str _ _) (Value.str (Str.ofString "wait_over") _)) _ _ _); k_dflt (refine ev_eq hev ?_))) | (with_reducible ((with_reducible refine execs_tk ?_); intro _; (try dsimp only); (try k_fold))) | (with_reducible ((with_reducible show wpAny _ _ (call (Value.ref _) _) _ _ _); refine wpAny_call ?_; k_dflt (refine code_def (by k_asm) (by k_asm) (by k_asm) (by k_asm) (by k_asm) rfl rfl (by first | exact rfl | assumption) (by k_is) (by k_is) (by ktr_room) (by exact BindsTo.of_eq rfl) (by exact locs rfl) ?_ (by exact rfl) (by exact rfl) (by exact rfl) (by decide); k_whole; intro g' L' h' FG' F' N' B' X' T'; (try dsimp only); (try k_lift B'); (try k_fold)))) | (with_reducible ((with_reducible show wpAny _ _ (eval (PySem.Expr.Dict ..) _) _ _ _); refine kdn_str (by k_dflt rfl) (by k_asm) (by first | k_asm | exact News.nil) (by exact Top.nolimit (by k_asm)) (by k_dflt rfl) (by k_dflt rfl) (by exact List.cons_ne_nil _ _) (by k_dflt (exact Nat.le_of_ble_eq_true rfl)) ?_; intro d' h' o' F' N' l1 lo' hd'; (try k_lt l1))) | (with_reducible ((with_reducible show KdnMade ..); k_dflt (refine kdn_made_str (by k_asm) (by k_asm) (by k_updF) (by k_asm) (by rfl) (by exact of_decide_eq_true (by first | rfl | kernel_rfl!)) ?_; intro h' o' F' N' hd'); (try dsimp only [strPairs] at hd'); (try dsimp only at N'))) | (with_reducible ((with_reducible show wpAny _ _ (setItem (Value.ref _) (Value.str _ _) _) _ _ _); k_dflt (refine set_s (knd := PySem.strKind _ _) (by k_asm) (by k_asm) (by k_updF) (by k_asm) (strKind_is _ _ _ _) (by exact rfl) ?_); intro h' o' F' N' hd'; (first | rw [st_state] at hd' | rw [st_dr] at hd' | rw [st_bdr] at hd' | rw [st_dr_address] at hd' | rw [st_bdr_address] at hd' | rw [st_neighbours] at hd' | rw [st_hello_at] at hd' | rw [st_wait_until] at hd' | rw [st_new] at hd' | rw [st_nb] at hd' | simp only [merged, List.foldl_cons, List.foldl_nil, stored, List.any_cons, List.any_nil, List.map_cons, List.map_nil, ofs_eq, String.reduceEq, decide_true, decide_false, Bool.or_true, Bool.true_or, Bool.false_or, Bool.or_false, Bool.false_eq_true, if_true, if_false, List.cons_append, List.nil_append] at hd' | skip); (try dsimp only at N'); (try dsimp only))) | (with_reducible ((with_reducible show wpAny _ _ (eval (PySem.Expr.Subscript (PySem.Expr.Name _ _) (PySem.Expr.Constant (Const.str _) _ _) _) (envOf _ _ _ _ _)) _ _ _); k_dflt (refine sub_key (by k_asm) (by exact rfl) (by k_asm) (by k_mem) (by k_asm) (by (first | with_reducible exact va_router | with_reducible exact va_state | with_reducible exact va_dr | with_reducible exact va_bdr | with_reducible exact va_dr_address | with_reducible exact va_bdr_address | with_reducible exact va_neighbours | with_reducible exact va_hello_at | with_reducible exact va_wait_until | with_reducible exact va_kind | with_reducible exact va_address | with_reducible exact va_priority | with_reducible exact va_hello | with_reducible exact va_dead | with_reducible exact va_options | with_reducible exact va_delay | with_reducible exact va_number | with_reducible exact va_area | with_reducible exact va_stub | with_reducible exact va_length | with_reducible exact va_cost | with_reducible exact va_resend | (repeat (first | exact valueAt_hit | refine (valueAt_miss (by decide)).trans ?_)))) ?_))) | (with_reducible ((with_reducible show wpAny _ _ (subscriptTail _ _ (Value.ref _) (Value.str _ _)) _ _ _); k_dflt (refine kda_item (knd := PySem.strKind _ _) (by k_asm) (by k_mem) (by k_asm) (strKind_is _ _ _ _) (by (first | with_reducible exact va_router | with_reducible exact va_state | with_reducible exact va_dr | with_reducible exact va_bdr | with_reducible exact va_dr_address | with_reducible exact va_bdr_address | with_reducible exact va_neighbours | with_reducible exact va_hello_at | with_reducible exact va_wait_until | with_reducible exact va_kind | with_reducible exact va_address | with_reducible exact va_priority | with_reducible exact va_hello | with_reducible exact va_dead | with_reducible exact va_options | with_reducible exact va_delay | with_reducible exact va_number | with_reducible exact va_area | with_reducible exact va_stub | with_reducible exact va_length | with_reducible exact va_cost | with_reducible exact va_resend | (repeat (first | exact valueAt_hit | refine (valueAt_miss (by decide)).trans ?_)))) ?_))) | walk1 | (dsimp only; walk1) | (leave1; (try dsimp only))))
      exact midEv_intro (by assumption) (by assumption) rfl rfl rfl rfl rfl (by k_mem) (by k_mem) (by kcf_all)
    · subst h7; subst h6; subst h5
      have hK : KindIs kd true := .inr ⟨hk, rfl⟩
      clear hk
      simp only [List.take_succ_cons, List.take_zero]
      (repeat' (first | (k_unfold; (try dsimp only)) | (k_end; wrow_close) | (with_reducible ((with_reducible show wpAny _ _ (call (Value.ref 185) _) _ _ _); refine stop_at ?_)) | (with_reducible ((with_reducible show wpAny _ _ (exec _ (envOf (Str.ofString "iface_event") _ _ _ _)) _ _ _); (rename Fr _ _ _ _ => lF'); (with_unfolding_all refine For_turns lF' ?_; k_whole))) | (with_reducible ((with_reducible show wpAny _ _ (pyIter (Value.ref _)) (fun it s₂ => TurnsAt _ _ _ _ (envOf (Str.ofString "iface_event") _ _ _ _) _ _ _ _ it s₂) _ _); (rename Fr _ _ _ _ => lF'); (rename News _ _ _ _ => lN'); (with_unfolding_all refine iter_tupTurns (by rfl) lF' lN' (by k_mem) (by rfl) (by rfl) ?_); clear lF' lN'; intro i' l1; (try k_lt l1))) | (with_reducible ((with_reducible show wpAny _ _ (compareOp CmpOp.In (Value.str _ _) (Value.ref 101)) _ _ _); k_dflt (refine in_shared (by assumption) (by k_asm) (by k_asm) ?_))) | (with_reducible ((with_reducible show wpAny _ _ (call (Value.ref 129) _) _ _ _); k_dflt (refine (next_c hev).use (by k_asm) (by k_asm) (by k_asm) (by k_asm) (by k_asm) (by first | exact rfl | assumption) (by ktr_room) (by ktr_units) _ (fun _ h => nomatch h) (fun _ h => h) Off.nil ?_); intro rz lz hz tkz Fz Nz offz Pz; obtain ⟨Dz, Ez, stz, sz0, sz1, sz2, ez, fz, hstz⟩ := Pz; subst ez; subst fz; simp only [List.cons_append, List.nil_append] at Nz; replace offz := offLL_of offz; simp only [OffLL, OffL, and_true] at offz; obtain ⟨offa, offb⟩ := offz; (try dsimp only))) | (with_reducible ((with_reducible show wpAny _ _ (compareOp CmpOp.Eq (Value.str _ _) (Value.str (Str.ofString "wait_over") _)) _ _ _); k_dflt (refine ev_eq hev ?_))) | (with_reducible ((with_reducible refine execs_tk ?_); intro _; (try dsimp only); (try k_fold))) | (with_reducible ((with_reducible show wpAny _ _ (call (Value.ref _) _) _ _ _); refine wpAny_call ?_; k_dflt (refine code_def (by k_asm) (by k_asm) (by k_asm) (by k_asm) (by k_asm) rfl rfl (by first | exact rfl | assumption) (by k_is) (by k_is) (by ktr_room) (by exact BindsTo.of_eq rfl) (by exact locs rfl) ?_ (by exact rfl) (by exact rfl) (by exact rfl) (by decide); k_whole; intro g' L' h' FG' F' N' B' X' T'; (try dsimp only); (try k_lift B'); (try k_fold)))) | (with_reducible ((with_reducible show wpAny _ _ (eval (PySem.Expr.Dict ..) _) _ _ _); refine kdn_str (by k_dflt rfl) (by k_asm) (by first | k_asm | exact News.nil) (by exact Top.nolimit (by k_asm)) (by k_dflt rfl) (by k_dflt rfl) (by exact List.cons_ne_nil _ _) (by k_dflt (exact Nat.le_of_ble_eq_true rfl)) ?_; intro d' h' o' F' N' l1 lo' hd'; (try k_lt l1))) | (with_reducible ((with_reducible show KdnMade ..); k_dflt (refine kdn_made_str (by k_asm) (by k_asm) (by k_updF) (by k_asm) (by rfl) (by exact of_decide_eq_true (by first | rfl | kernel_rfl!)) ?_; intro h' o' F' N' hd'); (try dsimp only [strPairs] at hd'); (try dsimp only at N'))) | (with_reducible ((with_reducible show wpAny _ _ (setItem (Value.ref _) (Value.str _ _) _) _ _ _); k_dflt (refine set_s (knd := PySem.strKind _ _) (by k_asm) (by k_asm) (by k_updF) (by k_asm) (strKind_is _ _ _ _) (by exact rfl) ?_); intro h' o' F' N' hd'; (first | rw [st_state] at hd' | rw [st_dr] at hd' | rw [st_bdr] at hd' | rw [st_dr_address] at hd' | rw [st_bdr_address] at hd' | rw [st_neighbours] at hd' | rw [st_hello_at] at hd' | rw [st_wait_until] at hd' | rw [st_new] at hd' | rw [st_nb] at hd' | simp only [merged, List.foldl_cons, List.foldl_nil, stored, List.any_cons, List.any_nil, List.map_cons, List.map_nil, ofs_eq, String.reduceEq, decide_true, decide_false, Bool.or_true, Bool.true_or, Bool.false_or, Bool.or_false, Bool.false_eq_true, if_true, if_false, List.cons_append, List.nil_append] at hd' | skip); (try dsimp only at N'); (try dsimp only))) | (with_reducible ((with_reducible show wpAny _ _ (eval (PySem.Expr.Subscript (PySem.Expr.Name _ _) (PySem.Expr.Constant (Const.str _) _ _) _) (envOf _ _ _ _ _)) _ _ _); k_dflt (refine sub_key (by k_asm) (by exact rfl) (by k_asm) (by k_mem) (by k_asm) (by (first | with_reducible exact va_router | with_reducible exact va_state | with_reducible exact va_dr | with_reducible exact va_bdr | with_reducible exact va_dr_address | with_reducible exact va_bdr_address | with_reducible exact va_neighbours | with_reducible exact va_hello_at | with_reducible exact va_wait_until | with_reducible exact va_kind | with_reducible exact va_address | with_reducible exact va_priority | with_reducible exact va_hello | with_reducible exact va_dead | with_reducible exact va_options | with_reducible exact va_delay | with_reducible exact va_number | with_reducible exact va_area | with_reducible exact va_stub | with_reducible exact va_length | with_reducible exact va_cost | with_reducible exact va_resend | (repeat (first | exact valueAt_hit | refine (valueAt_miss (by decide)).trans ?_)))) ?_))) | (with_reducible ((with_reducible show wpAny _ _ (subscriptTail _ _ (Value.ref _) (Value.str _ _)) _ _ _); k_dflt (refine kda_item (knd := PySem.strKind _ _) (by k_asm) (by k_mem) (by k_asm) (strKind_is _ _ _ _) (by (first | with_reducible exact va_router | with_reducible exact va_state | with_reducible exact va_dr | with_reducible exact va_bdr | with_reducible exact va_dr_address | with_reducible exact va_bdr_address | with_reducible exact va_neighbours | with_reducible exact va_hello_at | with_reducible exact va_wait_until | with_reducible exact va_kind | with_reducible exact va_address | with_reducible exact va_priority | with_reducible exact va_hello | with_reducible exact va_dead | with_reducible exact va_options | with_reducible exact va_delay | with_reducible exact va_number | with_reducible exact va_area | with_reducible exact va_stub | with_reducible exact va_length | with_reducible exact va_cost | with_reducible exact va_resend | (repeat (first | exact valueAt_hit | refine (valueAt_miss (by decide)).trans ?_)))) ?_))) | walk1 | (dsimp only; walk1) | (leave1; (try dsimp only))))
      refine stop_out ?_
      refine (choice_c hd hws h4 hdn htd htn).use (by k_asm) (by k_asm) (by k_asm) (by k_asm) (by k_asm) (by first | exact rfl | assumption) (by ktr_room) (by ktr_units) []
        (List.forall_mem_cons.mpr ⟨by k_mem, List.forall_mem_cons.mpr ⟨by k_mem, by kcf_all⟩⟩) (fun _ h => nomatch h) (fun _ _ _ h => nomatch h) ?_
      intro r9 foot9 h9 tk9 F9 N9 off9 P9
      obtain ⟨u, e, s1, s2, s3, e9, f9, ne1, ne2⟩ := P9
      subst e9; subst f9
      clear off9
      simp only [List.append_nil] at N9
      dsimp only
      (repeat' (first | (k_unfold; (try dsimp only)) | (k_end; wrow_close) | (with_reducible ((with_reducible show wpAny _ _ (call (Value.ref 185) _) _ _ _); refine stop_at ?_)) | (with_reducible ((with_reducible show wpAny _ _ (exec _ (envOf (Str.ofString "iface_event") _ _ _ _)) _ _ _); (rename Fr _ _ _ _ => lF'); (with_unfolding_all refine For_turns lF' ?_; k_whole))) | (with_reducible ((with_reducible show wpAny _ _ (pyIter (Value.ref _)) (fun it s₂ => TurnsAt _ _ _ _ (envOf (Str.ofString "iface_event") _ _ _ _) _ _ _ _ it s₂) _ _); (rename Fr _ _ _ _ => lF'); (rename News _ _ _ _ => lN'); (with_unfolding_all refine iter_tupTurns (by rfl) lF' lN' (by k_mem) (by rfl) (by rfl) ?_); clear lF' lN'; intro i' l1; (try k_lt l1))) | (with_reducible ((with_reducible show wpAny _ _ (compareOp CmpOp.In (Value.str _ _) (Value.ref 101)) _ _ _); k_dflt (refine in_shared (by assumption) (by k_asm) (by k_asm) ?_))) | (with_reducible ((with_reducible show wpAny _ _ (call (Value.ref 129) _) _ _ _); k_dflt (refine (next_c hev).use (by k_asm) (by k_asm) (by k_asm) (by k_asm) (by k_asm) (by first | exact rfl | assumption) (by ktr_room) (by ktr_units) _ (fun _ h => nomatch h) (fun _ h => h) Off.nil ?_); intro rz lz hz tkz Fz Nz offz Pz; obtain ⟨Dz, Ez, stz, sz0, sz1, sz2, ez, fz, hstz⟩ := Pz; subst ez; subst fz; simp only [List.cons_append, List.nil_append] at Nz; replace offz := offLL_of offz; simp only [OffLL, OffL, and_true] at offz; obtain ⟨offa, offb⟩ := offz; (try dsimp only))) | (with_reducible ((with_reducible show wpAny _ _ (compareOp CmpOp.Eq (Value.str _ _) (Value.str (Str.ofString "wait_over") _)) _ _ _); k_dflt (refine ev_eq hev ?_))) | (with_reducible ((with_reducible refine execs_tk ?_); intro _; (try dsimp only); (try k_fold))) | (with_reducible ((with_reducible show wpAny _ _ (call (Value.ref _) _) _ _ _); refine wpAny_call ?_; k_dflt (refine code_def (by k_asm) (by k_asm) (by k_asm) (by k_asm) (by k_asm) rfl rfl (by first | exact rfl | assumption) (by k_is) (by k_is) (by ktr_room) (by exact BindsTo.of_eq rfl) (by exact locs rfl) ?_ (by exact rfl) (by exact rfl) (by exact rfl) (by decide); k_whole; intro g' L' h' FG' F' N' B' X' T'; (try dsimp only); (try k_lift B'); (try k_fold)))) | (with_reducible ((with_reducible show wpAny _ _ (eval (PySem.Expr.Dict ..) _) _ _ _); refine kdn_str (by k_dflt rfl) (by k_asm) (by first | k_asm | exact News.nil) (by exact Top.nolimit (by k_asm)) (by k_dflt rfl) (by k_dflt rfl) (by exact List.cons_ne_nil _ _) (by k_dflt (exact Nat.le_of_ble_eq_true rfl)) ?_; intro d' h' o' F' N' l1 lo' hd'; (try k_lt l1))) | (with_reducible ((with_reducible show KdnMade ..); k_dflt (refine kdn_made_str (by k_asm) (by k_asm) (by k_updF) (by k_asm) (by rfl) (by exact of_decide_eq_true (by first | rfl | kernel_rfl!)) ?_; intro h' o' F' N' hd'); (try dsimp only [strPairs] at hd'); (try dsimp only at N'))) | (with_reducible ((with_reducible show wpAny _ _ (setItem (Value.ref _) (Value.str _ _) _) _ _ _); k_dflt (refine set_s (knd := PySem.strKind _ _) (by k_asm) (by k_asm) (by k_updF) (by k_asm) (strKind_is _ _ _ _) (by exact rfl) ?_); intro h' o' F' N' hd'; (first | rw [st_state] at hd' | rw [st_dr] at hd' | rw [st_bdr] at hd' | rw [st_dr_address] at hd' | rw [st_bdr_address] at hd' | rw [st_neighbours] at hd' | rw [st_hello_at] at hd' | rw [st_wait_until] at hd' | rw [st_new] at hd' | rw [st_nb] at hd' | simp only [merged, List.foldl_cons, List.foldl_nil, stored, List.any_cons, List.any_nil, List.map_cons, List.map_nil, ofs_eq, String.reduceEq, decide_true, decide_false, Bool.or_true, Bool.true_or, Bool.false_or, Bool.or_false, Bool.false_eq_true, if_true, if_false, List.cons_append, List.nil_append] at hd' | skip); (try dsimp only at N'); (try dsimp only))) | (with_reducible ((with_reducible show wpAny _ _ (eval (PySem.Expr.Subscript (PySem.Expr.Name _ _) (PySem.Expr.Constant (Const.str _) _ _) _) (envOf _ _ _ _ _)) _ _ _); k_dflt (refine sub_key (by k_asm) (by exact rfl) (by k_asm) (by k_mem) (by k_asm) (by (first | with_reducible exact va_router | with_reducible exact va_state | with_reducible exact va_dr | with_reducible exact va_bdr | with_reducible exact va_dr_address | with_reducible exact va_bdr_address | with_reducible exact va_neighbours | with_reducible exact va_hello_at | with_reducible exact va_wait_until | with_reducible exact va_kind | with_reducible exact va_address | with_reducible exact va_priority | with_reducible exact va_hello | with_reducible exact va_dead | with_reducible exact va_options | with_reducible exact va_delay | with_reducible exact va_number | with_reducible exact va_area | with_reducible exact va_stub | with_reducible exact va_length | with_reducible exact va_cost | with_reducible exact va_resend | (repeat (first | exact valueAt_hit | refine (valueAt_miss (by decide)).trans ?_)))) ?_))) | (with_reducible ((with_reducible show wpAny _ _ (subscriptTail _ _ (Value.ref _) (Value.str _ _)) _ _ _); k_dflt (refine kda_item (knd := PySem.strKind _ _) (by k_asm) (by k_mem) (by k_asm) (strKind_is _ _ _ _) (by (first | with_reducible exact va_router | with_reducible exact va_state | with_reducible exact va_dr | with_reducible exact va_bdr | with_reducible exact va_dr_address | with_reducible exact va_bdr_address | with_reducible exact va_neighbours | with_reducible exact va_hello_at | with_reducible exact va_wait_until | with_reducible exact va_kind | with_reducible exact va_address | with_reducible exact va_priority | with_reducible exact va_hello | with_reducible exact va_dead | with_reducible exact va_options | with_reducible exact va_delay | with_reducible exact va_number | with_reducible exact va_area | with_reducible exact va_stub | with_reducible exact va_length | with_reducible exact va_cost | with_reducible exact va_resend | (repeat (first | exact valueAt_hit | refine (valueAt_miss (by decide)).trans ?_)))) ?_))) | walk1 | (dsimp only; walk1) | (leave1; (try dsimp only))))
      exact midEv_intro (by assumption) (by assumption) rfl rfl rfl rfl rfl (by k_mem) (by k_mem) (by kcf_all)
  · intro h9 tk9 m9 news9 F9 N9 M9
    obtain ⟨pv, rs, tr, e9, mp, mr, mi, me, mn⟩ := M9
    subst e9
    replace F9 := fr_name (fr_name2 (fr_name2 F9 mi me (by decide)) (a := "role") (b := "pair") ((if_neg (fun h => absurd (ofs_inj h) (by decide))).trans ((if_neg (fun h => absurd (ofs_inj h) (by decide))).trans mr)) ((if_neg (fun h => absurd (ofs_inj h) (by decide))).trans ((if_neg (fun h => absurd (ofs_inj h) (by decide))).trans mp)) (by decide))
      (x := "now") ((if_neg (fun h => absurd (ofs_inj h) (by decide))).trans ((if_neg (fun h => absurd (ofs_inj h) (by decide))).trans ((if_neg (fun h => absurd (ofs_inj h) (by decide))).trans ((if_neg (fun h => absurd (ofs_inj h) (by decide))).trans mn))))
    simp only [List.drop_succ_cons, List.drop_zero]
    clear mp mr mi me mn
    (repeat' (first | (k_unfold; (try dsimp only)) | (k_end; wrow_close) | (with_reducible ((with_reducible show wpAny _ _ (call (Value.ref 185) _) _ _ _); refine stop_at ?_)) | (with_reducible ((with_reducible show wpAny _ _ (exec _ (envOf (Str.ofString "iface_event") _ _ _ _)) _ _ _); (rename Fr _ _ _ _ => lF'); (with_unfolding_all refine For_turns lF' ?_; k_whole))) | (with_reducible ((with_reducible show wpAny _ _ (pyIter (Value.ref _)) (fun it s₂ => TurnsAt _ _ _ _ (envOf (Str.ofString "iface_event") _ _ _ _) _ _ _ _ it s₂) _ _); (rename Fr _ _ _ _ => lF'); (rename News _ _ _ _ => lN'); (with_unfolding_all refine iter_tupTurns (by rfl) lF' lN' (by k_mem) (by rfl) (by rfl) ?_); clear lF' lN'; intro i' l1; (try k_lt l1))) | (with_reducible ((with_reducible show wpAny _ _ (compareOp CmpOp.In (Value.str _ _) (Value.ref 101)) _ _ _); k_dflt (refine in_shared (by assumption) (by k_asm) (by k_asm) ?_))) | (with_reducible ((with_reducible show wpAny _ _ (call (Value.ref 129) _) _ _ _); k_dflt (refine (next_c hev).use (by k_asm) (by k_asm) (by k_asm) (by k_asm) (by k_asm) (by first | exact rfl | assumption) (by ktr_room) (by ktr_units) _ (fun _ h => nomatch h) (fun _ h => h) Off.nil ?_); intro rz lz hz tkz Fz Nz offz Pz; obtain ⟨Dz, Ez, stz, sz0, sz1, sz2, ez, fz, hstz⟩ := Pz; subst ez; subst fz; simp only [List.cons_append, List.nil_append] at Nz; replace offz := offLL_of offz; simp only [OffLL, OffL, and_true] at offz; obtain ⟨offa, offb⟩ := offz; (try dsimp only))) | (with_reducible ((with_reducible show wpAny _ _ (compareOp CmpOp.Eq (Value.str _ _) (Value.str (Str.ofString "wait_over") _)) _ _ _); k_dflt (refine ev_eq hev ?_))) | (with_reducible ((with_reducible refine execs_tk ?_); intro _; (try dsimp only); (try k_fold))) | (with_reducible ((with_reducible show wpAny _ _ (call (Value.ref _) _) _ _ _); refine wpAny_call ?_; k_dflt (refine code_def (by k_asm) (by k_asm) (by k_asm) (by k_asm) (by k_asm) rfl rfl (by first | exact rfl | assumption) (by k_is) (by k_is) (by ktr_room) (by exact BindsTo.of_eq rfl) (by exact locs rfl) ?_ (by exact rfl) (by exact rfl) (by exact rfl) (by decide); k_whole; intro g' L' h' FG' F' N' B' X' T'; (try dsimp only); (try k_lift B'); (try k_fold)))) | (with_reducible ((with_reducible show wpAny _ _ (eval (PySem.Expr.Dict ..) _) _ _ _); refine kdn_str (by k_dflt rfl) (by k_asm) (by first | k_asm | exact News.nil) (by exact Top.nolimit (by k_asm)) (by k_dflt rfl) (by k_dflt rfl) (by exact List.cons_ne_nil _ _) (by k_dflt (exact Nat.le_of_ble_eq_true rfl)) ?_; intro d' h' o' F' N' l1 lo' hd'; (try k_lt l1))) | (with_reducible ((with_reducible show KdnMade ..); k_dflt (refine kdn_made_str (by k_asm) (by k_asm) (by k_updF) (by k_asm) (by rfl) (by exact of_decide_eq_true (by first | rfl | kernel_rfl!)) ?_; intro h' o' F' N' hd'); (try dsimp only [strPairs] at hd'); (try dsimp only at N'))) | (with_reducible ((with_reducible show wpAny _ _ (setItem (Value.ref _) (Value.str _ _) _) _ _ _); k_dflt (refine set_s (knd := PySem.strKind _ _) (by k_asm) (by k_asm) (by k_updF) (by k_asm) (strKind_is _ _ _ _) (by exact rfl) ?_); intro h' o' F' N' hd'; (first | rw [st_state] at hd' | rw [st_dr] at hd' | rw [st_bdr] at hd' | rw [st_dr_address] at hd' | rw [st_bdr_address] at hd' | rw [st_neighbours] at hd' | rw [st_hello_at] at hd' | rw [st_wait_until] at hd' | rw [st_new] at hd' | rw [st_nb] at hd' | simp only [merged, List.foldl_cons, List.foldl_nil, stored, List.any_cons, List.any_nil, List.map_cons, List.map_nil, ofs_eq, String.reduceEq, decide_true, decide_false, Bool.or_true, Bool.true_or, Bool.false_or, Bool.or_false, Bool.false_eq_true, if_true, if_false, List.cons_append, List.nil_append] at hd' | skip); (try dsimp only at N'); (try dsimp only))) | (with_reducible ((with_reducible show wpAny _ _ (eval (PySem.Expr.Subscript (PySem.Expr.Name _ _) (PySem.Expr.Constant (Const.str _) _ _) _) (envOf _ _ _ _ _)) _ _ _); k_dflt (refine sub_key (by k_asm) (by exact rfl) (by k_asm) (by k_mem) (by k_asm) (by (first | with_reducible exact va_router | with_reducible exact va_state | with_reducible exact va_dr | with_reducible exact va_bdr | with_reducible exact va_dr_address | with_reducible exact va_bdr_address | with_reducible exact va_neighbours | with_reducible exact va_hello_at | with_reducible exact va_wait_until | with_reducible exact va_kind | with_reducible exact va_address | with_reducible exact va_priority | with_reducible exact va_hello | with_reducible exact va_dead | with_reducible exact va_options | with_reducible exact va_delay | with_reducible exact va_number | with_reducible exact va_area | with_reducible exact va_stub | with_reducible exact va_length | with_reducible exact va_cost | with_reducible exact va_resend | (repeat (first | exact valueAt_hit | refine (valueAt_miss (by decide)).trans ?_)))) ?_))) | (with_reducible ((with_reducible show wpAny _ _ (subscriptTail _ _ (Value.ref _) (Value.str _ _)) _ _ _); k_dflt (refine kda_item (knd := PySem.strKind _ _) (by k_asm) (by k_mem) (by k_asm) (strKind_is _ _ _ _) (by (first | with_reducible exact va_router | with_reducible exact va_state | with_reducible exact va_dr | with_reducible exact va_bdr | with_reducible exact va_dr_address | with_reducible exact va_bdr_address | with_reducible exact va_neighbours | with_reducible exact va_hello_at | with_reducible exact va_wait_until | with_reducible exact va_kind | with_reducible exact va_address | with_reducible exact va_priority | with_reducible exact va_hello | with_reducible exact va_dead | with_reducible exact va_options | with_reducible exact va_delay | with_reducible exact va_number | with_reducible exact va_area | with_reducible exact va_stub | with_reducible exact va_length | with_reducible exact va_cost | with_reducible exact va_resend | (repeat (first | exact valueAt_hit | refine (valueAt_miss (by decide)).trans ?_)))) ?_))) | walk1 | (dsimp only; walk1) | (leave1; (try dsimp only))))
    refine ev_turn (by assumption) (by assumption) (by assumption) (by k_mem) (by k_mem) (by k_mem) (by k_mem) (by kcf_all) ?_
    (repeat' (first | (k_unfold; (try dsimp only)) | (k_end; wrow_close) | (with_reducible ((with_reducible show wpAny _ _ (call (Value.ref 185) _) _ _ _); refine stop_at ?_)) | (with_reducible ((with_reducible show wpAny _ _ (exec _ (envOf (Str.ofString "iface_event") _ _ _ _)) _ _ _); (rename Fr _ _ _ _ => lF'); (with_unfolding_all refine For_turns lF' ?_; k_whole))) | (with_reducible ((with_reducible show wpAny _ _ (pyIter (Value.ref _)) (fun it s₂ => TurnsAt _ _ _ _ (envOf (Str.ofString "iface_event") _ _ _ _) _ _ _ _ it s₂) _ _); (rename Fr _ _ _ _ => lF'); (rename News _ _ _ _ => lN'); (with_unfolding_all refine iter_tupTurns (by rfl) lF' lN' (by k_mem) (by rfl) (by rfl) ?_); clear lF' lN'; intro i' l1; (try k_lt l1))) | (with_reducible ((with_reducible show wpAny _ _ (compareOp CmpOp.In (Value.str _ _) (Value.ref 101)) _ _ _); k_dflt (refine in_shared (by assumption) (by k_asm) (by k_asm) ?_))) | (with_reducible ((with_reducible show wpAny _ _ (call (Value.ref 129) _) _ _ _); k_dflt (refine (next_c hev).use (by k_asm) (by k_asm) (by k_asm) (by k_asm) (by k_asm) (by first | exact rfl | assumption) (by ktr_room) (by ktr_units) _ (fun _ h => nomatch h) (fun _ h => h) Off.nil ?_); intro rz lz hz tkz Fz Nz offz Pz; obtain ⟨Dz, Ez, stz, sz0, sz1, sz2, ez, fz, hstz⟩ := Pz; subst ez; subst fz; simp only [List.cons_append, List.nil_append] at Nz; replace offz := offLL_of offz; simp only [OffLL, OffL, and_true] at offz; obtain ⟨offa, offb⟩ := offz; (try dsimp only))) | (with_reducible ((with_reducible show wpAny _ _ (compareOp CmpOp.Eq (Value.str _ _) (Value.str (Str.ofString "wait_over") _)) _ _ _); k_dflt (refine ev_eq hev ?_))) | (with_reducible ((with_reducible refine execs_tk ?_); intro _; (try dsimp only); (try k_fold))) | (with_reducible ((with_reducible show wpAny _ _ (call (Value.ref _) _) _ _ _); refine wpAny_call ?_; k_dflt (refine code_def (by k_asm) (by k_asm) (by k_asm) (by k_asm) (by k_asm) rfl rfl (by first | exact rfl | assumption) (by k_is) (by k_is) (by ktr_room) (by exact BindsTo.of_eq rfl) (by exact locs rfl) ?_ (by exact rfl) (by exact rfl) (by exact rfl) (by decide); k_whole; intro g' L' h' FG' F' N' B' X' T'; (try dsimp only); (try k_lift B'); (try k_fold)))) | (with_reducible ((with_reducible show wpAny _ _ (eval (PySem.Expr.Dict ..) _) _ _ _); refine kdn_str (by k_dflt rfl) (by k_asm) (by first | k_asm | exact News.nil) (by exact Top.nolimit (by k_asm)) (by k_dflt rfl) (by k_dflt rfl) (by exact List.cons_ne_nil _ _) (by k_dflt (exact Nat.le_of_ble_eq_true rfl)) ?_; intro d' h' o' F' N' l1 lo' hd'; (try k_lt l1))) | (with_reducible ((with_reducible show KdnMade ..); k_dflt (refine kdn_made_str (by k_asm) (by k_asm) (by k_updF) (by k_asm) (by rfl) (by exact of_decide_eq_true (by first | rfl | kernel_rfl!)) ?_; intro h' o' F' N' hd'); (try dsimp only [strPairs] at hd'); (try dsimp only at N'))) | (with_reducible ((with_reducible show wpAny _ _ (setItem (Value.ref _) (Value.str _ _) _) _ _ _); k_dflt (refine set_s (knd := PySem.strKind _ _) (by k_asm) (by k_asm) (by k_updF) (by k_asm) (strKind_is _ _ _ _) (by exact rfl) ?_); intro h' o' F' N' hd'; (first | rw [st_state] at hd' | rw [st_dr] at hd' | rw [st_bdr] at hd' | rw [st_dr_address] at hd' | rw [st_bdr_address] at hd' | rw [st_neighbours] at hd' | rw [st_hello_at] at hd' | rw [st_wait_until] at hd' | rw [st_new] at hd' | rw [st_nb] at hd' | simp only [merged, List.foldl_cons, List.foldl_nil, stored, List.any_cons, List.any_nil, List.map_cons, List.map_nil, ofs_eq, String.reduceEq, decide_true, decide_false, Bool.or_true, Bool.true_or, Bool.false_or, Bool.or_false, Bool.false_eq_true, if_true, if_false, List.cons_append, List.nil_append] at hd' | skip); (try dsimp only at N'); (try dsimp only))) | (with_reducible ((with_reducible show wpAny _ _ (eval (PySem.Expr.Subscript (PySem.Expr.Name _ _) (PySem.Expr.Constant (Const.str _) _ _) _) (envOf _ _ _ _ _)) _ _ _); k_dflt (refine sub_key (by k_asm) (by exact rfl) (by k_asm) (by k_mem) (by k_asm) (by (first | with_reducible exact va_router | with_reducible exact va_state | with_reducible exact va_dr | with_reducible exact va_bdr | with_reducible exact va_dr_address | with_reducible exact va_bdr_address | with_reducible exact va_neighbours | with_reducible exact va_hello_at | with_reducible exact va_wait_until | with_reducible exact va_kind | with_reducible exact va_address | with_reducible exact va_priority | with_reducible exact va_hello | with_reducible exact va_dead | with_reducible exact va_options | with_reducible exact va_delay | with_reducible exact va_number | with_reducible exact va_area | with_reducible exact va_stub | with_reducible exact va_length | with_reducible exact va_cost | with_reducible exact va_resend | (repeat (first | exact valueAt_hit | refine (valueAt_miss (by decide)).trans ?_)))) ?_))) | (with_reducible ((with_reducible show wpAny _ _ (subscriptTail _ _ (Value.ref _) (Value.str _ _)) _ _ _); k_dflt (refine kda_item (knd := PySem.strKind _ _) (by k_asm) (by k_mem) (by k_asm) (strKind_is _ _ _ _) (by (first | with_reducible exact va_router | with_reducible exact va_state | with_reducible exact va_dr | with_reducible exact va_bdr | with_reducible exact va_dr_address | with_reducible exact va_bdr_address | with_reducible exact va_neighbours | with_reducible exact va_hello_at | with_reducible exact va_wait_until | with_reducible exact va_kind | with_reducible exact va_address | with_reducible exact va_priority | with_reducible exact va_hello | with_reducible exact va_dead | with_reducible exact va_options | with_reducible exact va_delay | with_reducible exact va_number | with_reducible exact va_area | with_reducible exact va_stub | with_reducible exact va_length | with_reducible exact va_cost | with_reducible exact va_resend | (repeat (first | exact valueAt_hit | refine (valueAt_miss (by decide)).trans ?_)))) ?_))) | walk1 | (dsimp only; walk1) | (leave1; (try dsimp only))))
    refine ev_turn (by assumption) (by assumption) (by assumption) (by k_mem) (by k_mem) (by k_mem) (by k_mem) (by kcf_all) ?_
    (repeat' (first | (k_unfold; (try dsimp only)) | (k_end; wrow_close) | (with_reducible ((with_reducible show wpAny _ _ (call (Value.ref 185) _) _ _ _); refine stop_at ?_)) | (with_reducible ((with_reducible show wpAny _ _ (exec _ (envOf (Str.ofString "iface_event") _ _ _ _)) _ _ _); (rename Fr _ _ _ _ => lF'); (with_unfolding_all refine For_turns lF' ?_; k_whole))) | (with_reducible ((with_reducible show wpAny _ _ (pyIter (Value.ref _)) (fun it s₂ => TurnsAt _ _ _ _ (envOf (Str.ofString "iface_event") _ _ _ _) _ _ _ _ it s₂) _ _); (rename Fr _ _ _ _ => lF'); (rename News _ _ _ _ => lN'); (with_unfolding_all refine iter_tupTurns (by rfl) lF' lN' (by k_mem) (by rfl) (by rfl) ?_); clear lF' lN'; intro i' l1; (try k_lt l1))) | (with_reducible ((with_reducible show wpAny _ _ (compareOp CmpOp.In (Value.str _ _) (Value.ref 101)) _ _ _); k_dflt (refine in_shared (by assumption) (by k_asm) (by k_asm) ?_))) | (with_reducible ((with_reducible show wpAny _ _ (call (Value.ref 129) _) _ _ _); k_dflt (refine (next_c hev).use (by k_asm) (by k_asm) (by k_asm) (by k_asm) (by k_asm) (by first | exact rfl | assumption) (by ktr_room) (by ktr_units) _ (fun _ h => nomatch h) (fun _ h => h) Off.nil ?_); intro rz lz hz tkz Fz Nz offz Pz; obtain ⟨Dz, Ez, stz, sz0, sz1, sz2, ez, fz, hstz⟩ := Pz; subst ez; subst fz; simp only [List.cons_append, List.nil_append] at Nz; replace offz := offLL_of offz; simp only [OffLL, OffL, and_true] at offz; obtain ⟨offa, offb⟩ := offz; (try dsimp only))) | (with_reducible ((with_reducible show wpAny _ _ (compareOp CmpOp.Eq (Value.str _ _) (Value.str (Str.ofString "wait_over") _)) _ _ _); k_dflt (refine ev_eq hev ?_))) | (with_reducible ((with_reducible refine execs_tk ?_); intro _; (try dsimp only); (try k_fold))) | (with_reducible ((with_reducible show wpAny _ _ (call (Value.ref _) _) _ _ _); refine wpAny_call ?_; k_dflt (refine code_def (by k_asm) (by k_asm) (by k_asm) (by k_asm) (by k_asm) rfl rfl (by first | exact rfl | assumption) (by k_is) (by k_is) (by ktr_room) (by exact BindsTo.of_eq rfl) (by exact locs rfl) ?_ (by exact rfl) (by exact rfl) (by exact rfl) (by decide); k_whole; intro g' L' h' FG' F' N' B' X' T'; (try dsimp only); (try k_lift B'); (try k_fold)))) | (with_reducible ((with_reducible show wpAny _ _ (eval (PySem.Expr.Dict ..) _) _ _ _); refine kdn_str (by k_dflt rfl) (by k_asm) (by first | k_asm | exact News.nil) (by exact Top.nolimit (by k_asm)) (by k_dflt rfl) (by k_dflt rfl) (by exact List.cons_ne_nil _ _) (by k_dflt (exact Nat.le_of_ble_eq_true rfl)) ?_; intro d' h' o' F' N' l1 lo' hd'; (try k_lt l1))) | (with_reducible ((with_reducible show KdnMade ..); k_dflt (refine kdn_made_str (by k_asm) (by k_asm) (by k_updF) (by k_asm) (by rfl) (by exact of_decide_eq_true (by first | rfl | kernel_rfl!)) ?_; intro h' o' F' N' hd'); (try dsimp only [strPairs] at hd'); (try dsimp only at N'))) | (with_reducible ((with_reducible show wpAny _ _ (setItem (Value.ref _) (Value.str _ _) _) _ _ _); k_dflt (refine set_s (knd := PySem.strKind _ _) (by k_asm) (by k_asm) (by k_updF) (by k_asm) (strKind_is _ _ _ _) (by exact rfl) ?_); intro h' o' F' N' hd'; (first | rw [st_state] at hd' | rw [st_dr] at hd' | rw [st_bdr] at hd' | rw [st_dr_address] at hd' | rw [st_bdr_address] at hd' | rw [st_neighbours] at hd' | rw [st_hello_at] at hd' | rw [st_wait_until] at hd' | rw [st_new] at hd' | rw [st_nb] at hd' | simp only [merged, List.foldl_cons, List.foldl_nil, stored, List.any_cons, List.any_nil, List.map_cons, List.map_nil, ofs_eq, String.reduceEq, decide_true, decide_false, Bool.or_true, Bool.true_or, Bool.false_or, Bool.or_false, Bool.false_eq_true, if_true, if_false, List.cons_append, List.nil_append] at hd' | skip); (try dsimp only at N'); (try dsimp only))) | (with_reducible ((with_reducible show wpAny _ _ (eval (PySem.Expr.Subscript (PySem.Expr.Name _ _) (PySem.Expr.Constant (Const.str _) _ _) _) (envOf _ _ _ _ _)) _ _ _); k_dflt (refine sub_key (by k_asm) (by exact rfl) (by k_asm) (by k_mem) (by k_asm) (by (first | with_reducible exact va_router | with_reducible exact va_state | with_reducible exact va_dr | with_reducible exact va_bdr | with_reducible exact va_dr_address | with_reducible exact va_bdr_address | with_reducible exact va_neighbours | with_reducible exact va_hello_at | with_reducible exact va_wait_until | with_reducible exact va_kind | with_reducible exact va_address | with_reducible exact va_priority | with_reducible exact va_hello | with_reducible exact va_dead | with_reducible exact va_options | with_reducible exact va_delay | with_reducible exact va_number | with_reducible exact va_area | with_reducible exact va_stub | with_reducible exact va_length | with_reducible exact va_cost | with_reducible exact va_resend | (repeat (first | exact valueAt_hit | refine (valueAt_miss (by decide)).trans ?_)))) ?_))) | (with_reducible ((with_reducible show wpAny _ _ (subscriptTail _ _ (Value.ref _) (Value.str _ _)) _ _ _); k_dflt (refine kda_item (knd := PySem.strKind _ _) (by k_asm) (by k_mem) (by k_asm) (strKind_is _ _ _ _) (by (first | with_reducible exact va_router | with_reducible exact va_state | with_reducible exact va_dr | with_reducible exact va_bdr | with_reducible exact va_dr_address | with_reducible exact va_bdr_address | with_reducible exact va_neighbours | with_reducible exact va_hello_at | with_reducible exact va_wait_until | with_reducible exact va_kind | with_reducible exact va_address | with_reducible exact va_priority | with_reducible exact va_hello | with_reducible exact va_dead | with_reducible exact va_options | with_reducible exact va_delay | with_reducible exact va_number | with_reducible exact va_area | with_reducible exact va_stub | with_reducible exact va_length | with_reducible exact va_cost | with_reducible exact va_resend | (repeat (first | exact valueAt_hit | refine (valueAt_miss (by decide)).trans ?_)))) ?_))) | walk1 | (dsimp only; walk1) | (leave1; (try dsimp only))))
    refine' ctr_end hret ?post ?G ?F' ?N' ?F ?N ?hs
    (case G => assumption); (case F' => assumption); (case N' => assumption); (case F => assumption); (case N => assumption); (case hs => exact fun _ hp => hp)
    case post => exact ⟨_, _, _, _, _, _, _, _, _, _, _, _, _, _, _, _, _, _, _, _, _, rfl, rfl, by assumption, hstz, Ne.symm offb.2.1⟩
end
section
variable {prog : Program} {w : World} {A : Around} {E : Value → Shared → Prop} {s : Shared} {h₀ : Heap} {L e : Addr} {m : PySem.Str → Option Value} {news : List (Addr × Obj)} {o : Obj} {kvs : List (Int × Value)}
theorem intsAre_mk : ∀ {vs : List Value} {ns : List Int}, vs.length = ns.length → (∀ (j : Nat) (v : Value), vs[j]? = some v → ∃ k t, ns[j]? = some k ∧ v = .int k t) → IntsAre vs ns
  | [], [], _, _ => .nil
  | [], _ :: _, h, _ => by simp at h
  | _ :: _, [], h, _ => by simp at h
  | v :: vs, n :: ns, h, k => by
    obtain ⟨k0, t, e, rfl⟩ := k 0 v rfl
    simp at e
    subst e
    exact .cons _ _ (intsAre_mk (by simpa using h) fun j v e => k (j + 1) v (by simpa using e))
/-- sorted of a dict of int keys -/
theorem sorted_D {Q : Value → Shared → Prop} (hh : A.handled = none) (F : Fr h₀ L s.heap m) (N : News h₀ L s.heap news) (hm : (e, o) ∈ news) (hd : o.IsDictOf (intKind prog w) kvs) (lo : (e == sysModules) = false) (hn : kvs.length ≤ 4096)
    (h : ∀ (D : Addr) (h' : Heap) (tk : Nat) (vs : List Value) (ns : List Int) (c : Nat), Fr h₀ L h' m → News h₀ L h' ((D, listOf vs.toArray c) :: news) → (∀ q ∈ news, q.1 < D) →
      IntsAre vs ns → ns.Perm (kvs.map (·.1)) → ns.Pairwise (· ≤ ·) → Q (.ref D) { s with heap := h', toks := tk }) :
    wpAny (model prog w) A (call (.builtin "sorted") [.ref e]) Q E s := by
  have hD : s.heap.DictOf (intKind prog w) e kvs := Heap.dictOf_iff.mpr ⟨o, (N _ hm).1, hd⟩
  obtain ⟨ep, hat⟩ := hD.dictAt
  refine kdu_sorted (kdl_dict (knd := intKind prog w) (kvs := kvs) (ep := ep) lo) hh F N hat (by rw [sizeLine_eq]; omega) fun B h' tk vs F' N' l1 hl hv => ?_
  have hI : IntsAre vs (kvs.map (·.1)) := by
    refine intsAre_mk (by rw [hl, List.length_map]) fun j v hj => ?_
    obtain ⟨k, x, hx, hk⟩ := hv j v hj
    obtain ⟨t, rfl⟩ := Value.isInt_shape hk
    exact ⟨k, t, by rw [List.getElem?_map, hx]; rfl, rfl⟩
  refine sort_N (s := { s with heap := h', toks := tk }) F' N' (fun p hp => Nat.ne_of_lt (l1 p hp)) hI (by omega) fun h2 vs' ns' c F2 N2 a1 a2 a3 => ?_
  exact h B h2 tk vs' ns' c F2 N2 l1 a1 a2 a3
end
theorem keys_stored (c : List (Int × Value)) (k : Int) (v : Value) (x : Int) : x ∈ (stored c k v).map (·.1) ↔ x ∈ c.map (·.1) ∨ x = k := by
  unfold stored
  split
  · rename_i h
    rw [keys_map_store]
    refine ⟨.inl, fun h1 => h1.elim id fun e => ?_⟩
    subst e
    obtain ⟨kv, a1, a2⟩ := List.any_eq_true.mp h
    exact List.mem_map.mpr ⟨kv, a1, of_decide_eq_true a2⟩
  · rw [List.map_append, List.mem_append]; simp
theorem keys_fold (ks : List (Int × Value)) : ∀ (c : List (Int × Value)) (x : Int), x ∈ (ks.foldl (fun c q => stored c q.1 q.2) c).map (·.1) ↔ x ∈ c.map (·.1) ∨ x ∈ ks.map (·.1) := by
  induction ks with
  | nil => intro c x; simp
  | cons q ks ih =>
    intro c x
    rw [List.foldl_cons, ih, keys_stored, List.map_cons, List.mem_cons]
    exact or_assoc
theorem len_fold (ks : List (Int × Value)) : ∀ (c : List (Int × Value)), (ks.foldl (fun c q => stored c q.1 q.2) c).length ≤ c.length + ks.length := by
  induction ks with
  | nil => intro c; simp
  | cons q ks ih =>
    intro c
    rw [List.foldl_cons, List.length_cons]
    have := ih (stored c q.1 q.2)
    have := stored_len c q.1 q.2
    omega
/-- what a hello names of these ids, ahead of the cut -/
def HeardL (l hs : List Int) : Prop := hs.Pairwise (· ≤ ·) ∧ (l.length ≤ 359 ∧ hs.Perm l ∨ 359 < l.length ∧ hs.Nodup ∧ ∀ x, x ∈ hs ↔ x ∈ l)
theorem sorted_unique : ∀ {a b : List Int}, a.Perm b → a.Pairwise (· ≤ ·) → b.Pairwise (· ≤ ·) → a = b
  | [], b, p, _, _ => (List.Perm.nil_eq p)
  | x :: a, [], p, _, _ => by have := p.length_eq; simp at this
  | x :: a, y :: b, p, ha, hb => by
    rw [List.pairwise_cons] at ha hb
    have h1 : x ≤ y := by
      rcases List.mem_cons.mp (p.mem_iff.mpr (List.mem_cons_self (a := y) (l := b))) with e | e
      · exact Int.le_of_eq e.symm
      · exact ha.1 _ e
    have h2 : y ≤ x := by
      rcases List.mem_cons.mp (p.mem_iff.mp (List.mem_cons_self (a := x) (l := a))) with e | e
      · exact Int.le_of_eq e.symm
      · exact hb.1 _ e
    have e : x = y := Int.le_antisymm h1 h2
    subst e
    rw [sorted_unique (p.cons_inv) ha.2 hb.2]
theorem HeardL.unique {l a b : List Int} (ha : HeardL l a) (hb : HeardL l b) : a = b := by
  obtain ⟨sa, ha⟩ := ha
  obtain ⟨sb, hb⟩ := hb
  refine sorted_unique ?_ sa sb
  rcases ha with ⟨l1, pa⟩ | ⟨l1, na, ma⟩ <;> rcases hb with ⟨l2, pb⟩ | ⟨l2, nb, mb⟩
  · exact pa.trans pb.symm
  · omega
  · omega
  · exact (List.perm_ext_iff_of_nodup na nb).mpr fun x => (ma x).trans (mb x).symm
theorem HeardL.le {l a : List Int} (h : HeardL l a) : a.length ≤ l.length ∨ True := .inr trivial
/-- how often each id is there -/
noncomputable def cnt (ns : List Int) : List (Int × Int) := ns.foldl (fun c n => kdfPut c n (kdfLook c n 0 + 1)) []
theorem cnt_snoc (a : List Int) (n : Int) : cnt (a ++ [n]) = kdfPut (cnt a) n (kdfLook (cnt a) n 0 + 1) := by
  unfold cnt; rw [List.foldl_append]; rfl
theorem cnt_len (ns : List Int) : (cnt ns).length ≤ ns.length := by
  suffices h : ∀ (ns : List Int) (c : List (Int × Int)), (ns.foldl (fun c n => kdfPut c n (kdfLook c n 0 + 1)) c).length ≤ c.length + ns.length by simpa [cnt] using h ns []
  intro ns
  induction ns with
  | nil => intro c; simp
  | cons n ns ih =>
    intro c
    rw [List.foldl_cons, List.length_cons]
    have := ih (kdfPut c n (kdfLook c n 0 + 1))
    have := kdfPut_len c n (kdfLook c n 0 + 1)
    (first | lia | omega)
theorem find_map (c : List (Int × Int)) (k v x : Int) (hx : x ≠ k) : (c.map (fun p => if decide (p.1 = k) then (p.1, v) else p)).find? (fun p => decide (p.1 = x)) = c.find? fun p => decide (p.1 = x) := by
  induction c with
  | nil => rfl
  | cons p c ih =>
    rw [List.map_cons, List.find?_cons, List.find?_cons, ih]
    by_cases h : p.1 = k
    · have h2 : p.1 ≠ x := fun e => hx (e.symm.trans h)
      simp [h, Ne.symm hx]
    · simp [h]
theorem find_map_hit (c : List (Int × Int)) (k v : Int) (h : (c.any fun p => decide (p.1 = k)) = true) : ((c.map (fun p => if decide (p.1 = k) then (p.1, v) else p)).find? (fun p => decide (p.1 = k))).map (·.2) = some v := by
  induction c with
  | nil => simp at h
  | cons p c ih =>
    rw [List.map_cons, List.find?_cons]
    by_cases h1 : p.1 = k
    · simp [h1]
    · have h2 : (c.any fun p => decide (p.1 = k)) = true := by simpa [h1] using h
      simp only [h1, decide_false, Bool.false_eq_true, if_false]
      exact ih h2
theorem look_put (c : List (Int × Int)) (k v x : Int) : kdfLook (kdfPut c k v) x 0 = if x = k then v else kdfLook c x 0 := by
  unfold kdfLook kdfPut
  by_cases h : (c.any fun p => decide (p.1 = k)) = true
  · rw [if_pos h]
    by_cases hx : x = k
    · subst hx
      rw [if_pos rfl, find_map_hit c x v h]; rfl
    · rw [if_neg hx, find_map c k v x hx]
  · rw [if_neg h, List.find?_append]
    by_cases hx : x = k
    · subst hx
      have : c.find? (fun p => decide (p.1 = x)) = none := by
        rw [List.find?_eq_none]
        intro p hp hq
        exact h (List.any_eq_true.mpr ⟨p, hp, hq⟩)
      rw [this, if_pos rfl]
      simp
    · rw [if_neg hx]
      have : [(k, v)].find? (fun p => decide (p.1 = x)) = none := by simp [Ne.symm hx]
      rw [this, Option.or_none]
theorem keys_put (c : List (Int × Int)) (k v x : Int) : x ∈ (kdfPut c k v).map (·.1) ↔ x ∈ c.map (·.1) ∨ x = k := by
  unfold kdfPut
  split
  · rename_i h
    rw [List.map_map]
    have e : (c.map ((fun p : Int × Int => p.1) ∘ fun p => if decide (p.1 = k) = true then (p.1, v) else p)) = c.map (·.1) := by
      refine List.map_congr_left fun p _ => ?_
      simp only [Function.comp]
      split <;> rfl
    rw [e]
    refine ⟨.inl, fun h1 => h1.elim id fun e => ?_⟩
    subst e
    obtain ⟨kv, a1, a2⟩ := List.any_eq_true.mp h
    exact List.mem_map.mpr ⟨kv, a1, of_decide_eq_true a2⟩
  · rw [List.map_append, List.mem_append]; simp
theorem list_snoc_ind {P : List Int → Prop} (h0 : P []) (h1 : ∀ l a, P l → P (l ++ [a])) : ∀ l, P l := by
  intro l
  have h : ∀ l : List Int, P l.reverse := by
    intro l
    induction l with
    | nil => exact h0
    | cons a l ih => rw [List.reverse_cons]; exact h1 _ _ ih
  have := h l.reverse
  rwa [List.reverse_reverse] at this
theorem look_cnt (ns : List Int) (x : Int) : kdfLook (cnt ns) x 0 = (ns.count x : Nat) := by
  revert x
  refine list_snoc_ind (P := fun ns => ∀ x, kdfLook (cnt ns) x 0 = (ns.count x : Nat)) (fun x => rfl) (fun l a ih x => ?_) ns
  rw [cnt_snoc, look_put, List.count_append, List.count_singleton]
  by_cases h : x = a
  · subst h
    rw [if_pos rfl, ih, beq_self_eq_true, if_pos rfl]
    (first | lia | omega)
  · rw [if_neg h, ih]
    have : (a == x) = false := beq_eq_false_iff_ne.mpr (Ne.symm h)
    rw [this]
    simp
theorem keys_cnt (ns : List Int) (x : Int) : x ∈ (cnt ns).map (·.1) ↔ x ∈ ns := by
  revert x
  refine list_snoc_ind (P := fun ns => ∀ x, x ∈ (cnt ns).map (·.1) ↔ x ∈ ns) (fun x => by simp [cnt]) (fun l a ih x => ?_) ns
  rw [cnt_snoc, keys_put, ih, List.mem_append, List.mem_singleton]
theorem has_cnt (ns : List Int) (x : Int) (h : x ∈ ns) : kdfHas (cnt ns) x = true := by
  obtain ⟨p, hp, e⟩ := List.mem_map.mp ((keys_cnt ns x).mpr h)
  exact List.any_eq_true.mpr ⟨p, hp, decide_eq_true e⟩
theorem flat_keys : ∀ {kvs : List (Int × Value)} {c : List (Int × Int)}, PyProof.V.FlatPairs PyData.int kvs (kdfD c) → kvs.map (·.1) = c.map (·.1)
  | [], [], _ => rfl
  | [], (_, _) :: _, h => by cases h
  | (k, v) :: kvs, [], h => by cases h
  | (k, v) :: kvs, (a, b) :: c, h => by
    generalize e : kdfD ((a, b) :: c) = D at h
    cases h with
    | cons h1 h2 =>
      have e2 : kdfD ((a, b) :: c) = (PyData.int a, PyData.int b) :: kdfD c := rfl
      rw [e2] at e
      injection e with e3 e4
      injection e3 with e5 e6
      injection e5 with e5
      subst e4
      rw [List.map_cons, List.map_cons, flat_keys h2, e5]
/-- the ids written out -/
noncomputable def expand (c : List (Int × Int)) (b : Bool) (l : List Int) : List Int := l.flatMap fun n => List.replicate (if b then (kdfLook c n 0).toNat else 1) n
theorem expand_snoc (c : List (Int × Int)) (b : Bool) (l : List Int) (n : Int) : expand c b (l ++ [n]) = expand c b l ++ List.replicate (if b then (kdfLook c n 0).toNat else 1) n := by
  unfold expand; rw [List.flatMap_append]; simp
theorem expand_mem {c : List (Int × Int)} {b : Bool} {x : Int} : ∀ {l : List Int}, x ∈ expand c b l → x ∈ l := by
  intro l h
  obtain ⟨n, hn, hx⟩ := List.mem_flatMap.mp h
  rw [List.eq_of_mem_replicate hx]; exact hn
theorem expand_sorted (c : List (Int × Int)) (b : Bool) : ∀ {l : List Int}, l.Pairwise (· ≤ ·) → (expand c b l).Pairwise (· ≤ ·)
  | [], _ => .nil
  | n :: l, h => by
    rw [List.pairwise_cons] at h
    show (List.replicate _ n ++ expand c b l).Pairwise (· ≤ ·)
    refine List.pairwise_append.mpr ⟨?_, expand_sorted c b h.2, fun x hx y hy => ?_⟩
    · exact List.pairwise_replicate.mpr (.inr (Int.le_refl _))
    · rw [List.eq_of_mem_replicate hx]; exact h.1 y (expand_mem hy)
theorem expand_one (c : List (Int × Int)) : ∀ (l : List Int), expand c false l = l
  | [] => rfl
  | n :: l => by
    show List.replicate 1 n ++ expand c false l = n :: l
    rw [expand_one c l]; rfl
theorem expand_count (ns : List Int) (x : Int) : ∀ {l : List Int}, l.Nodup → (expand (cnt ns) true l).count x = if x ∈ l then ns.count x else 0
  | [], _ => by simp [expand]
  | n :: l, h => by
    rw [List.nodup_cons] at h
    show (List.replicate (if true then (kdfLook (cnt ns) n 0).toNat else 1) n ++ expand (cnt ns) true l).count x = _
    rw [List.count_append, expand_count ns x h.2, List.count_replicate, look_cnt]
    by_cases e : n = x
    · subst e
      simp [h.1]
    · have e2 : x ≠ n := Ne.symm e
      simp [e, e2]
theorem expand_heard {ns ks : List Int} (hk : ∀ x, x ∈ ks ↔ x ∈ ns) (hn : ks.Nodup) (hs : ks.Pairwise (· ≤ ·)) : HeardL ns (expand (cnt ns) (decide (ns.length ≤ 359)) ks) := by
  refine ⟨expand_sorted _ _ hs, ?_⟩
  by_cases h : ns.length ≤ 359
  · refine .inl ⟨h, ?_⟩
    rw [decide_eq_true h]
    refine List.perm_iff_count.mpr fun x => ?_
    rw [expand_count ns x hn]
    split
    · rfl
    · rename_i hx
      rw [List.count_eq_zero.mpr fun h => hx ((hk x).mpr h)]
  · refine .inr ⟨by (first | lia | omega), ?_⟩
    rw [decide_eq_false h, expand_one]
    exact ⟨hn, hk⟩
section
variable {prog : Program} {w : World} {A : Around} {E : Value → Shared → Prop} {s : Shared} {h₀ : Heap} {L : Addr} {m : PySem.Str → Option Value} {news news' : List (Addr × Obj)} {l b D : Addr} {x : Int} {u : Tok} {Q : Value → Shared → Prop}
theorem rep_flat (v : Value) : ∀ n : Nat, (List.replicate n [v]).flatten = List.replicate n v
  | 0 => rfl
  | n + 1 => by rw [List.replicate_succ, List.flatten_cons, rep_flat v n]; rfl
theorem rep_ne {v : Value} (h : 1 ≤ x) : List.replicate x.toNat v ≠ [] := fun q => by
  have := congrArg List.length q
  rw [List.length_replicate, List.length_nil] at this
  (first | lia | omega)
/-- a list of one item, some times -/
theorem mul_one_K {v : Value} {k : Nat} (Fm : Fr h₀ L s.heap m) (N : News h₀ L s.heap news) (hm : (l, listOf #[v] k) ∈ news) (hlo : 0 ≤ x) (hhi : x ≤ 100000)
    (h : ∀ D h', Fr h₀ L h' m → News h₀ L h' ((D, listOf (List.replicate x.toNat v).toArray 0) :: news) → (∀ p ∈ news, p.1 < D) → Q (.ref D) { s with heap := h' }) : wpAny (model prog w) A (binaryOp .Mult (.ref l) (.int x u)) Q E s := by
  have ho := (N _ hm).1
  refine wpAny_binaryOp_repeat_ref (T := "list") (U := "int") (by decide) ⟨_, ho, rfl⟩ (fun s' => typeIs_int s' x u) noFill_list_mul F.fills_int_mul F.slot_int_rmul repeat_list F.slot_int_index.lookup
    (call_meets F.slot_int_rmul (typeIs_int s x u) F.entry_int_rmul (F.args_int_rmul_2 _ _) (lm_int_rmul_list_any x u l [v].toArray k none #[])
      ⟨ho, rfl, ⟨_, ho, rfl⟩, call_meets F.slot_list_mul ⟨_, ho, rfl⟩ F.entry_list_mul (F.args_list_mul_2 _ _)
        (lm_list_mul_any l [v].toArray k none #[] x u (by simp [Builtin.List.listFitsIndex]; (first | lia | omega)) (by simp; (first | lia | omega)) (by simp [Builtin.List.listTooLong, sizeLine]; (first | lia | omega)))
        ⟨ho, ?_⟩⟩)
  have N' := News.push Fm N { cls := Value.type "list", data := Data.seq (List.foldl (fun x1 x2 => x1 ++ x2) #[] (List.replicate (if [v].toArray.isEmpty = true then 0 else x.toNat) [v].toArray)) }
  rw [listMul_foldl_if, rep_flat] at N'
  rw [listMul_foldl_if, rep_flat]
  exact h _ _ (Fm.push _) N' (fun p hp => Heap.lt_size (N p hp).1)
/-- a list put behind a list -/
theorem ext_K {xs ys : List Value} {n n2 : Nat} (F : Fr h₀ L s.heap m) (N : News h₀ L s.heap news) (hb : (b, listOf ys.toArray n2) ∈ news) (hne : ys ≠ [])
    (U : Upd D (listOf xs.toArray n) (listOf (xs ++ ys).toArray (n + 1)) news news') (hz : xs.length + ys.length ≤ 1000000)
    (h : ∀ h', Fr h₀ L h' m → News h₀ L h' news' → Q .none { s with heap := h' }) : wpAny (model prog w) A (call (.builtin "list.extend") [.ref D, .ref b]) Q E s := by
  refine kl_extend F N hb (l := xs ++ ys) rfl (fun q => hne (List.length_eq_zero_iff.mp q)) U ?_ ?_ ?_ h
  · rw [List.size_toArray, List.size_toArray]
    intro q
    have := (Bool.and_eq_true_iff.mp q).2
    simp [Builtin.List.listTooLong, sizeLine] at this
    (first | lia | omega)
  · show xs.length ≤ _
    rw [sizeLine_eq]; (first | lia | omega)
  · rw [List.size_toArray, List.size_toArray, sizeLine_eq]; (first | lia | omega)
end
theorem off_M13 : True := by w_top off; trivial
/-- the ledger bears a neighbour of the law's second list at v -/
inductive HbAt (w : World) (news : Led) (v : Value) (r : Int) (b : Bool) : Prop
  | mk (p o t1 t2) (q1 : v = .ref p) (q2 : (p, o) ∈ news) (q3 : o.IsDictOf (PySem.strKind PR w) [("router", .int r t1), ("state", .str (Str.ofString (if b then "init" else "down")) t2)]) : HbAt w news v r b
def HbsAt (w : World) (news : Led) (vs : List Value) (xs : List (Int × Bool)) : Prop :=
  vs.length = xs.length ∧ ∀ (i : Nat) (r : Int) (b : Bool), xs[i]? = some (r, b) → ∃ v, vs[i]? = some v ∧ HbAt w news v r b
/-- the ids that are heard -/
noncomputable def heardOf (xs : List (Int × Bool)) : List Int := (xs.filter (·.2)).map (·.1)
/-- behind the first two rows of own_hello -/
inductive MidHl (d nb : Addr) (o lo : Obj) (tl : Led) (xs : List (Int × Bool)) (tm : Tok) (m' : PySem.Str → Option Value) (news' : Led) : Prop
  | mk (D vs c hs) (q1 : news' = (D, listOf vs.toArray c) :: (d, o) :: (nb, lo) :: tl) (q2 : m' "heard" = some (.ref D)) (q3 : m' "iface" = some (.ref d)) (q4 : m' "most" = some (.int 359 tm)) (q5 : IntsAre vs hs) (q6 : HeardL (heardOf xs) hs) (q7 : hs.length ≤ 720) : MidHl d nb o lo tl xs tm m' news'
theorem heard_len (xs : List (Int × Bool)) : (heardOf xs).length ≤ xs.length := by
  unfold heardOf; rw [List.length_map]; exact List.length_filter_le _ _
theorem heard_snoc {xs : List (Int × Bool)} {i : Nat} {r : Int} {b : Bool} (h : xs[i]? = some (r, b)) : heardOf (xs.take (i + 1)) = if b then heardOf (xs.take i) ++ [r] else heardOf (xs.take i) := by
  unfold heardOf
  rw [List.take_add_one, h, Option.toList_some, List.filter_append, List.map_append]
  cases b <;> simp
noncomputable abbrev ptup (n : Int) (t : Tok) : Obj := { cls := .type "tuple", data := .seq #[.int n t, .bool true] }
noncomputable abbrev trues (ns : List Int) : List (Int × Value) := ns.map fun r => (r, Value.bool true)
/-- between the turns of the comprehension of pairs -/
def TurnPr (ns : List Int) (base : Led) (i : Nat) (ys : List Value) (news : Led) : Prop := ys.length = i ∧ PairsIn news ys (trues (ns.take i)) ∧ ∀ p ∈ base, p ∈ news
theorem pairsIn_mono {news news' : Led} {vs : List Value} {ks : List (Int × Value)} (h : PairsIn news vs ks) (k : ∀ p ∈ news, p ∈ news') : PairsIn news' vs ks :=
  ⟨h.1, fun i a v e => let ⟨p, t, a1, a2⟩ := h.2 i a v e; ⟨p, t, a1, k _ a2⟩⟩
theorem turnPr_succ {ns : List Int} {base : Led} {i : Nat} {ys : List Value} {news : Led} {n : Int} {t : Tok} {T : Addr} (h : TurnPr ns base i ys news) (hn : ns[i]? = some n) : TurnPr ns base (i + 1) (ys ++ [.ref T]) ((T, ptup n t) :: news) := by
  obtain ⟨h1, h2, h3⟩ := h
  have hlt : i < ns.length := (List.getElem?_eq_some_iff.mp hn).1
  refine ⟨by rw [List.length_append, h1]; rfl, ⟨?_, ?_⟩, fun p hp => .tail _ (h3 p hp)⟩
  · rw [List.length_append, h1]; simp; (first | lia | omega)
  · intro j k v e
    rw [trues, List.getElem?_map] at e
    by_cases hj : j < i
    · rw [List.getElem?_take_of_lt (by (first | lia | omega))] at e
      obtain ⟨p, t2, a1, a2⟩ := h2.2 j k v (by rw [trues, List.getElem?_map, List.getElem?_take_of_lt hj]; exact e)
      exact ⟨p, t2, by rw [List.getElem?_append_left (by (first | lia | omega))]; exact a1, .tail _ a2⟩
    · by_cases hj2 : j = i
      · subst hj2
        rw [List.getElem?_take_of_lt (by (first | lia | omega)), hn] at e
        simp at e
        obtain ⟨rfl, rfl⟩ := e
        exact ⟨T, t, by rw [List.getElem?_append_right (by (first | lia | omega)), h1, Nat.sub_self]; rfl, .head _⟩
      · rw [List.getElem?_eq_none (by rw [List.length_take]; (first | lia | omega))] at e
        simp at e
theorem turnPr_end {ns : List Int} {base news all : Led} {i : Nat} {ys : List Value} {n : Int} {t : Tok} {T I C D ax : Addr} {oI oC : Obj} {its : Array Value} {k : Nat} {h₀ g h' : Heap} {L : Addr} {m : PySem.Str → Option Value} {s₁ : Shared} {tk : Nat}
    (F : Fr g L h' m) (N : News g L h' all) (hT : (T, ptup n t) ∈ all) (hI : (I, oI) ∈ all) (hC : (C, oC) ∈ all) (hD : (D, LCg.lst ys) ∈ all) (hz : ∀ p ∈ news, p ∈ all) (off : LCg.Off3 I C D news) (tI : @Ne Nat T I) (tC : @Ne Nat T C) (tD : @Ne Nat T D)
    (hS : (ax, listOf its k) ∈ base) (h : TurnPr ns base i ys news) (hn : ns[i]? = some n) :
    LCg.CompEnd g L m s₁ I oI C oC D (LCg.lst ys) (LCg.SrcAt h₀ ax its) (fun y news' => TurnPr ns base (i + 1) (ys ++ [y]) news') (.ref T) { s₁ with heap := h', toks := tk } :=
  LCg.CompEnd.intro F N ((T, ptup n t) :: news) (List.forall_mem_cons.mpr ⟨hI, List.forall_mem_cons.mpr ⟨hC, List.forall_mem_cons.mpr ⟨hD, List.forall_mem_cons.mpr ⟨hT, hz⟩⟩⟩⟩) ⟨⟨tI, tC, tD⟩, off⟩ (.inr ⟨_, .tail _ (h.2.2 _ hS), rfl, _, rfl⟩) (turnPr_succ h hn)
theorem midHl_intro {d nb D : Addr} {o lo : Obj} {tl all : Led} {xs : List (Int × Bool)} {tm : Tok} {vs : List Value} {c : Nat} {hs : List Int} {g h' : Heap} {L : Addr} {s₁ : Shared} {tk : Nat} {m' : PySem.Str → Option Value} (F : Fr g L h' m') (N : News g L h' all)
    (m1 : m' "heard" = some (.ref D)) (m2 : m' "iface" = some (.ref d)) (m3 : m' "most" = some (.int 359 tm)) (hD : (D, listOf vs.toArray c) ∈ all) (hd : (d, o) ∈ all) (hn : (nb, lo) ∈ all) (hz : ∀ p ∈ tl, p ∈ all)
    (hi : IntsAre vs hs) (hh : HeardL (heardOf xs) hs) (hl : hs.length ≤ 720) : CutEnd g L s₁ (MidHl d nb o lo tl xs tm) .next { s₁ with heap := h', toks := tk } :=
  CutEnd.intro _ ⟨D, vs, c, hs, rfl, m1, m2, m3, hi, hh, hl⟩ F N (List.forall_mem_cons.mpr ⟨hD, List.forall_mem_cons.mpr ⟨hd, List.forall_mem_cons.mpr ⟨hn, hz⟩⟩⟩)
theorem dk_nodup {w : World} {o : Obj} {ns ms : List Int} (h : o.IsDictOf (intKind PR w) ((trues ns).foldl (fun c q => stored c q.1 q.2) [])) (p : ms.Perm (((trues ns).foldl (fun c q => stored c q.1 q.2) []).map (·.1))) : ms.Nodup := by
  obtain ⟨_, _, _, _, _, _, hn⟩ := h
  exact p.nodup_iff.mpr hn
theorem dk_mem {ns ms : List Int} (p : ms.Perm (((trues ns).foldl (fun c q => stored c q.1 q.2) []).map (·.1))) (x : Int) : x ∈ ms ↔ x ∈ ns := by
  rw [p.mem_iff, keys_fold]
  simp
/-- behind own_hello -/
inductive HelloP (xs : List (Int × Bool)) (z : Value) (l : Led) : Prop
  | mk (D H : Addr) (vs : List Value) (hs : List Int) (a1 a2 a3 a4 a5 a6 a7 a8 : Value) (q1 : z = .ref D) (q2 : l = [(D, tup [a1, a2, a3, a4, a5, a6, a7, a8, .ref H]), (H, tup vs)]) (q3 : IntsAre vs (hs.take 359)) (q4 : HeardL (heardOf xs) hs) : HelloP xs z l
set_option maxHeartbeats 4000000 in
theorem hello_c {w : World} {d nb : Addr} {o : Obj} {kd st : PySem.Str} {own dr bdr dra bdra : Int} {ha wu de op : Value} {t1 t2 t3 t4 t5 t6 t7 t8 t9 t10 t11 t12 t13 t14 t15 t16 tm : Tok} {ws : List Value} {xs : List (Int × Bool)} {k : Nat} {tl : Led}
    (hd : o.IsDictOf (PySem.strKind PR w) (ifKvs kd st own dr bdr dra bdra nb ha wu de op t1 t2 t3 t4 t5 t6 t7 t8 t9 t10 t11 t12 t13 t14 t15 t16)) (hws : HbsAt w tl ws xs) (h720 : ws.length ≤ 720)
    (hdn : NeA d nb) (htd : ∀ p ∈ tl, p.1 ≠ d) (htn : ∀ p ∈ tl, p.1 ≠ nb) :
    Ctr w 4 178 [.ref d, .int 359 tm] ((d, o) :: (nb, listOf ws.toArray k) :: tl)
      (HelloP xs) := by
  unfold Ctr
  intro mean mg mb dp un gd cn cs a' ccd cl outer A₀ base h₀ L m s Q E B F X N T hk hdp hun hret
  unfold NeA at hdn
  refine wpAny_call ?_
  k_dflt ((refine' code_defG ?k1 ?k2 ?k3 ?k4 ?k5 ?kA ?kF ?kK ?k6 ?k7 ?k8 ?k9 ?kB ?_ ?c2 ?c3 ?c4 ?c5; (case kA => exact rfl); (case kF => exact rfl); (case kK => assumption); (case k1 => k_asm); (case k2 => k_asm); (case k3 => k_asm); (case k4 => k_asm); (case k5 => k_asm); (case k6 => k_is); (case k7 => k_is); (case k8 => ktr_room); (case k9 => exact binds_K (by k_in) rfl (by k_is) rfl rfl rfl); (case c5 => decide); (case kB => exact locs rfl); (case c2 => exact rfl); (case c3 => exact rfl); (case c4 => exact rfl); k_whole; intro g' L' h' FG' F' N' B' X' T' kG'; (try dsimp only); (try k_lift B'); (try k_fold)))
  refine execs_cut 2 (by k_asm) (MidHl d nb o (listOf ws.toArray k) tl xs tm) ?_ ?_
  · simp only [List.take_succ_cons, List.take_zero]
    (repeat' (first | (k_unfold; (try dsimp only)) | (k_end; wrow_close) | (with_reducible ((with_reducible show wpAny _ _ (eval (Expr.ListComp (Expr.Subscript _ _ _) _ _ _) (envOf (Str.ofString "own_hello") _ _ _ _)) _ _ _); k_dflt (refine LCt.ListComp_T (F₀ := by k_asm) (by with_unfolding_all rfl) (by decide) (by rfl) (by decide) (by rfl) ?_))) | (with_reducible ((with_reducible show wpAny _ _ (eval (Expr.ListComp (Expr.Tuple _ _ _) _ _ _) (envOf (Str.ofString "own_hello") _ _ _ _)) _ _ _); k_dflt (refine LCg.ListComp_U (F₀ := by k_asm) (by with_unfolding_all rfl) (by decide) (by rfl) (by decide) (by rfl) ?_))) | (with_reducible ((with_reducible show LCg.CompSrc ..); (k_dflt (refine LCg.CompSrc.ledger (by rfl) (by k_asm) (by k_asm) (by k_mem) (by rw [List.size_toArray, sizeLine_eq]; (first | lia | omega)) ?_); intro g'))) | (with_reducible ((with_reducible show LCg.CompRest ..); (refine stop_at ?_))) | (with_reducible ((with_reducible show LCt.CompSrcT ..); (k_dflt (refine LCt.CompSrcT.ledger (by rfl) (by k_asm) (by k_asm) (by k_mem) (by rw [List.size_toArray, sizeLine_eq]; (first | lia | omega)) ?_); intro g'))) | (with_reducible ((with_reducible show wpAny _ _ (call (Value.ref 151) _) _ _ _); k_dflt (first | (refine told1_c.use (by k_asm) (by k_asm) (by k_asm) (by k_asm) (by k_asm) (by first | exact rfl | assumption) (by ktr_room) (by ktr_units) _ (fun _ h => nomatch h) (fun _ h => h) Off.nil ?_) | (refine told0_c.use (by k_asm) (by k_asm) (by k_asm) (by k_asm) (by k_asm) (by first | exact rfl | assumption) (by ktr_room) (by ktr_units) _ (fun _ h => nomatch h) (fun _ h => h) Off.nil ?_)); intro rz9 lz9 hz9 tkz9 Fz9 Nz9 offz9 Pz9; obtain ⟨ez9, fz9⟩ := Pz9; subst ez9; subst fz9; simp only [List.nil_append] at Nz9; clear offz9; (try dsimp only))) | (with_reducible ((with_reducible show wpAny _ _ (call (Value.builtin "sorted") _) _ _ _); (refine stop_at ?_))) | (with_reducible ((with_reducible show wpAny _ _ (call (Value.type "dict") _) _ _ _); (refine stop_at ?_))) | (with_reducible ((with_reducible refine execs_tk ?_); intro _; (try dsimp only); (try k_fold))) | (with_reducible ((with_reducible show wpAny _ _ (call (Value.ref _) _) _ _ _); refine wpAny_call ?_; k_dflt (refine code_def (by k_asm) (by k_asm) (by k_asm) (by k_asm) (by k_asm) rfl rfl (by first | exact rfl | assumption) (by k_is) (by k_is) (by ktr_room) (by exact BindsTo.of_eq rfl) (by exact locs rfl) ?_ (by exact rfl) (by exact rfl) (by exact rfl) (by decide); k_whole; intro g' L' h' FG' F' N' B' X' T'; (try dsimp only); (try k_lift B'); (try k_fold)))) | (with_reducible ((with_reducible show wpAny _ _ (eval (PySem.Expr.Dict ..) _) _ _ _); refine kdn_str (by k_dflt rfl) (by k_asm) (by first | k_asm | exact News.nil) (by exact Top.nolimit (by k_asm)) (by k_dflt rfl) (by k_dflt rfl) (by exact List.cons_ne_nil _ _) (by k_dflt (exact Nat.le_of_ble_eq_true rfl)) ?_; intro d' h' o' F' N' l1 lo' hd'; (try k_lt l1))) | (with_reducible ((with_reducible show KdnMade ..); k_dflt (refine kdn_made_str (by k_asm) (by k_asm) (by k_updF) (by k_asm) (by rfl) (by exact of_decide_eq_true (by first | rfl | kernel_rfl!)) ?_; intro h' o' F' N' hd'); (try dsimp only [strPairs] at hd'); (try dsimp only at N'))) | (with_reducible ((with_reducible show wpAny _ _ (call (Value.builtin "dict.update") [Value.ref _, Value.ref _]) _ _ _); k_dflt (refine upd_s (knd := PySem.strKind _ _) (by k_asm) (by k_asm) (by k_updF) (by k_asm) (by k_mem) (by k_asm) (by k_asm) (by first | assumption | k_ne) (by exact rfl) ?_); intro h' o' F' N' hd'; (first | rw [mg_line] at hd' | rw [mg_shared] at hd' | rw [mg_new1] at hd' | rw [mg_new2] at hd' | rw [mg_nb] at hd' | rw [mg_hv1] at hd' | rw [mg_hv2] at hd' | simp only [merged, List.foldl_cons, List.foldl_nil, stored, List.any_cons, List.any_nil, List.map_cons, List.map_nil, ofs_eq, String.reduceEq, decide_true, decide_false, Bool.or_true, Bool.true_or, Bool.false_or, Bool.or_false, Bool.false_eq_true, if_true, if_false, List.cons_append, List.nil_append] at hd' | skip); (try dsimp only at N'))) | (with_reducible ((with_reducible show wpAny _ _ (getMethod (Value.ref _) (Str.ofString "update") _) _ _ _); k_dflt (refine meth_upd (knd := PySem.strKind _ _) (by k_asm) (by k_mem) (by k_asm) ?_))) | (with_reducible ((with_reducible show wpAny _ _ (callWith _ (Value.builtin _) (_ :: _) (backTo _ (starEach (_ :: _) _)) []) _ _ _); k_dflt (refine callWith_method1 ?_))) | (with_reducible ((with_reducible show wpAny _ _ (eval (PySem.Expr.Subscript (PySem.Expr.Name _ _) (PySem.Expr.Constant (Const.str _) _ _) _) (envOf _ _ _ _ _)) _ _ _); k_dflt (refine sub_key (by k_asm) (by exact rfl) (by k_asm) (by k_mem) (by k_asm) (by (first | with_reducible exact va_router | with_reducible exact va_state | with_reducible exact va_dr | with_reducible exact va_bdr | with_reducible exact va_dr_address | with_reducible exact va_bdr_address | with_reducible exact va_neighbours | with_reducible exact va_hello_at | with_reducible exact va_wait_until | with_reducible exact va_kind | with_reducible exact va_address | with_reducible exact va_priority | with_reducible exact va_hello | with_reducible exact va_dead | with_reducible exact va_options | with_reducible exact va_delay | with_reducible exact va_number | with_reducible exact va_area | with_reducible exact va_stub | with_reducible exact va_length | with_reducible exact va_cost | with_reducible exact va_resend | (repeat (first | exact valueAt_hit | refine (valueAt_miss (by decide)).trans ?_)))) ?_))) | (with_reducible ((with_reducible show wpAny _ _ (subscriptTail _ _ (Value.ref _) (Value.str _ _)) _ _ _); k_dflt (refine kda_item (knd := PySem.strKind _ _) (by k_asm) (by k_mem) (by k_asm) (strKind_is _ _ _ _) (by (first | with_reducible exact va_router | with_reducible exact va_state | with_reducible exact va_dr | with_reducible exact va_bdr | with_reducible exact va_dr_address | with_reducible exact va_bdr_address | with_reducible exact va_neighbours | with_reducible exact va_hello_at | with_reducible exact va_wait_until | with_reducible exact va_kind | with_reducible exact va_address | with_reducible exact va_priority | with_reducible exact va_hello | with_reducible exact va_dead | with_reducible exact va_options | with_reducible exact va_delay | with_reducible exact va_number | with_reducible exact va_area | with_reducible exact va_stub | with_reducible exact va_length | with_reducible exact va_cost | with_reducible exact va_resend | (repeat (first | exact valueAt_hit | refine (valueAt_miss (by decide)).trans ?_)))) ?_))) | walk1 | (dsimp only; walk1) | (leave1; (try dsimp only))))
    refine compT_ind (fun i ys news => news = (d, o) :: (nb, listOf ws.toArray k) :: tl ∧ IntsAre ys (heardOf (xs.take i))) ?_ ?_ _ _ _ _ (Nat.zero_add _) ⟨rfl, ?_⟩
    · intro ys news8 h8
      obtain ⟨e1, e2⟩ := h8
      subst e1
      rw [List.size_toArray, hws.1, List.take_length] at e2
      have l2 := heard_len xs
      have l3 := e2.length
      have l4 := hws.1
      (repeat' (first | (k_unfold; (try dsimp only)) | (k_end; wrow_close) | (with_reducible ((with_reducible show wpAny _ _ (eval (Expr.ListComp (Expr.Subscript _ _ _) _ _ _) (envOf (Str.ofString "own_hello") _ _ _ _)) _ _ _); k_dflt (refine LCt.ListComp_T (F₀ := by k_asm) (by with_unfolding_all rfl) (by decide) (by rfl) (by decide) (by rfl) ?_))) | (with_reducible ((with_reducible show wpAny _ _ (eval (Expr.ListComp (Expr.Tuple _ _ _) _ _ _) (envOf (Str.ofString "own_hello") _ _ _ _)) _ _ _); k_dflt (refine LCg.ListComp_U (F₀ := by k_asm) (by with_unfolding_all rfl) (by decide) (by rfl) (by decide) (by rfl) ?_))) | (with_reducible ((with_reducible show LCg.CompSrc ..); (k_dflt (refine LCg.CompSrc.ledger (by rfl) (by k_asm) (by k_asm) (by k_mem) (by rw [List.size_toArray, sizeLine_eq]; (first | lia | omega)) ?_); intro g'))) | (with_reducible ((with_reducible show LCg.CompRest ..); (refine stop_at ?_))) | (with_reducible ((with_reducible show LCt.CompSrcT ..); (k_dflt (refine LCt.CompSrcT.ledger (by rfl) (by k_asm) (by k_asm) (by k_mem) (by rw [List.size_toArray, sizeLine_eq]; (first | lia | omega)) ?_); intro g'))) | (with_reducible ((with_reducible show wpAny _ _ (call (Value.ref 151) _) _ _ _); k_dflt (first | (refine told1_c.use (by k_asm) (by k_asm) (by k_asm) (by k_asm) (by k_asm) (by first | exact rfl | assumption) (by ktr_room) (by ktr_units) _ (fun _ h => nomatch h) (fun _ h => h) Off.nil ?_) | (refine told0_c.use (by k_asm) (by k_asm) (by k_asm) (by k_asm) (by k_asm) (by first | exact rfl | assumption) (by ktr_room) (by ktr_units) _ (fun _ h => nomatch h) (fun _ h => h) Off.nil ?_)); intro rz9 lz9 hz9 tkz9 Fz9 Nz9 offz9 Pz9; obtain ⟨ez9, fz9⟩ := Pz9; subst ez9; subst fz9; simp only [List.nil_append] at Nz9; clear offz9; (try dsimp only))) | (with_reducible ((with_reducible show wpAny _ _ (call (Value.builtin "sorted") _) _ _ _); (refine stop_at ?_))) | (with_reducible ((with_reducible show wpAny _ _ (call (Value.type "dict") _) _ _ _); (refine stop_at ?_))) | (with_reducible ((with_reducible refine execs_tk ?_); intro _; (try dsimp only); (try k_fold))) | (with_reducible ((with_reducible show wpAny _ _ (call (Value.ref _) _) _ _ _); refine wpAny_call ?_; k_dflt (refine code_def (by k_asm) (by k_asm) (by k_asm) (by k_asm) (by k_asm) rfl rfl (by first | exact rfl | assumption) (by k_is) (by k_is) (by ktr_room) (by exact BindsTo.of_eq rfl) (by exact locs rfl) ?_ (by exact rfl) (by exact rfl) (by exact rfl) (by decide); k_whole; intro g' L' h' FG' F' N' B' X' T'; (try dsimp only); (try k_lift B'); (try k_fold)))) | (with_reducible ((with_reducible show wpAny _ _ (eval (PySem.Expr.Dict ..) _) _ _ _); refine kdn_str (by k_dflt rfl) (by k_asm) (by first | k_asm | exact News.nil) (by exact Top.nolimit (by k_asm)) (by k_dflt rfl) (by k_dflt rfl) (by exact List.cons_ne_nil _ _) (by k_dflt (exact Nat.le_of_ble_eq_true rfl)) ?_; intro d' h' o' F' N' l1 lo' hd'; (try k_lt l1))) | (with_reducible ((with_reducible show KdnMade ..); k_dflt (refine kdn_made_str (by k_asm) (by k_asm) (by k_updF) (by k_asm) (by rfl) (by exact of_decide_eq_true (by first | rfl | kernel_rfl!)) ?_; intro h' o' F' N' hd'); (try dsimp only [strPairs] at hd'); (try dsimp only at N'))) | (with_reducible ((with_reducible show wpAny _ _ (call (Value.builtin "dict.update") [Value.ref _, Value.ref _]) _ _ _); k_dflt (refine upd_s (knd := PySem.strKind _ _) (by k_asm) (by k_asm) (by k_updF) (by k_asm) (by k_mem) (by k_asm) (by k_asm) (by first | assumption | k_ne) (by exact rfl) ?_); intro h' o' F' N' hd'; (first | rw [mg_line] at hd' | rw [mg_shared] at hd' | rw [mg_new1] at hd' | rw [mg_new2] at hd' | rw [mg_nb] at hd' | rw [mg_hv1] at hd' | rw [mg_hv2] at hd' | simp only [merged, List.foldl_cons, List.foldl_nil, stored, List.any_cons, List.any_nil, List.map_cons, List.map_nil, ofs_eq, String.reduceEq, decide_true, decide_false, Bool.or_true, Bool.true_or, Bool.false_or, Bool.or_false, Bool.false_eq_true, if_true, if_false, List.cons_append, List.nil_append] at hd' | skip); (try dsimp only at N'))) | (with_reducible ((with_reducible show wpAny _ _ (getMethod (Value.ref _) (Str.ofString "update") _) _ _ _); k_dflt (refine meth_upd (knd := PySem.strKind _ _) (by k_asm) (by k_mem) (by k_asm) ?_))) | (with_reducible ((with_reducible show wpAny _ _ (callWith _ (Value.builtin _) (_ :: _) (backTo _ (starEach (_ :: _) _)) []) _ _ _); k_dflt (refine callWith_method1 ?_))) | (with_reducible ((with_reducible show wpAny _ _ (eval (PySem.Expr.Subscript (PySem.Expr.Name _ _) (PySem.Expr.Constant (Const.str _) _ _) _) (envOf _ _ _ _ _)) _ _ _); k_dflt (refine sub_key (by k_asm) (by exact rfl) (by k_asm) (by k_mem) (by k_asm) (by (first | with_reducible exact va_router | with_reducible exact va_state | with_reducible exact va_dr | with_reducible exact va_bdr | with_reducible exact va_dr_address | with_reducible exact va_bdr_address | with_reducible exact va_neighbours | with_reducible exact va_hello_at | with_reducible exact va_wait_until | with_reducible exact va_kind | with_reducible exact va_address | with_reducible exact va_priority | with_reducible exact va_hello | with_reducible exact va_dead | with_reducible exact va_options | with_reducible exact va_delay | with_reducible exact va_number | with_reducible exact va_area | with_reducible exact va_stub | with_reducible exact va_length | with_reducible exact va_cost | with_reducible exact va_resend | (repeat (first | exact valueAt_hit | refine (valueAt_miss (by decide)).trans ?_)))) ?_))) | (with_reducible ((with_reducible show wpAny _ _ (subscriptTail _ _ (Value.ref _) (Value.str _ _)) _ _ _); k_dflt (refine kda_item (knd := PySem.strKind _ _) (by k_asm) (by k_mem) (by k_asm) (strKind_is _ _ _ _) (by (first | with_reducible exact va_router | with_reducible exact va_state | with_reducible exact va_dr | with_reducible exact va_bdr | with_reducible exact va_dr_address | with_reducible exact va_bdr_address | with_reducible exact va_neighbours | with_reducible exact va_hello_at | with_reducible exact va_wait_until | with_reducible exact va_kind | with_reducible exact va_address | with_reducible exact va_priority | with_reducible exact va_hello | with_reducible exact va_dead | with_reducible exact va_options | with_reducible exact va_delay | with_reducible exact va_number | with_reducible exact va_area | with_reducible exact va_stub | with_reducible exact va_length | with_reducible exact va_cost | with_reducible exact va_resend | (repeat (first | exact valueAt_hit | refine (valueAt_miss (by decide)).trans ?_)))) ?_))) | walk1 | (dsimp only; walk1) | (leave1; (try dsimp only))))
      refine stop_out ?_
      refine sorted_L (by k_asm) (by k_asm) ⟨_, ((by assumption : News _ _ _ ((_, LCg.lst ys) :: _)) _ (.head _)).1, rfl, _, rfl⟩ e2 (by (first | lia | omega)) ?_
      intro D9 h9 vs9 ns9 c9 F9 N9 l9 i9 p9 o9
      have l5 := p9.length_eq
      have l6 := i9.length
      try k_lt l9
      (repeat' (first | (k_unfold; (try dsimp only)) | (k_end; wrow_close) | (with_reducible ((with_reducible show wpAny _ _ (eval (Expr.ListComp (Expr.Subscript _ _ _) _ _ _) (envOf (Str.ofString "own_hello") _ _ _ _)) _ _ _); k_dflt (refine LCt.ListComp_T (F₀ := by k_asm) (by with_unfolding_all rfl) (by decide) (by rfl) (by decide) (by rfl) ?_))) | (with_reducible ((with_reducible show wpAny _ _ (eval (Expr.ListComp (Expr.Tuple _ _ _) _ _ _) (envOf (Str.ofString "own_hello") _ _ _ _)) _ _ _); k_dflt (refine LCg.ListComp_U (F₀ := by k_asm) (by with_unfolding_all rfl) (by decide) (by rfl) (by decide) (by rfl) ?_))) | (with_reducible ((with_reducible show LCg.CompSrc ..); (k_dflt (refine LCg.CompSrc.ledger (by rfl) (by k_asm) (by k_asm) (by k_mem) (by rw [List.size_toArray, sizeLine_eq]; (first | lia | omega)) ?_); intro g'))) | (with_reducible ((with_reducible show LCg.CompRest ..); (refine stop_at ?_))) | (with_reducible ((with_reducible show LCt.CompSrcT ..); (k_dflt (refine LCt.CompSrcT.ledger (by rfl) (by k_asm) (by k_asm) (by k_mem) (by rw [List.size_toArray, sizeLine_eq]; (first | lia | omega)) ?_); intro g'))) | (with_reducible ((with_reducible show wpAny _ _ (call (Value.ref 151) _) _ _ _); k_dflt (first | (refine told1_c.use (by k_asm) (by k_asm) (by k_asm) (by k_asm) (by k_asm) (by first | exact rfl | assumption) (by ktr_room) (by ktr_units) _ (fun _ h => nomatch h) (fun _ h => h) Off.nil ?_) | (refine told0_c.use (by k_asm) (by k_asm) (by k_asm) (by k_asm) (by k_asm) (by first | exact rfl | assumption) (by ktr_room) (by ktr_units) _ (fun _ h => nomatch h) (fun _ h => h) Off.nil ?_)); intro rz9 lz9 hz9 tkz9 Fz9 Nz9 offz9 Pz9; obtain ⟨ez9, fz9⟩ := Pz9; subst ez9; subst fz9; simp only [List.nil_append] at Nz9; clear offz9; (try dsimp only))) | (with_reducible ((with_reducible show wpAny _ _ (call (Value.builtin "sorted") _) _ _ _); (refine stop_at ?_))) | (with_reducible ((with_reducible show wpAny _ _ (call (Value.type "dict") _) _ _ _); (refine stop_at ?_))) | (with_reducible ((with_reducible refine execs_tk ?_); intro _; (try dsimp only); (try k_fold))) | (with_reducible ((with_reducible show wpAny _ _ (call (Value.ref _) _) _ _ _); refine wpAny_call ?_; k_dflt (refine code_def (by k_asm) (by k_asm) (by k_asm) (by k_asm) (by k_asm) rfl rfl (by first | exact rfl | assumption) (by k_is) (by k_is) (by ktr_room) (by exact BindsTo.of_eq rfl) (by exact locs rfl) ?_ (by exact rfl) (by exact rfl) (by exact rfl) (by decide); k_whole; intro g' L' h' FG' F' N' B' X' T'; (try dsimp only); (try k_lift B'); (try k_fold)))) | (with_reducible ((with_reducible show wpAny _ _ (eval (PySem.Expr.Dict ..) _) _ _ _); refine kdn_str (by k_dflt rfl) (by k_asm) (by first | k_asm | exact News.nil) (by exact Top.nolimit (by k_asm)) (by k_dflt rfl) (by k_dflt rfl) (by exact List.cons_ne_nil _ _) (by k_dflt (exact Nat.le_of_ble_eq_true rfl)) ?_; intro d' h' o' F' N' l1 lo' hd'; (try k_lt l1))) | (with_reducible ((with_reducible show KdnMade ..); k_dflt (refine kdn_made_str (by k_asm) (by k_asm) (by k_updF) (by k_asm) (by rfl) (by exact of_decide_eq_true (by first | rfl | kernel_rfl!)) ?_; intro h' o' F' N' hd'); (try dsimp only [strPairs] at hd'); (try dsimp only at N'))) | (with_reducible ((with_reducible show wpAny _ _ (call (Value.builtin "dict.update") [Value.ref _, Value.ref _]) _ _ _); k_dflt (refine upd_s (knd := PySem.strKind _ _) (by k_asm) (by k_asm) (by k_updF) (by k_asm) (by k_mem) (by k_asm) (by k_asm) (by first | assumption | k_ne) (by exact rfl) ?_); intro h' o' F' N' hd'; (first | rw [mg_line] at hd' | rw [mg_shared] at hd' | rw [mg_new1] at hd' | rw [mg_new2] at hd' | rw [mg_nb] at hd' | rw [mg_hv1] at hd' | rw [mg_hv2] at hd' | simp only [merged, List.foldl_cons, List.foldl_nil, stored, List.any_cons, List.any_nil, List.map_cons, List.map_nil, ofs_eq, String.reduceEq, decide_true, decide_false, Bool.or_true, Bool.true_or, Bool.false_or, Bool.or_false, Bool.false_eq_true, if_true, if_false, List.cons_append, List.nil_append] at hd' | skip); (try dsimp only at N'))) | (with_reducible ((with_reducible show wpAny _ _ (getMethod (Value.ref _) (Str.ofString "update") _) _ _ _); k_dflt (refine meth_upd (knd := PySem.strKind _ _) (by k_asm) (by k_mem) (by k_asm) ?_))) | (with_reducible ((with_reducible show wpAny _ _ (callWith _ (Value.builtin _) (_ :: _) (backTo _ (starEach (_ :: _) _)) []) _ _ _); k_dflt (refine callWith_method1 ?_))) | (with_reducible ((with_reducible show wpAny _ _ (eval (PySem.Expr.Subscript (PySem.Expr.Name _ _) (PySem.Expr.Constant (Const.str _) _ _) _) (envOf _ _ _ _ _)) _ _ _); k_dflt (refine sub_key (by k_asm) (by exact rfl) (by k_asm) (by k_mem) (by k_asm) (by (first | with_reducible exact va_router | with_reducible exact va_state | with_reducible exact va_dr | with_reducible exact va_bdr | with_reducible exact va_dr_address | with_reducible exact va_bdr_address | with_reducible exact va_neighbours | with_reducible exact va_hello_at | with_reducible exact va_wait_until | with_reducible exact va_kind | with_reducible exact va_address | with_reducible exact va_priority | with_reducible exact va_hello | with_reducible exact va_dead | with_reducible exact va_options | with_reducible exact va_delay | with_reducible exact va_number | with_reducible exact va_area | with_reducible exact va_stub | with_reducible exact va_length | with_reducible exact va_cost | with_reducible exact va_resend | (repeat (first | exact valueAt_hit | refine (valueAt_miss (by decide)).trans ?_)))) ?_))) | (with_reducible ((with_reducible show wpAny _ _ (subscriptTail _ _ (Value.ref _) (Value.str _ _)) _ _ _); k_dflt (refine kda_item (knd := PySem.strKind _ _) (by k_asm) (by k_mem) (by k_asm) (strKind_is _ _ _ _) (by (first | with_reducible exact va_router | with_reducible exact va_state | with_reducible exact va_dr | with_reducible exact va_bdr | with_reducible exact va_dr_address | with_reducible exact va_bdr_address | with_reducible exact va_neighbours | with_reducible exact va_hello_at | with_reducible exact va_wait_until | with_reducible exact va_kind | with_reducible exact va_address | with_reducible exact va_priority | with_reducible exact va_hello | with_reducible exact va_dead | with_reducible exact va_options | with_reducible exact va_delay | with_reducible exact va_number | with_reducible exact va_area | with_reducible exact va_stub | with_reducible exact va_length | with_reducible exact va_cost | with_reducible exact va_resend | (repeat (first | exact valueAt_hit | refine (valueAt_miss (by decide)).trans ?_)))) ?_))) | walk1 | (dsimp only; walk1) | (leave1; (try dsimp only))))
      · refine stop_out ?_
        refine comp_ind (TurnPr ns9 ((D9, listOf vs9.toArray c9) :: (d, o) :: (nb, listOf ws.toArray k) :: tl)) ?_ ?_ _ _ _ _ (Nat.zero_add _) ⟨rfl, ⟨rfl, fun i _ _ h => by simp at h⟩, List.forall_mem_cons.mpr ⟨by k_mem, List.forall_mem_cons.mpr ⟨by k_mem, List.forall_mem_cons.mpr ⟨by k_mem, by kcf_all⟩⟩⟩⟩
        · intro ys3 news3 h3
          rw [List.size_toArray, l6, TurnPr, List.take_length] at h3
          obtain ⟨q1, q2, q3⟩ := h3
          (repeat' (first | (k_unfold; (try dsimp only)) | (k_end; wrow_close) | (with_reducible ((with_reducible show wpAny _ _ (eval (Expr.ListComp (Expr.Subscript _ _ _) _ _ _) (envOf (Str.ofString "own_hello") _ _ _ _)) _ _ _); k_dflt (refine LCt.ListComp_T (F₀ := by k_asm) (by with_unfolding_all rfl) (by decide) (by rfl) (by decide) (by rfl) ?_))) | (with_reducible ((with_reducible show wpAny _ _ (eval (Expr.ListComp (Expr.Tuple _ _ _) _ _ _) (envOf (Str.ofString "own_hello") _ _ _ _)) _ _ _); k_dflt (refine LCg.ListComp_U (F₀ := by k_asm) (by with_unfolding_all rfl) (by decide) (by rfl) (by decide) (by rfl) ?_))) | (with_reducible ((with_reducible show LCg.CompSrc ..); (k_dflt (refine LCg.CompSrc.ledger (by rfl) (by k_asm) (by k_asm) (by k_mem) (by rw [List.size_toArray, sizeLine_eq]; (first | lia | omega)) ?_); intro g'))) | (with_reducible ((with_reducible show LCg.CompRest ..); (refine stop_at ?_))) | (with_reducible ((with_reducible show LCt.CompSrcT ..); (k_dflt (refine LCt.CompSrcT.ledger (by rfl) (by k_asm) (by k_asm) (by k_mem) (by rw [List.size_toArray, sizeLine_eq]; (first | lia | omega)) ?_); intro g'))) | (with_reducible ((with_reducible show wpAny _ _ (call (Value.ref 151) _) _ _ _); k_dflt (first | (refine told1_c.use (by k_asm) (by k_asm) (by k_asm) (by k_asm) (by k_asm) (by first | exact rfl | assumption) (by ktr_room) (by ktr_units) _ (fun _ h => nomatch h) (fun _ h => h) Off.nil ?_) | (refine told0_c.use (by k_asm) (by k_asm) (by k_asm) (by k_asm) (by k_asm) (by first | exact rfl | assumption) (by ktr_room) (by ktr_units) _ (fun _ h => nomatch h) (fun _ h => h) Off.nil ?_)); intro rz9 lz9 hz9 tkz9 Fz9 Nz9 offz9 Pz9; obtain ⟨ez9, fz9⟩ := Pz9; subst ez9; subst fz9; simp only [List.nil_append] at Nz9; clear offz9; (try dsimp only))) | (with_reducible ((with_reducible show wpAny _ _ (call (Value.builtin "sorted") _) _ _ _); (refine stop_at ?_))) | (with_reducible ((with_reducible show wpAny _ _ (call (Value.type "dict") _) _ _ _); (refine stop_at ?_))) | (with_reducible ((with_reducible refine execs_tk ?_); intro _; (try dsimp only); (try k_fold))) | (with_reducible ((with_reducible show wpAny _ _ (call (Value.ref _) _) _ _ _); refine wpAny_call ?_; k_dflt (refine code_def (by k_asm) (by k_asm) (by k_asm) (by k_asm) (by k_asm) rfl rfl (by first | exact rfl | assumption) (by k_is) (by k_is) (by ktr_room) (by exact BindsTo.of_eq rfl) (by exact locs rfl) ?_ (by exact rfl) (by exact rfl) (by exact rfl) (by decide); k_whole; intro g' L' h' FG' F' N' B' X' T'; (try dsimp only); (try k_lift B'); (try k_fold)))) | (with_reducible ((with_reducible show wpAny _ _ (eval (PySem.Expr.Dict ..) _) _ _ _); refine kdn_str (by k_dflt rfl) (by k_asm) (by first | k_asm | exact News.nil) (by exact Top.nolimit (by k_asm)) (by k_dflt rfl) (by k_dflt rfl) (by exact List.cons_ne_nil _ _) (by k_dflt (exact Nat.le_of_ble_eq_true rfl)) ?_; intro d' h' o' F' N' l1 lo' hd'; (try k_lt l1))) | (with_reducible ((with_reducible show KdnMade ..); k_dflt (refine kdn_made_str (by k_asm) (by k_asm) (by k_updF) (by k_asm) (by rfl) (by exact of_decide_eq_true (by first | rfl | kernel_rfl!)) ?_; intro h' o' F' N' hd'); (try dsimp only [strPairs] at hd'); (try dsimp only at N'))) | (with_reducible ((with_reducible show wpAny _ _ (call (Value.builtin "dict.update") [Value.ref _, Value.ref _]) _ _ _); k_dflt (refine upd_s (knd := PySem.strKind _ _) (by k_asm) (by k_asm) (by k_updF) (by k_asm) (by k_mem) (by k_asm) (by k_asm) (by first | assumption | k_ne) (by exact rfl) ?_); intro h' o' F' N' hd'; (first | rw [mg_line] at hd' | rw [mg_shared] at hd' | rw [mg_new1] at hd' | rw [mg_new2] at hd' | rw [mg_nb] at hd' | rw [mg_hv1] at hd' | rw [mg_hv2] at hd' | simp only [merged, List.foldl_cons, List.foldl_nil, stored, List.any_cons, List.any_nil, List.map_cons, List.map_nil, ofs_eq, String.reduceEq, decide_true, decide_false, Bool.or_true, Bool.true_or, Bool.false_or, Bool.or_false, Bool.false_eq_true, if_true, if_false, List.cons_append, List.nil_append] at hd' | skip); (try dsimp only at N'))) | (with_reducible ((with_reducible show wpAny _ _ (getMethod (Value.ref _) (Str.ofString "update") _) _ _ _); k_dflt (refine meth_upd (knd := PySem.strKind _ _) (by k_asm) (by k_mem) (by k_asm) ?_))) | (with_reducible ((with_reducible show wpAny _ _ (callWith _ (Value.builtin _) (_ :: _) (backTo _ (starEach (_ :: _) _)) []) _ _ _); k_dflt (refine callWith_method1 ?_))) | (with_reducible ((with_reducible show wpAny _ _ (eval (PySem.Expr.Subscript (PySem.Expr.Name _ _) (PySem.Expr.Constant (Const.str _) _ _) _) (envOf _ _ _ _ _)) _ _ _); k_dflt (refine sub_key (by k_asm) (by exact rfl) (by k_asm) (by k_mem) (by k_asm) (by (first | with_reducible exact va_router | with_reducible exact va_state | with_reducible exact va_dr | with_reducible exact va_bdr | with_reducible exact va_dr_address | with_reducible exact va_bdr_address | with_reducible exact va_neighbours | with_reducible exact va_hello_at | with_reducible exact va_wait_until | with_reducible exact va_kind | with_reducible exact va_address | with_reducible exact va_priority | with_reducible exact va_hello | with_reducible exact va_dead | with_reducible exact va_options | with_reducible exact va_delay | with_reducible exact va_number | with_reducible exact va_area | with_reducible exact va_stub | with_reducible exact va_length | with_reducible exact va_cost | with_reducible exact va_resend | (repeat (first | exact valueAt_hit | refine (valueAt_miss (by decide)).trans ?_)))) ?_))) | (with_reducible ((with_reducible show wpAny _ _ (subscriptTail _ _ (Value.ref _) (Value.str _ _)) _ _ _); k_dflt (refine kda_item (knd := PySem.strKind _ _) (by k_asm) (by k_mem) (by k_asm) (strKind_is _ _ _ _) (by (first | with_reducible exact va_router | with_reducible exact va_state | with_reducible exact va_dr | with_reducible exact va_bdr | with_reducible exact va_dr_address | with_reducible exact va_bdr_address | with_reducible exact va_neighbours | with_reducible exact va_hello_at | with_reducible exact va_wait_until | with_reducible exact va_kind | with_reducible exact va_address | with_reducible exact va_priority | with_reducible exact va_hello | with_reducible exact va_dead | with_reducible exact va_options | with_reducible exact va_delay | with_reducible exact va_number | with_reducible exact va_area | with_reducible exact va_stub | with_reducible exact va_length | with_reducible exact va_cost | with_reducible exact va_resend | (repeat (first | exact valueAt_hit | refine (valueAt_miss (by decide)).trans ?_)))) ?_))) | walk1 | (dsimp only; walk1) | (leave1; (try dsimp only))))
          refine stop_out ?_
          refine dict_pairs (by rfl) (by k_asm) (by k_asm) (.head _) (pairsIn_mono q2 fun p hp => .tail _ hp) (by rw [List.length_map]; (first | lia | omega)) (Top.nolimit (by k_asm)) ?_
          intro D4 o4 h4 tk4 F4 N4 l10 lo4 hd4
          dsimp only
          (repeat' (first | (k_unfold; (try dsimp only)) | (k_end; wrow_close) | (with_reducible ((with_reducible show wpAny _ _ (eval (Expr.ListComp (Expr.Subscript _ _ _) _ _ _) (envOf (Str.ofString "own_hello") _ _ _ _)) _ _ _); k_dflt (refine LCt.ListComp_T (F₀ := by k_asm) (by with_unfolding_all rfl) (by decide) (by rfl) (by decide) (by rfl) ?_))) | (with_reducible ((with_reducible show wpAny _ _ (eval (Expr.ListComp (Expr.Tuple _ _ _) _ _ _) (envOf (Str.ofString "own_hello") _ _ _ _)) _ _ _); k_dflt (refine LCg.ListComp_U (F₀ := by k_asm) (by with_unfolding_all rfl) (by decide) (by rfl) (by decide) (by rfl) ?_))) | (with_reducible ((with_reducible show LCg.CompSrc ..); (k_dflt (refine LCg.CompSrc.ledger (by rfl) (by k_asm) (by k_asm) (by k_mem) (by rw [List.size_toArray, sizeLine_eq]; (first | lia | omega)) ?_); intro g'))) | (with_reducible ((with_reducible show LCg.CompRest ..); (refine stop_at ?_))) | (with_reducible ((with_reducible show LCt.CompSrcT ..); (k_dflt (refine LCt.CompSrcT.ledger (by rfl) (by k_asm) (by k_asm) (by k_mem) (by rw [List.size_toArray, sizeLine_eq]; (first | lia | omega)) ?_); intro g'))) | (with_reducible ((with_reducible show wpAny _ _ (call (Value.ref 151) _) _ _ _); k_dflt (first | (refine told1_c.use (by k_asm) (by k_asm) (by k_asm) (by k_asm) (by k_asm) (by first | exact rfl | assumption) (by ktr_room) (by ktr_units) _ (fun _ h => nomatch h) (fun _ h => h) Off.nil ?_) | (refine told0_c.use (by k_asm) (by k_asm) (by k_asm) (by k_asm) (by k_asm) (by first | exact rfl | assumption) (by ktr_room) (by ktr_units) _ (fun _ h => nomatch h) (fun _ h => h) Off.nil ?_)); intro rz9 lz9 hz9 tkz9 Fz9 Nz9 offz9 Pz9; obtain ⟨ez9, fz9⟩ := Pz9; subst ez9; subst fz9; simp only [List.nil_append] at Nz9; clear offz9; (try dsimp only))) | (with_reducible ((with_reducible show wpAny _ _ (call (Value.builtin "sorted") _) _ _ _); (refine stop_at ?_))) | (with_reducible ((with_reducible show wpAny _ _ (call (Value.type "dict") _) _ _ _); (refine stop_at ?_))) | (with_reducible ((with_reducible refine execs_tk ?_); intro _; (try dsimp only); (try k_fold))) | (with_reducible ((with_reducible show wpAny _ _ (call (Value.ref _) _) _ _ _); refine wpAny_call ?_; k_dflt (refine code_def (by k_asm) (by k_asm) (by k_asm) (by k_asm) (by k_asm) rfl rfl (by first | exact rfl | assumption) (by k_is) (by k_is) (by ktr_room) (by exact BindsTo.of_eq rfl) (by exact locs rfl) ?_ (by exact rfl) (by exact rfl) (by exact rfl) (by decide); k_whole; intro g' L' h' FG' F' N' B' X' T'; (try dsimp only); (try k_lift B'); (try k_fold)))) | (with_reducible ((with_reducible show wpAny _ _ (eval (PySem.Expr.Dict ..) _) _ _ _); refine kdn_str (by k_dflt rfl) (by k_asm) (by first | k_asm | exact News.nil) (by exact Top.nolimit (by k_asm)) (by k_dflt rfl) (by k_dflt rfl) (by exact List.cons_ne_nil _ _) (by k_dflt (exact Nat.le_of_ble_eq_true rfl)) ?_; intro d' h' o' F' N' l1 lo' hd'; (try k_lt l1))) | (with_reducible ((with_reducible show KdnMade ..); k_dflt (refine kdn_made_str (by k_asm) (by k_asm) (by k_updF) (by k_asm) (by rfl) (by exact of_decide_eq_true (by first | rfl | kernel_rfl!)) ?_; intro h' o' F' N' hd'); (try dsimp only [strPairs] at hd'); (try dsimp only at N'))) | (with_reducible ((with_reducible show wpAny _ _ (call (Value.builtin "dict.update") [Value.ref _, Value.ref _]) _ _ _); k_dflt (refine upd_s (knd := PySem.strKind _ _) (by k_asm) (by k_asm) (by k_updF) (by k_asm) (by k_mem) (by k_asm) (by k_asm) (by first | assumption | k_ne) (by exact rfl) ?_); intro h' o' F' N' hd'; (first | rw [mg_line] at hd' | rw [mg_shared] at hd' | rw [mg_new1] at hd' | rw [mg_new2] at hd' | rw [mg_nb] at hd' | rw [mg_hv1] at hd' | rw [mg_hv2] at hd' | simp only [merged, List.foldl_cons, List.foldl_nil, stored, List.any_cons, List.any_nil, List.map_cons, List.map_nil, ofs_eq, String.reduceEq, decide_true, decide_false, Bool.or_true, Bool.true_or, Bool.false_or, Bool.or_false, Bool.false_eq_true, if_true, if_false, List.cons_append, List.nil_append] at hd' | skip); (try dsimp only at N'))) | (with_reducible ((with_reducible show wpAny _ _ (getMethod (Value.ref _) (Str.ofString "update") _) _ _ _); k_dflt (refine meth_upd (knd := PySem.strKind _ _) (by k_asm) (by k_mem) (by k_asm) ?_))) | (with_reducible ((with_reducible show wpAny _ _ (callWith _ (Value.builtin _) (_ :: _) (backTo _ (starEach (_ :: _) _)) []) _ _ _); k_dflt (refine callWith_method1 ?_))) | (with_reducible ((with_reducible show wpAny _ _ (eval (PySem.Expr.Subscript (PySem.Expr.Name _ _) (PySem.Expr.Constant (Const.str _) _ _) _) (envOf _ _ _ _ _)) _ _ _); k_dflt (refine sub_key (by k_asm) (by exact rfl) (by k_asm) (by k_mem) (by k_asm) (by (first | with_reducible exact va_router | with_reducible exact va_state | with_reducible exact va_dr | with_reducible exact va_bdr | with_reducible exact va_dr_address | with_reducible exact va_bdr_address | with_reducible exact va_neighbours | with_reducible exact va_hello_at | with_reducible exact va_wait_until | with_reducible exact va_kind | with_reducible exact va_address | with_reducible exact va_priority | with_reducible exact va_hello | with_reducible exact va_dead | with_reducible exact va_options | with_reducible exact va_delay | with_reducible exact va_number | with_reducible exact va_area | with_reducible exact va_stub | with_reducible exact va_length | with_reducible exact va_cost | with_reducible exact va_resend | (repeat (first | exact valueAt_hit | refine (valueAt_miss (by decide)).trans ?_)))) ?_))) | (with_reducible ((with_reducible show wpAny _ _ (subscriptTail _ _ (Value.ref _) (Value.str _ _)) _ _ _); k_dflt (refine kda_item (knd := PySem.strKind _ _) (by k_asm) (by k_mem) (by k_asm) (strKind_is _ _ _ _) (by (first | with_reducible exact va_router | with_reducible exact va_state | with_reducible exact va_dr | with_reducible exact va_bdr | with_reducible exact va_dr_address | with_reducible exact va_bdr_address | with_reducible exact va_neighbours | with_reducible exact va_hello_at | with_reducible exact va_wait_until | with_reducible exact va_kind | with_reducible exact va_address | with_reducible exact va_priority | with_reducible exact va_hello | with_reducible exact va_dead | with_reducible exact va_options | with_reducible exact va_delay | with_reducible exact va_number | with_reducible exact va_area | with_reducible exact va_stub | with_reducible exact va_length | with_reducible exact va_cost | with_reducible exact va_resend | (repeat (first | exact valueAt_hit | refine (valueAt_miss (by decide)).trans ?_)))) ?_))) | walk1 | (dsimp only; walk1) | (leave1; (try dsimp only))))
          refine stop_out ?_
          refine sorted_D (by rfl) (by k_asm) (by k_asm) (.head _) hd4 lo4 (by have := len_fold (trues ns9) []; rw [trues, List.length_map] at this; simp only [List.length_nil] at this; exact Nat.le_trans this (by (first | lia | omega))) ?_
          intro D5 h5 tk5 vs5 ns5 c5 F5 N5 l11 i5 p5 o5
          dsimp only
          (repeat' (first | (k_unfold; (try dsimp only)) | (k_end; wrow_close) | (with_reducible ((with_reducible show wpAny _ _ (eval (Expr.ListComp (Expr.Subscript _ _ _) _ _ _) (envOf (Str.ofString "own_hello") _ _ _ _)) _ _ _); k_dflt (refine LCt.ListComp_T (F₀ := by k_asm) (by with_unfolding_all rfl) (by decide) (by rfl) (by decide) (by rfl) ?_))) | (with_reducible ((with_reducible show wpAny _ _ (eval (Expr.ListComp (Expr.Tuple _ _ _) _ _ _) (envOf (Str.ofString "own_hello") _ _ _ _)) _ _ _); k_dflt (refine LCg.ListComp_U (F₀ := by k_asm) (by with_unfolding_all rfl) (by decide) (by rfl) (by decide) (by rfl) ?_))) | (with_reducible ((with_reducible show LCg.CompSrc ..); (k_dflt (refine LCg.CompSrc.ledger (by rfl) (by k_asm) (by k_asm) (by k_mem) (by rw [List.size_toArray, sizeLine_eq]; (first | lia | omega)) ?_); intro g'))) | (with_reducible ((with_reducible show LCg.CompRest ..); (refine stop_at ?_))) | (with_reducible ((with_reducible show LCt.CompSrcT ..); (k_dflt (refine LCt.CompSrcT.ledger (by rfl) (by k_asm) (by k_asm) (by k_mem) (by rw [List.size_toArray, sizeLine_eq]; (first | lia | omega)) ?_); intro g'))) | (with_reducible ((with_reducible show wpAny _ _ (call (Value.ref 151) _) _ _ _); k_dflt (first | (refine told1_c.use (by k_asm) (by k_asm) (by k_asm) (by k_asm) (by k_asm) (by first | exact rfl | assumption) (by ktr_room) (by ktr_units) _ (fun _ h => nomatch h) (fun _ h => h) Off.nil ?_) | (refine told0_c.use (by k_asm) (by k_asm) (by k_asm) (by k_asm) (by k_asm) (by first | exact rfl | assumption) (by ktr_room) (by ktr_units) _ (fun _ h => nomatch h) (fun _ h => h) Off.nil ?_)); intro rz9 lz9 hz9 tkz9 Fz9 Nz9 offz9 Pz9; obtain ⟨ez9, fz9⟩ := Pz9; subst ez9; subst fz9; simp only [List.nil_append] at Nz9; clear offz9; (try dsimp only))) | (with_reducible ((with_reducible show wpAny _ _ (call (Value.builtin "sorted") _) _ _ _); (refine stop_at ?_))) | (with_reducible ((with_reducible show wpAny _ _ (call (Value.type "dict") _) _ _ _); (refine stop_at ?_))) | (with_reducible ((with_reducible refine execs_tk ?_); intro _; (try dsimp only); (try k_fold))) | (with_reducible ((with_reducible show wpAny _ _ (call (Value.ref _) _) _ _ _); refine wpAny_call ?_; k_dflt (refine code_def (by k_asm) (by k_asm) (by k_asm) (by k_asm) (by k_asm) rfl rfl (by first | exact rfl | assumption) (by k_is) (by k_is) (by ktr_room) (by exact BindsTo.of_eq rfl) (by exact locs rfl) ?_ (by exact rfl) (by exact rfl) (by exact rfl) (by decide); k_whole; intro g' L' h' FG' F' N' B' X' T'; (try dsimp only); (try k_lift B'); (try k_fold)))) | (with_reducible ((with_reducible show wpAny _ _ (eval (PySem.Expr.Dict ..) _) _ _ _); refine kdn_str (by k_dflt rfl) (by k_asm) (by first | k_asm | exact News.nil) (by exact Top.nolimit (by k_asm)) (by k_dflt rfl) (by k_dflt rfl) (by exact List.cons_ne_nil _ _) (by k_dflt (exact Nat.le_of_ble_eq_true rfl)) ?_; intro d' h' o' F' N' l1 lo' hd'; (try k_lt l1))) | (with_reducible ((with_reducible show KdnMade ..); k_dflt (refine kdn_made_str (by k_asm) (by k_asm) (by k_updF) (by k_asm) (by rfl) (by exact of_decide_eq_true (by first | rfl | kernel_rfl!)) ?_; intro h' o' F' N' hd'); (try dsimp only [strPairs] at hd'); (try dsimp only at N'))) | (with_reducible ((with_reducible show wpAny _ _ (call (Value.builtin "dict.update") [Value.ref _, Value.ref _]) _ _ _); k_dflt (refine upd_s (knd := PySem.strKind _ _) (by k_asm) (by k_asm) (by k_updF) (by k_asm) (by k_mem) (by k_asm) (by k_asm) (by first | assumption | k_ne) (by exact rfl) ?_); intro h' o' F' N' hd'; (first | rw [mg_line] at hd' | rw [mg_shared] at hd' | rw [mg_new1] at hd' | rw [mg_new2] at hd' | rw [mg_nb] at hd' | rw [mg_hv1] at hd' | rw [mg_hv2] at hd' | simp only [merged, List.foldl_cons, List.foldl_nil, stored, List.any_cons, List.any_nil, List.map_cons, List.map_nil, ofs_eq, String.reduceEq, decide_true, decide_false, Bool.or_true, Bool.true_or, Bool.false_or, Bool.or_false, Bool.false_eq_true, if_true, if_false, List.cons_append, List.nil_append] at hd' | skip); (try dsimp only at N'))) | (with_reducible ((with_reducible show wpAny _ _ (getMethod (Value.ref _) (Str.ofString "update") _) _ _ _); k_dflt (refine meth_upd (knd := PySem.strKind _ _) (by k_asm) (by k_mem) (by k_asm) ?_))) | (with_reducible ((with_reducible show wpAny _ _ (callWith _ (Value.builtin _) (_ :: _) (backTo _ (starEach (_ :: _) _)) []) _ _ _); k_dflt (refine callWith_method1 ?_))) | (with_reducible ((with_reducible show wpAny _ _ (eval (PySem.Expr.Subscript (PySem.Expr.Name _ _) (PySem.Expr.Constant (Const.str _) _ _) _) (envOf _ _ _ _ _)) _ _ _); k_dflt (refine sub_key (by k_asm) (by exact rfl) (by k_asm) (by k_mem) (by k_asm) (by (first | with_reducible exact va_router | with_reducible exact va_state | with_reducible exact va_dr | with_reducible exact va_bdr | with_reducible exact va_dr_address | with_reducible exact va_bdr_address | with_reducible exact va_neighbours | with_reducible exact va_hello_at | with_reducible exact va_wait_until | with_reducible exact va_kind | with_reducible exact va_address | with_reducible exact va_priority | with_reducible exact va_hello | with_reducible exact va_dead | with_reducible exact va_options | with_reducible exact va_delay | with_reducible exact va_number | with_reducible exact va_area | with_reducible exact va_stub | with_reducible exact va_length | with_reducible exact va_cost | with_reducible exact va_resend | (repeat (first | exact valueAt_hit | refine (valueAt_miss (by decide)).trans ?_)))) ?_))) | (with_reducible ((with_reducible show wpAny _ _ (subscriptTail _ _ (Value.ref _) (Value.str _ _)) _ _ _); k_dflt (refine kda_item (knd := PySem.strKind _ _) (by k_asm) (by k_mem) (by k_asm) (strKind_is _ _ _ _) (by (first | with_reducible exact va_router | with_reducible exact va_state | with_reducible exact va_dr | with_reducible exact va_bdr | with_reducible exact va_dr_address | with_reducible exact va_bdr_address | with_reducible exact va_neighbours | with_reducible exact va_hello_at | with_reducible exact va_wait_until | with_reducible exact va_kind | with_reducible exact va_address | with_reducible exact va_priority | with_reducible exact va_hello | with_reducible exact va_dead | with_reducible exact va_options | with_reducible exact va_delay | with_reducible exact va_number | with_reducible exact va_area | with_reducible exact va_stub | with_reducible exact va_length | with_reducible exact va_cost | with_reducible exact va_resend | (repeat (first | exact valueAt_hit | refine (valueAt_miss (by decide)).trans ?_)))) ?_))) | walk1 | (dsimp only; walk1) | (leave1; (try dsimp only))))
          exact midHl_intro (by assumption) (by assumption) rfl rfl rfl (by k_mem) (q3 _ (.tail _ (.head _)) |> fun h => by k_mem) (q3 _ (.tail _ (.tail _ (.head _))) |> fun h => by k_mem) (fun p hp => .tail _ (.tail _ (.tail _ (q3 p (.tail _ (.tail _ (.tail _ hp))))))) i5
            ⟨o5, .inr ⟨by (first | lia | omega), dk_nodup hd4 p5, fun x => (dk_mem p5 x).trans p9.mem_iff⟩⟩ (by rw [p5.length_eq, List.length_map]; have := len_fold (trues ns9) []; rw [trues, List.length_map] at this; simp only [List.length_nil] at this; exact Nat.le_trans this (by (first | lia | omega)))
        · intro i3 ys3 news3 hi3 T3 v3 I3 oI3 C3 oC3 D3 m3 hp3 tk3 E3 hP3 hO3 hm3 F3 N3 off3 ne3
          obtain ⟨n3, t3, e3, hn3⟩ := i9.at i3 v3 (by simpa using hP3)
          subst e3
          (repeat' (first | (k_unfold; (try dsimp only)) | (k_end; wrow_close) | (with_reducible ((with_reducible show wpAny _ _ (eval (Expr.ListComp (Expr.Subscript _ _ _) _ _ _) (envOf (Str.ofString "own_hello") _ _ _ _)) _ _ _); k_dflt (refine LCt.ListComp_T (F₀ := by k_asm) (by with_unfolding_all rfl) (by decide) (by rfl) (by decide) (by rfl) ?_))) | (with_reducible ((with_reducible show wpAny _ _ (eval (Expr.ListComp (Expr.Tuple _ _ _) _ _ _) (envOf (Str.ofString "own_hello") _ _ _ _)) _ _ _); k_dflt (refine LCg.ListComp_U (F₀ := by k_asm) (by with_unfolding_all rfl) (by decide) (by rfl) (by decide) (by rfl) ?_))) | (with_reducible ((with_reducible show LCg.CompSrc ..); (k_dflt (refine LCg.CompSrc.ledger (by rfl) (by k_asm) (by k_asm) (by k_mem) (by rw [List.size_toArray, sizeLine_eq]; (first | lia | omega)) ?_); intro g'))) | (with_reducible ((with_reducible show LCg.CompRest ..); (refine stop_at ?_))) | (with_reducible ((with_reducible show LCt.CompSrcT ..); (k_dflt (refine LCt.CompSrcT.ledger (by rfl) (by k_asm) (by k_asm) (by k_mem) (by rw [List.size_toArray, sizeLine_eq]; (first | lia | omega)) ?_); intro g'))) | (with_reducible ((with_reducible show wpAny _ _ (call (Value.ref 151) _) _ _ _); k_dflt (first | (refine told1_c.use (by k_asm) (by k_asm) (by k_asm) (by k_asm) (by k_asm) (by first | exact rfl | assumption) (by ktr_room) (by ktr_units) _ (fun _ h => nomatch h) (fun _ h => h) Off.nil ?_) | (refine told0_c.use (by k_asm) (by k_asm) (by k_asm) (by k_asm) (by k_asm) (by first | exact rfl | assumption) (by ktr_room) (by ktr_units) _ (fun _ h => nomatch h) (fun _ h => h) Off.nil ?_)); intro rz9 lz9 hz9 tkz9 Fz9 Nz9 offz9 Pz9; obtain ⟨ez9, fz9⟩ := Pz9; subst ez9; subst fz9; simp only [List.nil_append] at Nz9; clear offz9; (try dsimp only))) | (with_reducible ((with_reducible show wpAny _ _ (call (Value.builtin "sorted") _) _ _ _); (refine stop_at ?_))) | (with_reducible ((with_reducible show wpAny _ _ (call (Value.type "dict") _) _ _ _); (refine stop_at ?_))) | (with_reducible ((with_reducible refine execs_tk ?_); intro _; (try dsimp only); (try k_fold))) | (with_reducible ((with_reducible show wpAny _ _ (call (Value.ref _) _) _ _ _); refine wpAny_call ?_; k_dflt (refine code_def (by k_asm) (by k_asm) (by k_asm) (by k_asm) (by k_asm) rfl rfl (by first | exact rfl | assumption) (by k_is) (by k_is) (by ktr_room) (by exact BindsTo.of_eq rfl) (by exact locs rfl) ?_ (by exact rfl) (by exact rfl) (by exact rfl) (by decide); k_whole; intro g' L' h' FG' F' N' B' X' T'; (try dsimp only); (try k_lift B'); (try k_fold)))) | (with_reducible ((with_reducible show wpAny _ _ (eval (PySem.Expr.Dict ..) _) _ _ _); refine kdn_str (by k_dflt rfl) (by k_asm) (by first | k_asm | exact News.nil) (by exact Top.nolimit (by k_asm)) (by k_dflt rfl) (by k_dflt rfl) (by exact List.cons_ne_nil _ _) (by k_dflt (exact Nat.le_of_ble_eq_true rfl)) ?_; intro d' h' o' F' N' l1 lo' hd'; (try k_lt l1))) | (with_reducible ((with_reducible show KdnMade ..); k_dflt (refine kdn_made_str (by k_asm) (by k_asm) (by k_updF) (by k_asm) (by rfl) (by exact of_decide_eq_true (by first | rfl | kernel_rfl!)) ?_; intro h' o' F' N' hd'); (try dsimp only [strPairs] at hd'); (try dsimp only at N'))) | (with_reducible ((with_reducible show wpAny _ _ (call (Value.builtin "dict.update") [Value.ref _, Value.ref _]) _ _ _); k_dflt (refine upd_s (knd := PySem.strKind _ _) (by k_asm) (by k_asm) (by k_updF) (by k_asm) (by k_mem) (by k_asm) (by k_asm) (by first | assumption | k_ne) (by exact rfl) ?_); intro h' o' F' N' hd'; (first | rw [mg_line] at hd' | rw [mg_shared] at hd' | rw [mg_new1] at hd' | rw [mg_new2] at hd' | rw [mg_nb] at hd' | rw [mg_hv1] at hd' | rw [mg_hv2] at hd' | simp only [merged, List.foldl_cons, List.foldl_nil, stored, List.any_cons, List.any_nil, List.map_cons, List.map_nil, ofs_eq, String.reduceEq, decide_true, decide_false, Bool.or_true, Bool.true_or, Bool.false_or, Bool.or_false, Bool.false_eq_true, if_true, if_false, List.cons_append, List.nil_append] at hd' | skip); (try dsimp only at N'))) | (with_reducible ((with_reducible show wpAny _ _ (getMethod (Value.ref _) (Str.ofString "update") _) _ _ _); k_dflt (refine meth_upd (knd := PySem.strKind _ _) (by k_asm) (by k_mem) (by k_asm) ?_))) | (with_reducible ((with_reducible show wpAny _ _ (callWith _ (Value.builtin _) (_ :: _) (backTo _ (starEach (_ :: _) _)) []) _ _ _); k_dflt (refine callWith_method1 ?_))) | (with_reducible ((with_reducible show wpAny _ _ (eval (PySem.Expr.Subscript (PySem.Expr.Name _ _) (PySem.Expr.Constant (Const.str _) _ _) _) (envOf _ _ _ _ _)) _ _ _); k_dflt (refine sub_key (by k_asm) (by exact rfl) (by k_asm) (by k_mem) (by k_asm) (by (first | with_reducible exact va_router | with_reducible exact va_state | with_reducible exact va_dr | with_reducible exact va_bdr | with_reducible exact va_dr_address | with_reducible exact va_bdr_address | with_reducible exact va_neighbours | with_reducible exact va_hello_at | with_reducible exact va_wait_until | with_reducible exact va_kind | with_reducible exact va_address | with_reducible exact va_priority | with_reducible exact va_hello | with_reducible exact va_dead | with_reducible exact va_options | with_reducible exact va_delay | with_reducible exact va_number | with_reducible exact va_area | with_reducible exact va_stub | with_reducible exact va_length | with_reducible exact va_cost | with_reducible exact va_resend | (repeat (first | exact valueAt_hit | refine (valueAt_miss (by decide)).trans ?_)))) ?_))) | (with_reducible ((with_reducible show wpAny _ _ (subscriptTail _ _ (Value.ref _) (Value.str _ _)) _ _ _); k_dflt (refine kda_item (knd := PySem.strKind _ _) (by k_asm) (by k_mem) (by k_asm) (strKind_is _ _ _ _) (by (first | with_reducible exact va_router | with_reducible exact va_state | with_reducible exact va_dr | with_reducible exact va_bdr | with_reducible exact va_dr_address | with_reducible exact va_bdr_address | with_reducible exact va_neighbours | with_reducible exact va_hello_at | with_reducible exact va_wait_until | with_reducible exact va_kind | with_reducible exact va_address | with_reducible exact va_priority | with_reducible exact va_hello | with_reducible exact va_dead | with_reducible exact va_options | with_reducible exact va_delay | with_reducible exact va_number | with_reducible exact va_area | with_reducible exact va_stub | with_reducible exact va_length | with_reducible exact va_cost | with_reducible exact va_resend | (repeat (first | exact valueAt_hit | refine (valueAt_miss (by decide)).trans ?_)))) ?_))) | walk1 | (dsimp only; walk1) | (leave1; (try dsimp only))))
          exact turnPr_end (k := c9) (by assumption) (by assumption) (by k_mem) (by k_mem) (by k_mem) (by k_mem) (by kcf_all) off3 (by k_ne) (by k_ne) (by k_ne) (.head _) T3 hn3
      · exact midHl_intro (by assumption) (by assumption) rfl rfl rfl (by k_mem) (by k_mem) (by k_mem) (by kcf_all) i9 ⟨o9, .inl ⟨by (first | lia | omega), p9⟩⟩ (by (first | lia | omega))
    · intro i8 ys8 news8 hi8 h8 v8 I8 oI8 C8 oC8 D8 m8 hp8 tk8 E8 hP8 hO8 hm8 F8 N8 off8 ne8
      obtain ⟨e1, e2⟩ := h8
      subst e1
      rw [List.size_toArray] at hi8
      have hP9 : ws[i8]? = some v8 := by simpa using hP8
      obtain ⟨⟨r, b⟩, hx⟩ : ∃ q, xs[i8]? = some q := ⟨_, List.getElem?_eq_getElem (by rw [← hws.1]; exact hi8)⟩
      obtain ⟨v, a1, p9, o9, s1, s2, a2, hm9, hd9⟩ := hws.2 i8 r b hx
      rw [hP9] at a1
      cases a1
      subst a2
      have e3 := heard_snoc hx
      cases b with
      | true =>
        simp only [if_true] at hd9 e3
        (repeat' (first | (k_unfold; (try dsimp only)) | (k_end; wrow_close) | (with_reducible ((with_reducible show wpAny _ _ (eval (Expr.ListComp (Expr.Subscript _ _ _) _ _ _) (envOf (Str.ofString "own_hello") _ _ _ _)) _ _ _); k_dflt (refine LCt.ListComp_T (F₀ := by k_asm) (by with_unfolding_all rfl) (by decide) (by rfl) (by decide) (by rfl) ?_))) | (with_reducible ((with_reducible show wpAny _ _ (eval (Expr.ListComp (Expr.Tuple _ _ _) _ _ _) (envOf (Str.ofString "own_hello") _ _ _ _)) _ _ _); k_dflt (refine LCg.ListComp_U (F₀ := by k_asm) (by with_unfolding_all rfl) (by decide) (by rfl) (by decide) (by rfl) ?_))) | (with_reducible ((with_reducible show LCg.CompSrc ..); (k_dflt (refine LCg.CompSrc.ledger (by rfl) (by k_asm) (by k_asm) (by k_mem) (by rw [List.size_toArray, sizeLine_eq]; (first | lia | omega)) ?_); intro g'))) | (with_reducible ((with_reducible show LCg.CompRest ..); (refine stop_at ?_))) | (with_reducible ((with_reducible show LCt.CompSrcT ..); (k_dflt (refine LCt.CompSrcT.ledger (by rfl) (by k_asm) (by k_asm) (by k_mem) (by rw [List.size_toArray, sizeLine_eq]; (first | lia | omega)) ?_); intro g'))) | (with_reducible ((with_reducible show wpAny _ _ (call (Value.ref 151) _) _ _ _); k_dflt (first | (refine told1_c.use (by k_asm) (by k_asm) (by k_asm) (by k_asm) (by k_asm) (by first | exact rfl | assumption) (by ktr_room) (by ktr_units) _ (fun _ h => nomatch h) (fun _ h => h) Off.nil ?_) | (refine told0_c.use (by k_asm) (by k_asm) (by k_asm) (by k_asm) (by k_asm) (by first | exact rfl | assumption) (by ktr_room) (by ktr_units) _ (fun _ h => nomatch h) (fun _ h => h) Off.nil ?_)); intro rz9 lz9 hz9 tkz9 Fz9 Nz9 offz9 Pz9; obtain ⟨ez9, fz9⟩ := Pz9; subst ez9; subst fz9; simp only [List.nil_append] at Nz9; clear offz9; (try dsimp only))) | (with_reducible ((with_reducible show wpAny _ _ (call (Value.builtin "sorted") _) _ _ _); (refine stop_at ?_))) | (with_reducible ((with_reducible show wpAny _ _ (call (Value.type "dict") _) _ _ _); (refine stop_at ?_))) | (with_reducible ((with_reducible refine execs_tk ?_); intro _; (try dsimp only); (try k_fold))) | (with_reducible ((with_reducible show wpAny _ _ (call (Value.ref _) _) _ _ _); refine wpAny_call ?_; k_dflt (refine code_def (by k_asm) (by k_asm) (by k_asm) (by k_asm) (by k_asm) rfl rfl (by first | exact rfl | assumption) (by k_is) (by k_is) (by ktr_room) (by exact BindsTo.of_eq rfl) (by exact locs rfl) ?_ (by exact rfl) (by exact rfl) (by exact rfl) (by decide); k_whole; intro g' L' h' FG' F' N' B' X' T'; (try dsimp only); (try k_lift B'); (try k_fold)))) | (with_reducible ((with_reducible show wpAny _ _ (eval (PySem.Expr.Dict ..) _) _ _ _); refine kdn_str (by k_dflt rfl) (by k_asm) (by first | k_asm | exact News.nil) (by exact Top.nolimit (by k_asm)) (by k_dflt rfl) (by k_dflt rfl) (by exact List.cons_ne_nil _ _) (by k_dflt (exact Nat.le_of_ble_eq_true rfl)) ?_; intro d' h' o' F' N' l1 lo' hd'; (try k_lt l1))) | (with_reducible ((with_reducible show KdnMade ..); k_dflt (refine kdn_made_str (by k_asm) (by k_asm) (by k_updF) (by k_asm) (by rfl) (by exact of_decide_eq_true (by first | rfl | kernel_rfl!)) ?_; intro h' o' F' N' hd'); (try dsimp only [strPairs] at hd'); (try dsimp only at N'))) | (with_reducible ((with_reducible show wpAny _ _ (call (Value.builtin "dict.update") [Value.ref _, Value.ref _]) _ _ _); k_dflt (refine upd_s (knd := PySem.strKind _ _) (by k_asm) (by k_asm) (by k_updF) (by k_asm) (by k_mem) (by k_asm) (by k_asm) (by first | assumption | k_ne) (by exact rfl) ?_); intro h' o' F' N' hd'; (first | rw [mg_line] at hd' | rw [mg_shared] at hd' | rw [mg_new1] at hd' | rw [mg_new2] at hd' | rw [mg_nb] at hd' | rw [mg_hv1] at hd' | rw [mg_hv2] at hd' | simp only [merged, List.foldl_cons, List.foldl_nil, stored, List.any_cons, List.any_nil, List.map_cons, List.map_nil, ofs_eq, String.reduceEq, decide_true, decide_false, Bool.or_true, Bool.true_or, Bool.false_or, Bool.or_false, Bool.false_eq_true, if_true, if_false, List.cons_append, List.nil_append] at hd' | skip); (try dsimp only at N'))) | (with_reducible ((with_reducible show wpAny _ _ (getMethod (Value.ref _) (Str.ofString "update") _) _ _ _); k_dflt (refine meth_upd (knd := PySem.strKind _ _) (by k_asm) (by k_mem) (by k_asm) ?_))) | (with_reducible ((with_reducible show wpAny _ _ (callWith _ (Value.builtin _) (_ :: _) (backTo _ (starEach (_ :: _) _)) []) _ _ _); k_dflt (refine callWith_method1 ?_))) | (with_reducible ((with_reducible show wpAny _ _ (eval (PySem.Expr.Subscript (PySem.Expr.Name _ _) (PySem.Expr.Constant (Const.str _) _ _) _) (envOf _ _ _ _ _)) _ _ _); k_dflt (refine sub_key (by k_asm) (by exact rfl) (by k_asm) (by k_mem) (by k_asm) (by (first | with_reducible exact va_router | with_reducible exact va_state | with_reducible exact va_dr | with_reducible exact va_bdr | with_reducible exact va_dr_address | with_reducible exact va_bdr_address | with_reducible exact va_neighbours | with_reducible exact va_hello_at | with_reducible exact va_wait_until | with_reducible exact va_kind | with_reducible exact va_address | with_reducible exact va_priority | with_reducible exact va_hello | with_reducible exact va_dead | with_reducible exact va_options | with_reducible exact va_delay | with_reducible exact va_number | with_reducible exact va_area | with_reducible exact va_stub | with_reducible exact va_length | with_reducible exact va_cost | with_reducible exact va_resend | (repeat (first | exact valueAt_hit | refine (valueAt_miss (by decide)).trans ?_)))) ?_))) | (with_reducible ((with_reducible show wpAny _ _ (subscriptTail _ _ (Value.ref _) (Value.str _ _)) _ _ _); k_dflt (refine kda_item (knd := PySem.strKind _ _) (by k_asm) (by k_mem) (by k_asm) (strKind_is _ _ _ _) (by (first | with_reducible exact va_router | with_reducible exact va_state | with_reducible exact va_dr | with_reducible exact va_bdr | with_reducible exact va_dr_address | with_reducible exact va_bdr_address | with_reducible exact va_neighbours | with_reducible exact va_hello_at | with_reducible exact va_wait_until | with_reducible exact va_kind | with_reducible exact va_address | with_reducible exact va_priority | with_reducible exact va_hello | with_reducible exact va_dead | with_reducible exact va_options | with_reducible exact va_delay | with_reducible exact va_number | with_reducible exact va_area | with_reducible exact va_stub | with_reducible exact va_length | with_reducible exact va_cost | with_reducible exact va_resend | (repeat (first | exact valueAt_hit | refine (valueAt_miss (by decide)).trans ?_)))) ?_))) | walk1 | (dsimp only; walk1) | (leave1; (try dsimp only))))
        refine LCg.CompEnd.intro (by assumption) (by assumption) ((d, o) :: (nb, listOf ws.toArray k) :: tl) (fun p hp => hp) off8 (.inr ⟨_, .tail _ (.head _), rfl, _, rfl⟩) ⟨rfl, ?_⟩
        rw [e3]
        exact e2.append (.cons _ _ .nil)
      | false =>
        simp only [Bool.false_eq_true, if_false] at hd9 e3
        (repeat' (first | (k_unfold; (try dsimp only)) | (k_end; wrow_close) | (with_reducible ((with_reducible show wpAny _ _ (eval (Expr.ListComp (Expr.Subscript _ _ _) _ _ _) (envOf (Str.ofString "own_hello") _ _ _ _)) _ _ _); k_dflt (refine LCt.ListComp_T (F₀ := by k_asm) (by with_unfolding_all rfl) (by decide) (by rfl) (by decide) (by rfl) ?_))) | (with_reducible ((with_reducible show wpAny _ _ (eval (Expr.ListComp (Expr.Tuple _ _ _) _ _ _) (envOf (Str.ofString "own_hello") _ _ _ _)) _ _ _); k_dflt (refine LCg.ListComp_U (F₀ := by k_asm) (by with_unfolding_all rfl) (by decide) (by rfl) (by decide) (by rfl) ?_))) | (with_reducible ((with_reducible show LCg.CompSrc ..); (k_dflt (refine LCg.CompSrc.ledger (by rfl) (by k_asm) (by k_asm) (by k_mem) (by rw [List.size_toArray, sizeLine_eq]; (first | lia | omega)) ?_); intro g'))) | (with_reducible ((with_reducible show LCg.CompRest ..); (refine stop_at ?_))) | (with_reducible ((with_reducible show LCt.CompSrcT ..); (k_dflt (refine LCt.CompSrcT.ledger (by rfl) (by k_asm) (by k_asm) (by k_mem) (by rw [List.size_toArray, sizeLine_eq]; (first | lia | omega)) ?_); intro g'))) | (with_reducible ((with_reducible show wpAny _ _ (call (Value.ref 151) _) _ _ _); k_dflt (first | (refine told1_c.use (by k_asm) (by k_asm) (by k_asm) (by k_asm) (by k_asm) (by first | exact rfl | assumption) (by ktr_room) (by ktr_units) _ (fun _ h => nomatch h) (fun _ h => h) Off.nil ?_) | (refine told0_c.use (by k_asm) (by k_asm) (by k_asm) (by k_asm) (by k_asm) (by first | exact rfl | assumption) (by ktr_room) (by ktr_units) _ (fun _ h => nomatch h) (fun _ h => h) Off.nil ?_)); intro rz9 lz9 hz9 tkz9 Fz9 Nz9 offz9 Pz9; obtain ⟨ez9, fz9⟩ := Pz9; subst ez9; subst fz9; simp only [List.nil_append] at Nz9; clear offz9; (try dsimp only))) | (with_reducible ((with_reducible show wpAny _ _ (call (Value.builtin "sorted") _) _ _ _); (refine stop_at ?_))) | (with_reducible ((with_reducible show wpAny _ _ (call (Value.type "dict") _) _ _ _); (refine stop_at ?_))) | (with_reducible ((with_reducible refine execs_tk ?_); intro _; (try dsimp only); (try k_fold))) | (with_reducible ((with_reducible show wpAny _ _ (call (Value.ref _) _) _ _ _); refine wpAny_call ?_; k_dflt (refine code_def (by k_asm) (by k_asm) (by k_asm) (by k_asm) (by k_asm) rfl rfl (by first | exact rfl | assumption) (by k_is) (by k_is) (by ktr_room) (by exact BindsTo.of_eq rfl) (by exact locs rfl) ?_ (by exact rfl) (by exact rfl) (by exact rfl) (by decide); k_whole; intro g' L' h' FG' F' N' B' X' T'; (try dsimp only); (try k_lift B'); (try k_fold)))) | (with_reducible ((with_reducible show wpAny _ _ (eval (PySem.Expr.Dict ..) _) _ _ _); refine kdn_str (by k_dflt rfl) (by k_asm) (by first | k_asm | exact News.nil) (by exact Top.nolimit (by k_asm)) (by k_dflt rfl) (by k_dflt rfl) (by exact List.cons_ne_nil _ _) (by k_dflt (exact Nat.le_of_ble_eq_true rfl)) ?_; intro d' h' o' F' N' l1 lo' hd'; (try k_lt l1))) | (with_reducible ((with_reducible show KdnMade ..); k_dflt (refine kdn_made_str (by k_asm) (by k_asm) (by k_updF) (by k_asm) (by rfl) (by exact of_decide_eq_true (by first | rfl | kernel_rfl!)) ?_; intro h' o' F' N' hd'); (try dsimp only [strPairs] at hd'); (try dsimp only at N'))) | (with_reducible ((with_reducible show wpAny _ _ (call (Value.builtin "dict.update") [Value.ref _, Value.ref _]) _ _ _); k_dflt (refine upd_s (knd := PySem.strKind _ _) (by k_asm) (by k_asm) (by k_updF) (by k_asm) (by k_mem) (by k_asm) (by k_asm) (by first | assumption | k_ne) (by exact rfl) ?_); intro h' o' F' N' hd'; (first | rw [mg_line] at hd' | rw [mg_shared] at hd' | rw [mg_new1] at hd' | rw [mg_new2] at hd' | rw [mg_nb] at hd' | rw [mg_hv1] at hd' | rw [mg_hv2] at hd' | simp only [merged, List.foldl_cons, List.foldl_nil, stored, List.any_cons, List.any_nil, List.map_cons, List.map_nil, ofs_eq, String.reduceEq, decide_true, decide_false, Bool.or_true, Bool.true_or, Bool.false_or, Bool.or_false, Bool.false_eq_true, if_true, if_false, List.cons_append, List.nil_append] at hd' | skip); (try dsimp only at N'))) | (with_reducible ((with_reducible show wpAny _ _ (getMethod (Value.ref _) (Str.ofString "update") _) _ _ _); k_dflt (refine meth_upd (knd := PySem.strKind _ _) (by k_asm) (by k_mem) (by k_asm) ?_))) | (with_reducible ((with_reducible show wpAny _ _ (callWith _ (Value.builtin _) (_ :: _) (backTo _ (starEach (_ :: _) _)) []) _ _ _); k_dflt (refine callWith_method1 ?_))) | (with_reducible ((with_reducible show wpAny _ _ (eval (PySem.Expr.Subscript (PySem.Expr.Name _ _) (PySem.Expr.Constant (Const.str _) _ _) _) (envOf _ _ _ _ _)) _ _ _); k_dflt (refine sub_key (by k_asm) (by exact rfl) (by k_asm) (by k_mem) (by k_asm) (by (first | with_reducible exact va_router | with_reducible exact va_state | with_reducible exact va_dr | with_reducible exact va_bdr | with_reducible exact va_dr_address | with_reducible exact va_bdr_address | with_reducible exact va_neighbours | with_reducible exact va_hello_at | with_reducible exact va_wait_until | with_reducible exact va_kind | with_reducible exact va_address | with_reducible exact va_priority | with_reducible exact va_hello | with_reducible exact va_dead | with_reducible exact va_options | with_reducible exact va_delay | with_reducible exact va_number | with_reducible exact va_area | with_reducible exact va_stub | with_reducible exact va_length | with_reducible exact va_cost | with_reducible exact va_resend | (repeat (first | exact valueAt_hit | refine (valueAt_miss (by decide)).trans ?_)))) ?_))) | (with_reducible ((with_reducible show wpAny _ _ (subscriptTail _ _ (Value.ref _) (Value.str _ _)) _ _ _); k_dflt (refine kda_item (knd := PySem.strKind _ _) (by k_asm) (by k_mem) (by k_asm) (strKind_is _ _ _ _) (by (first | with_reducible exact va_router | with_reducible exact va_state | with_reducible exact va_dr | with_reducible exact va_bdr | with_reducible exact va_dr_address | with_reducible exact va_bdr_address | with_reducible exact va_neighbours | with_reducible exact va_hello_at | with_reducible exact va_wait_until | with_reducible exact va_kind | with_reducible exact va_address | with_reducible exact va_priority | with_reducible exact va_hello | with_reducible exact va_dead | with_reducible exact va_options | with_reducible exact va_delay | with_reducible exact va_number | with_reducible exact va_area | with_reducible exact va_stub | with_reducible exact va_length | with_reducible exact va_cost | with_reducible exact va_resend | (repeat (first | exact valueAt_hit | refine (valueAt_miss (by decide)).trans ?_)))) ?_))) | walk1 | (dsimp only; walk1) | (leave1; (try dsimp only))))
        refine LCg.CompEnd.intro (by assumption) (by assumption) ((d, o) :: (nb, listOf ws.toArray k) :: tl) (fun p hp => hp) off8 (.inr ⟨_, .tail _ (.head _), rfl, _, rfl⟩) ⟨rfl, ?_⟩
        rw [e3]
        exact e2
    · exact .nil
  · intro h9 tk9 m9 news9 F9 N9 M9
    obtain ⟨D, vs, c, hs, e9, m1, m2, m3, hi, hh, hl⟩ := M9
    subst e9
    have l3 := hi.length
    replace F9 := fr_name (fr_name2 F9 m2 m3 (by decide)) (x := "heard") ((if_neg (fun h => absurd (ofs_inj h) (by decide))).trans ((if_neg (fun h => absurd (ofs_inj h) (by decide))).trans m1))
    simp only [List.drop_succ_cons, List.drop_zero]
    clear m1 m2 m3
    (repeat' (first | (k_unfold; (try dsimp only)) | (k_end; wrow_close) | (with_reducible ((with_reducible show wpAny _ _ (eval (Expr.ListComp (Expr.Subscript _ _ _) _ _ _) (envOf (Str.ofString "own_hello") _ _ _ _)) _ _ _); k_dflt (refine LCt.ListComp_T (F₀ := by k_asm) (by with_unfolding_all rfl) (by decide) (by rfl) (by decide) (by rfl) ?_))) | (with_reducible ((with_reducible show wpAny _ _ (eval (Expr.ListComp (Expr.Tuple _ _ _) _ _ _) (envOf (Str.ofString "own_hello") _ _ _ _)) _ _ _); k_dflt (refine LCg.ListComp_U (F₀ := by k_asm) (by with_unfolding_all rfl) (by decide) (by rfl) (by decide) (by rfl) ?_))) | (with_reducible ((with_reducible show LCg.CompSrc ..); (k_dflt (refine LCg.CompSrc.ledger (by rfl) (by k_asm) (by k_asm) (by k_mem) (by rw [List.size_toArray, sizeLine_eq]; (first | lia | omega)) ?_); intro g'))) | (with_reducible ((with_reducible show LCg.CompRest ..); (refine stop_at ?_))) | (with_reducible ((with_reducible show LCt.CompSrcT ..); (k_dflt (refine LCt.CompSrcT.ledger (by rfl) (by k_asm) (by k_asm) (by k_mem) (by rw [List.size_toArray, sizeLine_eq]; (first | lia | omega)) ?_); intro g'))) | (with_reducible ((with_reducible show wpAny _ _ (call (Value.ref 151) _) _ _ _); k_dflt (first | (refine told1_c.use (by k_asm) (by k_asm) (by k_asm) (by k_asm) (by k_asm) (by first | exact rfl | assumption) (by ktr_room) (by ktr_units) _ (fun _ h => nomatch h) (fun _ h => h) Off.nil ?_) | (refine told0_c.use (by k_asm) (by k_asm) (by k_asm) (by k_asm) (by k_asm) (by first | exact rfl | assumption) (by ktr_room) (by ktr_units) _ (fun _ h => nomatch h) (fun _ h => h) Off.nil ?_)); intro rz9 lz9 hz9 tkz9 Fz9 Nz9 offz9 Pz9; obtain ⟨ez9, fz9⟩ := Pz9; subst ez9; subst fz9; simp only [List.nil_append] at Nz9; clear offz9; (try dsimp only))) | (with_reducible ((with_reducible show wpAny _ _ (call (Value.builtin "sorted") _) _ _ _); (refine stop_at ?_))) | (with_reducible ((with_reducible show wpAny _ _ (call (Value.type "dict") _) _ _ _); (refine stop_at ?_))) | (with_reducible ((with_reducible refine execs_tk ?_); intro _; (try dsimp only); (try k_fold))) | (with_reducible ((with_reducible show wpAny _ _ (call (Value.ref _) _) _ _ _); refine wpAny_call ?_; k_dflt (refine code_def (by k_asm) (by k_asm) (by k_asm) (by k_asm) (by k_asm) rfl rfl (by first | exact rfl | assumption) (by k_is) (by k_is) (by ktr_room) (by exact BindsTo.of_eq rfl) (by exact locs rfl) ?_ (by exact rfl) (by exact rfl) (by exact rfl) (by decide); k_whole; intro g' L' h' FG' F' N' B' X' T'; (try dsimp only); (try k_lift B'); (try k_fold)))) | (with_reducible ((with_reducible show wpAny _ _ (eval (PySem.Expr.Dict ..) _) _ _ _); refine kdn_str (by k_dflt rfl) (by k_asm) (by first | k_asm | exact News.nil) (by exact Top.nolimit (by k_asm)) (by k_dflt rfl) (by k_dflt rfl) (by exact List.cons_ne_nil _ _) (by k_dflt (exact Nat.le_of_ble_eq_true rfl)) ?_; intro d' h' o' F' N' l1 lo' hd'; (try k_lt l1))) | (with_reducible ((with_reducible show KdnMade ..); k_dflt (refine kdn_made_str (by k_asm) (by k_asm) (by k_updF) (by k_asm) (by rfl) (by exact of_decide_eq_true (by first | rfl | kernel_rfl!)) ?_; intro h' o' F' N' hd'); (try dsimp only [strPairs] at hd'); (try dsimp only at N'))) | (with_reducible ((with_reducible show wpAny _ _ (call (Value.builtin "dict.update") [Value.ref _, Value.ref _]) _ _ _); k_dflt (refine upd_s (knd := PySem.strKind _ _) (by k_asm) (by k_asm) (by k_updF) (by k_asm) (by k_mem) (by k_asm) (by k_asm) (by first | assumption | k_ne) (by exact rfl) ?_); intro h' o' F' N' hd'; (first | rw [mg_line] at hd' | rw [mg_shared] at hd' | rw [mg_new1] at hd' | rw [mg_new2] at hd' | rw [mg_nb] at hd' | rw [mg_hv1] at hd' | rw [mg_hv2] at hd' | simp only [merged, List.foldl_cons, List.foldl_nil, stored, List.any_cons, List.any_nil, List.map_cons, List.map_nil, ofs_eq, String.reduceEq, decide_true, decide_false, Bool.or_true, Bool.true_or, Bool.false_or, Bool.or_false, Bool.false_eq_true, if_true, if_false, List.cons_append, List.nil_append] at hd' | skip); (try dsimp only at N'))) | (with_reducible ((with_reducible show wpAny _ _ (getMethod (Value.ref _) (Str.ofString "update") _) _ _ _); k_dflt (refine meth_upd (knd := PySem.strKind _ _) (by k_asm) (by k_mem) (by k_asm) ?_))) | (with_reducible ((with_reducible show wpAny _ _ (callWith _ (Value.builtin _) (_ :: _) (backTo _ (starEach (_ :: _) _)) []) _ _ _); k_dflt (refine callWith_method1 ?_))) | (with_reducible ((with_reducible show wpAny _ _ (eval (PySem.Expr.Subscript (PySem.Expr.Name _ _) (PySem.Expr.Constant (Const.str _) _ _) _) (envOf _ _ _ _ _)) _ _ _); k_dflt (refine sub_key (by k_asm) (by exact rfl) (by k_asm) (by k_mem) (by k_asm) (by (first | with_reducible exact va_router | with_reducible exact va_state | with_reducible exact va_dr | with_reducible exact va_bdr | with_reducible exact va_dr_address | with_reducible exact va_bdr_address | with_reducible exact va_neighbours | with_reducible exact va_hello_at | with_reducible exact va_wait_until | with_reducible exact va_kind | with_reducible exact va_address | with_reducible exact va_priority | with_reducible exact va_hello | with_reducible exact va_dead | with_reducible exact va_options | with_reducible exact va_delay | with_reducible exact va_number | with_reducible exact va_area | with_reducible exact va_stub | with_reducible exact va_length | with_reducible exact va_cost | with_reducible exact va_resend | (repeat (first | exact valueAt_hit | refine (valueAt_miss (by decide)).trans ?_)))) ?_))) | (with_reducible ((with_reducible show wpAny _ _ (subscriptTail _ _ (Value.ref _) (Value.str _ _)) _ _ _); k_dflt (refine kda_item (knd := PySem.strKind _ _) (by k_asm) (by k_mem) (by k_asm) (strKind_is _ _ _ _) (by (first | with_reducible exact va_router | with_reducible exact va_state | with_reducible exact va_dr | with_reducible exact va_bdr | with_reducible exact va_dr_address | with_reducible exact va_bdr_address | with_reducible exact va_neighbours | with_reducible exact va_hello_at | with_reducible exact va_wait_until | with_reducible exact va_kind | with_reducible exact va_address | with_reducible exact va_priority | with_reducible exact va_hello | with_reducible exact va_dead | with_reducible exact va_options | with_reducible exact va_delay | with_reducible exact va_number | with_reducible exact va_area | with_reducible exact va_stub | with_reducible exact va_length | with_reducible exact va_cost | with_reducible exact va_resend | (repeat (first | exact valueAt_hit | refine (valueAt_miss (by decide)).trans ?_)))) ?_))) | walk1 | (dsimp only; walk1) | (leave1; (try dsimp only))))
    refine stop_out ?_
    rename IntsAre _ (List.take 359 hs) => i9
    have l9 := i9.length
    rw [List.length_take] at l9
    refine sorted_L (by k_asm) (by k_asm) ⟨_, ((by assumption : News _ _ _ ((_, tup _) :: _)) _ (.tail _ (.head _))).1, rfl, _, rfl⟩ i9 (by (first | lia | omega)) ?_
    intro D4 h4 vs4 ns4 c4 F4 N4 l4 i4 p4 o4
    have e4 : ns4 = hs.take 359 := sorted_unique p4 o4 (hh.1.sublist (List.take_sublist _ _))
    have l5 := i4.length
    have l6 : ns4.length ≤ 359 := by rw [e4, List.length_take]; (first | lia | omega)
    try k_lt l4
    (repeat' (first | (k_unfold; (try dsimp only)) | (k_end; wrow_close) | (with_reducible ((with_reducible show wpAny _ _ (eval (Expr.ListComp (Expr.Subscript _ _ _) _ _ _) (envOf (Str.ofString "own_hello") _ _ _ _)) _ _ _); k_dflt (refine LCt.ListComp_T (F₀ := by k_asm) (by with_unfolding_all rfl) (by decide) (by rfl) (by decide) (by rfl) ?_))) | (with_reducible ((with_reducible show wpAny _ _ (eval (Expr.ListComp (Expr.Tuple _ _ _) _ _ _) (envOf (Str.ofString "own_hello") _ _ _ _)) _ _ _); k_dflt (refine LCg.ListComp_U (F₀ := by k_asm) (by with_unfolding_all rfl) (by decide) (by rfl) (by decide) (by rfl) ?_))) | (with_reducible ((with_reducible show LCg.CompSrc ..); (k_dflt (refine LCg.CompSrc.ledger (by rfl) (by k_asm) (by k_asm) (by k_mem) (by rw [List.size_toArray, sizeLine_eq]; (first | lia | omega)) ?_); intro g'))) | (with_reducible ((with_reducible show LCg.CompRest ..); (refine stop_at ?_))) | (with_reducible ((with_reducible show LCt.CompSrcT ..); (k_dflt (refine LCt.CompSrcT.ledger (by rfl) (by k_asm) (by k_asm) (by k_mem) (by rw [List.size_toArray, sizeLine_eq]; (first | lia | omega)) ?_); intro g'))) | (with_reducible ((with_reducible show wpAny _ _ (call (Value.ref 151) _) _ _ _); k_dflt (first | (refine told1_c.use (by k_asm) (by k_asm) (by k_asm) (by k_asm) (by k_asm) (by first | exact rfl | assumption) (by ktr_room) (by ktr_units) _ (fun _ h => nomatch h) (fun _ h => h) Off.nil ?_) | (refine told0_c.use (by k_asm) (by k_asm) (by k_asm) (by k_asm) (by k_asm) (by first | exact rfl | assumption) (by ktr_room) (by ktr_units) _ (fun _ h => nomatch h) (fun _ h => h) Off.nil ?_)); intro rz9 lz9 hz9 tkz9 Fz9 Nz9 offz9 Pz9; obtain ⟨ez9, fz9⟩ := Pz9; subst ez9; subst fz9; simp only [List.nil_append] at Nz9; clear offz9; (try dsimp only))) | (with_reducible ((with_reducible show wpAny _ _ (call (Value.builtin "sorted") _) _ _ _); (refine stop_at ?_))) | (with_reducible ((with_reducible show wpAny _ _ (call (Value.type "dict") _) _ _ _); (refine stop_at ?_))) | (with_reducible ((with_reducible refine execs_tk ?_); intro _; (try dsimp only); (try k_fold))) | (with_reducible ((with_reducible show wpAny _ _ (call (Value.ref _) _) _ _ _); refine wpAny_call ?_; k_dflt (refine code_def (by k_asm) (by k_asm) (by k_asm) (by k_asm) (by k_asm) rfl rfl (by first | exact rfl | assumption) (by k_is) (by k_is) (by ktr_room) (by exact BindsTo.of_eq rfl) (by exact locs rfl) ?_ (by exact rfl) (by exact rfl) (by exact rfl) (by decide); k_whole; intro g' L' h' FG' F' N' B' X' T'; (try dsimp only); (try k_lift B'); (try k_fold)))) | (with_reducible ((with_reducible show wpAny _ _ (eval (PySem.Expr.Dict ..) _) _ _ _); refine kdn_str (by k_dflt rfl) (by k_asm) (by first | k_asm | exact News.nil) (by exact Top.nolimit (by k_asm)) (by k_dflt rfl) (by k_dflt rfl) (by exact List.cons_ne_nil _ _) (by k_dflt (exact Nat.le_of_ble_eq_true rfl)) ?_; intro d' h' o' F' N' l1 lo' hd'; (try k_lt l1))) | (with_reducible ((with_reducible show KdnMade ..); k_dflt (refine kdn_made_str (by k_asm) (by k_asm) (by k_updF) (by k_asm) (by rfl) (by exact of_decide_eq_true (by first | rfl | kernel_rfl!)) ?_; intro h' o' F' N' hd'); (try dsimp only [strPairs] at hd'); (try dsimp only at N'))) | (with_reducible ((with_reducible show wpAny _ _ (call (Value.builtin "dict.update") [Value.ref _, Value.ref _]) _ _ _); k_dflt (refine upd_s (knd := PySem.strKind _ _) (by k_asm) (by k_asm) (by k_updF) (by k_asm) (by k_mem) (by k_asm) (by k_asm) (by first | assumption | k_ne) (by exact rfl) ?_); intro h' o' F' N' hd'; (first | rw [mg_line] at hd' | rw [mg_shared] at hd' | rw [mg_new1] at hd' | rw [mg_new2] at hd' | rw [mg_nb] at hd' | rw [mg_hv1] at hd' | rw [mg_hv2] at hd' | simp only [merged, List.foldl_cons, List.foldl_nil, stored, List.any_cons, List.any_nil, List.map_cons, List.map_nil, ofs_eq, String.reduceEq, decide_true, decide_false, Bool.or_true, Bool.true_or, Bool.false_or, Bool.or_false, Bool.false_eq_true, if_true, if_false, List.cons_append, List.nil_append] at hd' | skip); (try dsimp only at N'))) | (with_reducible ((with_reducible show wpAny _ _ (getMethod (Value.ref _) (Str.ofString "update") _) _ _ _); k_dflt (refine meth_upd (knd := PySem.strKind _ _) (by k_asm) (by k_mem) (by k_asm) ?_))) | (with_reducible ((with_reducible show wpAny _ _ (callWith _ (Value.builtin _) (_ :: _) (backTo _ (starEach (_ :: _) _)) []) _ _ _); k_dflt (refine callWith_method1 ?_))) | (with_reducible ((with_reducible show wpAny _ _ (eval (PySem.Expr.Subscript (PySem.Expr.Name _ _) (PySem.Expr.Constant (Const.str _) _ _) _) (envOf _ _ _ _ _)) _ _ _); k_dflt (refine sub_key (by k_asm) (by exact rfl) (by k_asm) (by k_mem) (by k_asm) (by (first | with_reducible exact va_router | with_reducible exact va_state | with_reducible exact va_dr | with_reducible exact va_bdr | with_reducible exact va_dr_address | with_reducible exact va_bdr_address | with_reducible exact va_neighbours | with_reducible exact va_hello_at | with_reducible exact va_wait_until | with_reducible exact va_kind | with_reducible exact va_address | with_reducible exact va_priority | with_reducible exact va_hello | with_reducible exact va_dead | with_reducible exact va_options | with_reducible exact va_delay | with_reducible exact va_number | with_reducible exact va_area | with_reducible exact va_stub | with_reducible exact va_length | with_reducible exact va_cost | with_reducible exact va_resend | (repeat (first | exact valueAt_hit | refine (valueAt_miss (by decide)).trans ?_)))) ?_))) | (with_reducible ((with_reducible show wpAny _ _ (subscriptTail _ _ (Value.ref _) (Value.str _ _)) _ _ _); k_dflt (refine kda_item (knd := PySem.strKind _ _) (by k_asm) (by k_mem) (by k_asm) (strKind_is _ _ _ _) (by (first | with_reducible exact va_router | with_reducible exact va_state | with_reducible exact va_dr | with_reducible exact va_bdr | with_reducible exact va_dr_address | with_reducible exact va_bdr_address | with_reducible exact va_neighbours | with_reducible exact va_hello_at | with_reducible exact va_wait_until | with_reducible exact va_kind | with_reducible exact va_address | with_reducible exact va_priority | with_reducible exact va_hello | with_reducible exact va_dead | with_reducible exact va_options | with_reducible exact va_delay | with_reducible exact va_number | with_reducible exact va_area | with_reducible exact va_stub | with_reducible exact va_length | with_reducible exact va_cost | with_reducible exact va_resend | (repeat (first | exact valueAt_hit | refine (valueAt_miss (by decide)).trans ?_)))) ?_))) | walk1 | (dsimp only; walk1) | (leave1; (try dsimp only))))
    subst e4
    refine' ctr_end hret ?post ?G ?F' ?N' ?F ?N ?hs
    (case' post => refine' ⟨_, _, _, hs, _, _, _, _, _, _, _, _, rfl, rfl, i4, hh⟩)
    (((case G => assumption); (case F' => assumption); (case N' => assumption); (case F => assumption); (case N => assumption); (case hs => lcg_sub)))
section
theorem off_M14 : True := by w_top off; trivial
local macro_rules | `(tactic| walk_at "none 0") => `(tactic| fail)
/-- a name's value, past the one that is just stored -/
theorem past {a b : String} {v u : Value} {x : Option Value} (h : b ≠ a) (e : x = some u) : (if PySem.Str.ofString b = PySem.Str.ofString a then some v else x) = some u := (if_neg (fun q => h (ofs_inj q))).trans e
/-- between the turns of the first loop of _law_named -/
inductive TurnN1 (w : World) (D fl ot l : Addr) (oD : Obj) (vs : List Value) (ns : List Int) (k : Nat) (tr : Tok) (r : List Value) (m : PySem.Str → Option Value) (news : Led) : Prop
  | mk (o kvs done rs) (q1 : news = [(D, oD), (fl, listOf #[] 0), (ot, o), (l, listOf vs.toArray k)]) (q2 : m "often" = some (.ref ot)) (q3 : m "found" = some (.ref fl)) (q4 : m "heard" = some (.ref l)) (q5 : m "room" = some (.int 359 tr)) (q6 : o.IsDictOf (PySem.intKind PR w) kvs) (q7 : PyProof.V.FlatPairs PyData.int kvs (kdfD (cnt done))) (q8 : ns = done ++ rs) (q9 : IntsAre r rs) : TurnN1 w D fl ot l oD vs ns k tr r m news
/-- between the turns of the second loop of _law_named -/
inductive TurnN2 (D5 D fl ot l : Addr) (oD o2 : Obj) (vs5 : List Value) (c5 : Nat) (vs : List Value) (ns ks : List Int) (k : Nat) (tr : Tok) (r : List Value) (m : PySem.Str → Option Value) (news : Led) : Prop
  | mk (fv fe done rs) (q1 : news = [(D5, listOf vs5.toArray c5), (D, oD), (fl, listOf fv.toArray fe), (ot, o2), (l, listOf vs.toArray k)]) (q2 : m "often" = some (.ref ot)) (q3 : m "found" = some (.ref fl)) (q4 : m "heard" = some (.ref l)) (q5 : m "room" = some (.int 359 tr)) (q6 : IntsAre fv (expand (cnt ns) (decide (ns.length ≤ 359)) done)) (q7 : ks = done ++ rs) (q8 : IntsAre r rs) : TurnN2 D5 D fl ot l oD o2 vs5 c5 vs ns ks k tr r m news
theorem expand_len (ns done ks rs : List Int) (h : ns.length ≤ 720) (b : Bool) (hk : ks.length ≤ 720) (e : ks = done ++ rs) : (expand (cnt ns) b done).length ≤ 518400 := by
  have h1 : ∀ l : List Int, (expand (cnt ns) b l).length ≤ 720 * l.length := by
    intro l
    induction l with
    | nil => simp [expand]
    | cons n l ih =>
      have e2 : expand (cnt ns) b (n :: l) = List.replicate (if b then (kdfLook (cnt ns) n 0).toNat else 1) n ++ expand (cnt ns) b l := rfl
      rw [e2, List.length_append, List.length_replicate, List.length_cons, look_cnt]
      have := List.count_le_length (a := n) (l := ns)
      split <;> (first | lia | omega)
  have h2 := h1 done
  have h3 := congrArg List.length e
  rw [List.length_append] at h3
  have : done.length ≤ 720 := by (first | lia | omega)
  (first | lia | omega)
theorem look_pos {ns : List Int} {n : Int} (h : n ∈ ns) : 1 ≤ kdfLook (cnt ns) n 0 := by
  rw [look_cnt]
  have := List.count_pos_iff.mpr h
  (first | lia | omega)
theorem look_le (ns : List Int) (n : Int) (h : ns.length ≤ 720) : kdfLook (cnt ns) n 0 ≤ 720 := by
  rw [look_cnt]
  have := List.count_le_length (a := n) (l := ns)
  (first | lia | omega)
theorem ints_rep (n : Int) (t : Tok) : ∀ c : Nat, IntsAre (List.replicate c (.int n t)) (List.replicate c n)
  | 0 => .nil
  | c + 1 => .cons _ _ (ints_rep n t c)
set_option maxHeartbeats 4000000 in
theorem named_c {w : World} {l : Addr} {vs : List Value} {ns : List Int} {k : Nat} (hI : IntsAre vs ns) (h720 : ns.length ≤ 720) :
    Ctr w 1 227 [.ref l] [(l, listOf vs.toArray k)]
      (fun z foot' => ∃ H us hs, z = .ref H ∧ foot' = [(H, tup us)] ∧ IntsAre us (hs.take 359) ∧ HeardL ns hs) := by
  unfold Ctr
  intro mean mg mb dp un gd cn cs a' ccd cl outer A₀ base h₀ L m s Q E B F X N T hk hdp hun hret
  have keepI : IntsAre vs ns ∧ vs.length = ns.length := ⟨hI, hI.length⟩
  refine wpAny_call ?_
  k_dflt ((refine' code_defG ?k1 ?k2 ?k3 ?k4 ?k5 ?kA ?kF ?kK ?k6 ?k7 ?k8 ?k9 ?kB ?_ ?c2 ?c3 ?c4 ?c5; (case kA => exact rfl); (case kF => exact rfl); (case kK => assumption); (case k1 => k_asm); (case k2 => k_asm); (case k3 => k_asm); (case k4 => k_asm); (case k5 => k_asm); (case k6 => k_is); (case k7 => k_is); (case k8 => ktr_room); (case k9 => exact BindsTo.of_eq rfl); (case c5 => decide); (case kB => exact locs rfl); (case c2 => exact rfl); (case c3 => exact rfl); (case c4 => exact rfl); k_whole; intro g' L' h' FG' F' N' B' X' T' kG'; (try dsimp only); (try k_lift B'); (try k_fold)))
  (repeat' (first | (k_unfold; (try dsimp only)) | (k_end; wrow_close) | (with_reducible ((with_reducible show wpAny _ _ (exec _ (envOf (Str.ofString "_law_named") _ _ _ _)) _ _ _); (rename Fr _ _ _ _ => lF'); (with_unfolding_all refine' For_invVF lF' ?_ ?_ ?_; exact rfl; exact rfl; k_whole))) | (with_reducible ((with_reducible show wpAny _ _ (pyIter (Value.ref _)) (fun it s₂ => LoopAtV _ _ _ _ (envOf (Str.ofString "_law_named") _ _ _ _) _ _ _ _ it s₂) _ _); (rename Fr _ _ _ _ => lF'); (rename News _ _ _ _ => lN'); (with_unfolding_all refine iter_listUnr (by rfl) lF' lN' (by k_mem) (by rfl) (by rfl) ?_); clear lF' lN'; intro i' l1; (try k_lt l1))) | (with_reducible ((with_reducible show wpAny _ _ (binaryOp _ (Value.ref _) (Value.int _ _)) _ _ _); (k_dflt (refine mul_one_K (by k_asm) (by k_asm) (by k_mem) (by (first | lia | omega)) (by (first | lia | omega)) ?_); intro D' h' F' N' l1; (try k_lt l1)))) | (with_reducible ((with_reducible show wpAny _ _ (call (Value.builtin "list.extend") _) _ _ _); (k_dflt (refine ext_K (by k_asm) (by k_asm) (by k_mem) (by exact rep_ne (by (first | lia | omega))) (by k_upd) (by (rw [List.length_replicate]; (first | lia | omega))) ?_); intro h' F' N'; (try dsimp only)))) | (with_reducible ((with_reducible show UnrEnd ..); (refine stop_at ?_))) | (with_reducible ((with_reducible show wpAny _ _ (call (Value.builtin "sorted") _) _ _ _); (refine stop_at ?_))) | (with_reducible ((with_reducible refine execs_tk ?_); intro _; (try dsimp only); (try k_fold))) | (with_reducible ((with_reducible show wpAny _ _ (callWith _ (Value.builtin _) (_ :: _) (backTo _ (starEach (_ :: _) _)) []) _ _ _); k_dflt (refine callWith_method1 ?_))) | walk1 | (dsimp only; walk1) | (leave1; (try dsimp only))))
  rename_i ot h1 o1 lo1 hs1 fs1 hi1 fi1 l1 fl h2 l2 D h3 l3 h4 h5 h6 h7 tkB
  refine list_ind (TurnN1 w D fl ot l _ vs ns k _) ?_ ?_ _ _ _ ⟨o1, [], [], ns, rfl, rfl, rfl, rfl, rfl, hi1, fi1, rfl, keepI.1⟩
  · intro m8 news8 h8 tk8 T8 F8 N8
    obtain ⟨o2, kvs2, done, rs, e8, n1, n2, n3, n4, hd2, hf2, e9, hr⟩ := T8
    subst e8
    cases hr
    rw [List.append_nil] at e9
    subst e9
    replace F8 := fr_name2 (fr_name2 F8 n1 n2 (by decide)) (a := "heard") (b := "room") (past (by decide) (past (by decide) n3)) (past (by decide) (past (by decide) n4)) (by decide)
    clear n1 n2 n3 n4
    dsimp only
    have hL : kvs2.length ≤ 720 := by
      rw [← hf2.length, kdfD_length]
      exact Nat.le_trans (cnt_len _) h720
    (repeat' (first | (k_unfold; (try dsimp only)) | (k_end; wrow_close) | (with_reducible ((with_reducible show wpAny _ _ (exec _ (envOf (Str.ofString "_law_named") _ _ _ _)) _ _ _); (rename Fr _ _ _ _ => lF'); (with_unfolding_all refine' For_invVF lF' ?_ ?_ ?_; exact rfl; exact rfl; k_whole))) | (with_reducible ((with_reducible show wpAny _ _ (pyIter (Value.ref _)) (fun it s₂ => LoopAtV _ _ _ _ (envOf (Str.ofString "_law_named") _ _ _ _) _ _ _ _ it s₂) _ _); (rename Fr _ _ _ _ => lF'); (rename News _ _ _ _ => lN'); (with_unfolding_all refine iter_listUnr (by rfl) lF' lN' (by k_mem) (by rfl) (by rfl) ?_); clear lF' lN'; intro i' l1; (try k_lt l1))) | (with_reducible ((with_reducible show wpAny _ _ (binaryOp _ (Value.ref _) (Value.int _ _)) _ _ _); (k_dflt (refine mul_one_K (by k_asm) (by k_asm) (by k_mem) (by (first | lia | omega)) (by (first | lia | omega)) ?_); intro D' h' F' N' l1; (try k_lt l1)))) | (with_reducible ((with_reducible show wpAny _ _ (call (Value.builtin "list.extend") _) _ _ _); (k_dflt (refine ext_K (by k_asm) (by k_asm) (by k_mem) (by exact rep_ne (by (first | lia | omega))) (by k_upd) (by (rw [List.length_replicate]; (first | lia | omega))) ?_); intro h' F' N'; (try dsimp only)))) | (with_reducible ((with_reducible show UnrEnd ..); (refine stop_at ?_))) | (with_reducible ((with_reducible show wpAny _ _ (call (Value.builtin "sorted") _) _ _ _); (refine stop_at ?_))) | (with_reducible ((with_reducible refine execs_tk ?_); intro _; (try dsimp only); (try k_fold))) | (with_reducible ((with_reducible show wpAny _ _ (callWith _ (Value.builtin _) (_ :: _) (backTo _ (starEach (_ :: _) _)) []) _ _ _); k_dflt (refine callWith_method1 ?_))) | walk1 | (dsimp only; walk1) | (leave1; (try dsimp only))))
    refine stop_out ?_
    refine sorted_D (by rfl) (by k_asm) (by k_asm) (by k_mem) hd2 lo1 (by (first | lia | omega)) ?_
    intro D5 h5 tk5 vs5 ks c5 F5 N5 l11 i5 p5 o5
    have keep5 : IntsAre vs5 ks ∧ vs5.length = ks.length := ⟨i5, i5.length⟩
    try k_lt l11
    dsimp only
    have hks : ks.length ≤ 720 := by rw [p5.length_eq, List.length_map]; exact hL
    have hmem : ∀ x, x ∈ ks ↔ x ∈ ns := fun x => by rw [p5.mem_iff, flat_keys hf2, keys_cnt]
    have hnd : ks.Nodup := by
      obtain ⟨_, _, _, _, _, _, hn⟩ := hd2
      exact p5.nodup_iff.mpr hn
    (repeat' (first | (k_unfold; (try dsimp only)) | (k_end; wrow_close) | (with_reducible ((with_reducible show wpAny _ _ (exec _ (envOf (Str.ofString "_law_named") _ _ _ _)) _ _ _); (rename Fr _ _ _ _ => lF'); (with_unfolding_all refine' For_invVF lF' ?_ ?_ ?_; exact rfl; exact rfl; k_whole))) | (with_reducible ((with_reducible show wpAny _ _ (pyIter (Value.ref _)) (fun it s₂ => LoopAtV _ _ _ _ (envOf (Str.ofString "_law_named") _ _ _ _) _ _ _ _ it s₂) _ _); (rename Fr _ _ _ _ => lF'); (rename News _ _ _ _ => lN'); (with_unfolding_all refine iter_listUnr (by rfl) lF' lN' (by k_mem) (by rfl) (by rfl) ?_); clear lF' lN'; intro i' l1; (try k_lt l1))) | (with_reducible ((with_reducible show wpAny _ _ (binaryOp _ (Value.ref _) (Value.int _ _)) _ _ _); (k_dflt (refine mul_one_K (by k_asm) (by k_asm) (by k_mem) (by (first | lia | omega)) (by (first | lia | omega)) ?_); intro D' h' F' N' l1; (try k_lt l1)))) | (with_reducible ((with_reducible show wpAny _ _ (call (Value.builtin "list.extend") _) _ _ _); (k_dflt (refine ext_K (by k_asm) (by k_asm) (by k_mem) (by exact rep_ne (by (first | lia | omega))) (by k_upd) (by (rw [List.length_replicate]; (first | lia | omega))) ?_); intro h' F' N'; (try dsimp only)))) | (with_reducible ((with_reducible show UnrEnd ..); (refine stop_at ?_))) | (with_reducible ((with_reducible show wpAny _ _ (call (Value.builtin "sorted") _) _ _ _); (refine stop_at ?_))) | (with_reducible ((with_reducible refine execs_tk ?_); intro _; (try dsimp only); (try k_fold))) | (with_reducible ((with_reducible show wpAny _ _ (callWith _ (Value.builtin _) (_ :: _) (backTo _ (starEach (_ :: _) _)) []) _ _ _); k_dflt (refine callWith_method1 ?_))) | walk1 | (dsimp only; walk1) | (leave1; (try dsimp only))))
    refine list_ind (TurnN2 D5 D fl ot l _ o2 vs5 c5 vs ns ks k _) ?_ ?_ _ _ _ ⟨[], 0, [], ks, rfl, rfl, rfl, rfl, rfl, .nil, rfl, keep5.1⟩
    · intro m8 news8 h8 tk8 T8 F8 N8
      obtain ⟨fv, fe, done, rs, e8, n1, n2, n3, n4, hfv, e9, hr⟩ := T8
      subst e8
      cases hr
      rw [List.append_nil] at e9
      subst e9
      replace F8 := fr_name2 (fr_name2 F8 n1 n2 (by decide)) (a := "heard") (b := "room") (past (by decide) (past (by decide) n3)) (past (by decide) (past (by decide) n4)) (by decide)
      clear n1 n2 n3 n4
      have hlen := expand_len ns ks ks [] h720 (decide (ns.length ≤ 359)) hks (List.append_nil _).symm
      have hfl := hfv.length
      dsimp only
      (repeat' (first | (k_unfold; (try dsimp only)) | (k_end; wrow_close) | (with_reducible ((with_reducible show wpAny _ _ (exec _ (envOf (Str.ofString "_law_named") _ _ _ _)) _ _ _); (rename Fr _ _ _ _ => lF'); (with_unfolding_all refine' For_invVF lF' ?_ ?_ ?_; exact rfl; exact rfl; k_whole))) | (with_reducible ((with_reducible show wpAny _ _ (pyIter (Value.ref _)) (fun it s₂ => LoopAtV _ _ _ _ (envOf (Str.ofString "_law_named") _ _ _ _) _ _ _ _ it s₂) _ _); (rename Fr _ _ _ _ => lF'); (rename News _ _ _ _ => lN'); (with_unfolding_all refine iter_listUnr (by rfl) lF' lN' (by k_mem) (by rfl) (by rfl) ?_); clear lF' lN'; intro i' l1; (try k_lt l1))) | (with_reducible ((with_reducible show wpAny _ _ (binaryOp _ (Value.ref _) (Value.int _ _)) _ _ _); (k_dflt (refine mul_one_K (by k_asm) (by k_asm) (by k_mem) (by (first | lia | omega)) (by (first | lia | omega)) ?_); intro D' h' F' N' l1; (try k_lt l1)))) | (with_reducible ((with_reducible show wpAny _ _ (call (Value.builtin "list.extend") _) _ _ _); (k_dflt (refine ext_K (by k_asm) (by k_asm) (by k_mem) (by exact rep_ne (by (first | lia | omega))) (by k_upd) (by (rw [List.length_replicate]; (first | lia | omega))) ?_); intro h' F' N'; (try dsimp only)))) | (with_reducible ((with_reducible show UnrEnd ..); (refine stop_at ?_))) | (with_reducible ((with_reducible show wpAny _ _ (call (Value.builtin "sorted") _) _ _ _); (refine stop_at ?_))) | (with_reducible ((with_reducible refine execs_tk ?_); intro _; (try dsimp only); (try k_fold))) | (with_reducible ((with_reducible show wpAny _ _ (callWith _ (Value.builtin _) (_ :: _) (backTo _ (starEach (_ :: _) _)) []) _ _ _); k_dflt (refine callWith_method1 ?_))) | walk1 | (dsimp only; walk1) | (leave1; (try dsimp only))))
      rename IntsAre _ (List.take 359 _) => i9
      refine' ctr_end hret ?post ?G ?F' ?N' ?F ?N ?hs
      (case' post => refine' ⟨_, _, _, rfl, rfl, i9, expand_heard hmem hnd o5⟩)
      (((case G => assumption); (case F' => assumption); (case N' => assumption); (case F => assumption); (case N => assumption); (case hs => lcg_sub)))
    · intro v8 r8 m8 news8 T8 it8 h8 tk8 hc8 F8 N8
      obtain ⟨fv, fe, done, rs, e8, n1, n2, n3, n4, hfv, e9, hr⟩ := T8
      subst e8
      obtain _ | ⟨n9, t9, hr⟩ := hr
      rename_i rs
      replace F8 := fr_name2 (fr_name2 F8 (past (by decide) n1) (past (by decide) n2) (by decide)) (a := "heard") (b := "room") (past (by decide) (past (by decide) (past (by decide) n3))) (past (by decide) (past (by decide) (past (by decide) n4))) (by decide)
      clear n1 n2 n3 n4
      have hhas : kdfHas (cnt ns) n9 = true := has_cnt _ _ ((hmem n9).mp (by rw [e9]; simp))
      have hlen := expand_len ns done ks (n9 :: rs) h720 (decide (ns.length ≤ 359)) hks e9
      have hfl := hfv.length
      have hc1 := look_pos ((hmem n9).mp (by rw [e9]; simp))
      have hc2 := look_le ns n9 h720
      (repeat' (first | (k_unfold; (try dsimp only)) | (k_end; wrow_close) | (with_reducible ((with_reducible show wpAny _ _ (exec _ (envOf (Str.ofString "_law_named") _ _ _ _)) _ _ _); (rename Fr _ _ _ _ => lF'); (with_unfolding_all refine' For_invVF lF' ?_ ?_ ?_; exact rfl; exact rfl; k_whole))) | (with_reducible ((with_reducible show wpAny _ _ (pyIter (Value.ref _)) (fun it s₂ => LoopAtV _ _ _ _ (envOf (Str.ofString "_law_named") _ _ _ _) _ _ _ _ it s₂) _ _); (rename Fr _ _ _ _ => lF'); (rename News _ _ _ _ => lN'); (with_unfolding_all refine iter_listUnr (by rfl) lF' lN' (by k_mem) (by rfl) (by rfl) ?_); clear lF' lN'; intro i' l1; (try k_lt l1))) | (with_reducible ((with_reducible show wpAny _ _ (binaryOp _ (Value.ref _) (Value.int _ _)) _ _ _); (k_dflt (refine mul_one_K (by k_asm) (by k_asm) (by k_mem) (by (first | lia | omega)) (by (first | lia | omega)) ?_); intro D' h' F' N' l1; (try k_lt l1)))) | (with_reducible ((with_reducible show wpAny _ _ (call (Value.builtin "list.extend") _) _ _ _); (k_dflt (refine ext_K (by k_asm) (by k_asm) (by k_mem) (by exact rep_ne (by (first | lia | omega))) (by k_upd) (by (rw [List.length_replicate]; (first | lia | omega))) ?_); intro h' F' N'; (try dsimp only)))) | (with_reducible ((with_reducible show UnrEnd ..); (refine stop_at ?_))) | (with_reducible ((with_reducible show wpAny _ _ (call (Value.builtin "sorted") _) _ _ _); (refine stop_at ?_))) | (with_reducible ((with_reducible refine execs_tk ?_); intro _; (try dsimp only); (try k_fold))) | (with_reducible ((with_reducible show wpAny _ _ (callWith _ (Value.builtin _) (_ :: _) (backTo _ (starEach (_ :: _) _)) []) _ _ _); k_dflt (refine callWith_method1 ?_))) | walk1 | (dsimp only; walk1) | (leave1; (try dsimp only))))
      · have hb : ns.length ≤ 359 := by (first | lia | omega)
        refine stop_out ?_
        refine UnrEnd.intro (by assumption) (by assumption) [(D5, listOf vs5.toArray c5), (D, _), (fl, listOf (fv ++ List.replicate (kdfLook (cnt ns) n9 0).toNat (Value.int n9 t9)).toArray _), (ot, o2), (l, listOf vs.toArray k)] (by lcg_sub) (by k_all) ⟨.head _, _, _, done ++ [n9], rs, rfl, rfl, rfl, rfl, rfl, ?_, by rw [e9]; simp, hr⟩
        rw [expand_snoc, decide_eq_true hb]
        rw [decide_eq_true hb] at hfv
        exact hfv.append (ints_rep _ _ _)
      · have hb : ¬ ns.length ≤ 359 := by (first | lia | omega)
        refine stop_out ?_
        refine UnrEnd.intro (by assumption) (by assumption) [(D5, listOf vs5.toArray c5), (D, _), (fl, listOf (fv ++ List.replicate (Int.toNat 1) (Value.int n9 t9)).toArray _), (ot, o2), (l, listOf vs.toArray k)] (by lcg_sub) (by k_all) ⟨.head _, _, _, done ++ [n9], rs, rfl, rfl, rfl, rfl, rfl, ?_, by rw [e9]; simp, hr⟩
        rw [expand_snoc, decide_eq_false hb]
        rw [decide_eq_false hb] at hfv
        exact hfv.append (ints_rep _ _ _)
  · intro v8 r8 m8 news8 T8 it8 h8 tk8 hc8 F8 N8
    obtain ⟨o2, kvs2, done, rs, e8, n1, n2, n3, n4, hd2, hf2, e9, hr⟩ := T8
    subst e8
    obtain _ | ⟨n9, t9, hr⟩ := hr
    rename_i rs
    replace F8 := fr_name2 (fr_name2 F8 (past (by decide) n1) (past (by decide) n2) (by decide)) (a := "heard") (b := "room") (past (by decide) (past (by decide) (past (by decide) n3))) (past (by decide) (past (by decide) (past (by decide) n4))) (by decide)
    clear n1 n2 n3 n4
    have hb : (cnt done).length ≤ 8388608 := by
      have := cnt_len done
      have := congrArg List.length e9
      rw [List.length_append] at this
      (first | lia | omega)
    (repeat' (first | (k_unfold; (try dsimp only)) | (k_end; wrow_close) | (with_reducible ((with_reducible show wpAny _ _ (exec _ (envOf (Str.ofString "_law_named") _ _ _ _)) _ _ _); (rename Fr _ _ _ _ => lF'); (with_unfolding_all refine' For_invVF lF' ?_ ?_ ?_; exact rfl; exact rfl; k_whole))) | (with_reducible ((with_reducible show wpAny _ _ (pyIter (Value.ref _)) (fun it s₂ => LoopAtV _ _ _ _ (envOf (Str.ofString "_law_named") _ _ _ _) _ _ _ _ it s₂) _ _); (rename Fr _ _ _ _ => lF'); (rename News _ _ _ _ => lN'); (with_unfolding_all refine iter_listUnr (by rfl) lF' lN' (by k_mem) (by rfl) (by rfl) ?_); clear lF' lN'; intro i' l1; (try k_lt l1))) | (with_reducible ((with_reducible show wpAny _ _ (binaryOp _ (Value.ref _) (Value.int _ _)) _ _ _); (k_dflt (refine mul_one_K (by k_asm) (by k_asm) (by k_mem) (by (first | lia | omega)) (by (first | lia | omega)) ?_); intro D' h' F' N' l1; (try k_lt l1)))) | (with_reducible ((with_reducible show wpAny _ _ (call (Value.builtin "list.extend") _) _ _ _); (k_dflt (refine ext_K (by k_asm) (by k_asm) (by k_mem) (by exact rep_ne (by (first | lia | omega))) (by k_upd) (by (rw [List.length_replicate]; (first | lia | omega))) ?_); intro h' F' N'; (try dsimp only)))) | (with_reducible ((with_reducible show UnrEnd ..); (refine stop_at ?_))) | (with_reducible ((with_reducible show wpAny _ _ (call (Value.builtin "sorted") _) _ _ _); (refine stop_at ?_))) | (with_reducible ((with_reducible refine execs_tk ?_); intro _; (try dsimp only); (try k_fold))) | (with_reducible ((with_reducible show wpAny _ _ (callWith _ (Value.builtin _) (_ :: _) (backTo _ (starEach (_ :: _) _)) []) _ _ _); k_dflt (refine callWith_method1 ?_))) | walk1 | (dsimp only; walk1) | (leave1; (try dsimp only))))
    refine stop_out ?_
    refine UnrEnd.intro (by assumption) (by assumption) [(D, _), (fl, listOf #[] 0), (ot, _), (l, listOf vs.toArray k)] (by lcg_sub) (by k_all) ⟨.tail _ (.tail _ (.tail _ (.head _))), _, _, done ++ [n9], rs, rfl, rfl, rfl, rfl, rfl, by assumption, by rw [cnt_snoc]; assumption, by rw [e9]; simp, hr⟩
end
theorem allObj_mono : ∀ {ws : List (Addr × String)} {k k' : List (Addr × Obj) → Prop}, (∀ its, k its → k' its) → AllObj ws k → AllObj ws k'
  | [], _, _, h, x => h _ x
  | _ :: _, _, _, h, x => fun o ho => allObj_mono (fun its y => h _ y) (x o ho)
section
variable {prog : Program} {w : World} {A : Around} {E : Value → Shared → Prop} {s : Shared} {env : Env} {h₀ : Heap} {target : PySem.Expr} {body : List Stmt} {Q : Flow → Shared → Prop} {ws : List (Addr × String)} {keep : List (Addr × Obj)}
theorem items_ind {X : Type} (f : X → Itm) (Inv : List X → (PySem.Str → Option Value) → Led → Prop)
    (zero : ∀ m news h tk, Inv [] m news → Fr h₀ env.locals h m → News h₀ env.locals h news → Q .next { s with heap := h, toks := tk })
    (succ : ∀ a r m news, Inv (a :: r) m news → ∀ v h tk, (f a).Is v h → Fr h₀ env.locals h m → AllObj ws (fun its => News h₀ env.locals h (its ++ news) →
      wpAny (model prog w) A (assign target env v) (fun _ s₂ => wpAny (model prog w) A (execs body env) (UnrPostW h₀ env.locals { s with heap := h, toks := tk } its (fun m' n' => SubL keep n' ∧ Inv r m' n') Q) E s₂) E { s with heap := h, toks := tk })) :
    ∀ vs m news, Inv vs m news → ItemsRest prog w A E h₀ env target body Q s ws keep (vs.map f) m news
  | [], m, news, hi => fun h tk F N => zero m news h tk hi F N
  | a :: r, m, news, hi => fun v h tk e F => allObj_mono (fun its k N => wpAny_mono (k N) (fun _ s₂ hp => wpAny_mono hp (fun fl s' hq => by
      have ih := items_ind f Inv zero succ r
      have go : UnrEndW h₀ env.locals { s with heap := h, toks := tk } its (fun m' n' => SubL keep n' ∧ Inv r m' n') s' →
          UnrEndW h₀ env.locals { s with heap := h, toks := tk } its (fun m' n' => SubL keep n' ∧ ItemsRest prog w A E h₀ env target body Q s ws keep (r.map f) m' n') s' := by
        rintro ⟨h', tk', m', news', e', F', N', off, hl, hi'⟩
        exact ⟨h', tk', m', news', e', F', N', off, hl, ih m' news' hi'⟩
      cases fl with
      | ret v => exact hq
      | brk => exact hq
      | next => exact go hq
      | cont => exact go hq) fun _ _ z => z) fun _ _ z => z) (succ a r m news hi v h tk e F)
end
theorem off_L5 : True := by w_top off; trivial
/-- what the law's walk is to show, by letters -/
def LawW (w : World) (sc : Scope) (body : List Stmt) : Prop :=
  ∀ (h₀ base : Heap) (L fa l : Addr) (cd : Value) (dp un : Nat) (gd : Option (List Code)) (outer : List Env) (A₀ : Around) (c1 c2 c3 c4 c5 c6 c7 : Addr) (o1 o2 o3 o4 o5 o6 o7 : Obj) (m : PySem.Str → Option Value) (mean : ExcName → Option Value) (mg mb : PySem.Str → Option Value) (vs : List Value) (ns : List Int) (s : Shared) (Q : Flow → Shared → Prop),
    Below A₀ base outer h₀ → Fr h₀ L s.heap m → (hd.heap_39 w.params).In h₀ → News h₀ L s.heap [(c1, o1), (c2, o2), (c3, o3), (c4, o4), (c5, o5), (c6, o6), (c7, o7)] → Top hd.view_39 LL mean mg mb h₀ → m "script" = some (.ref l) → h₀.IsList l vs.toArray → IntsAre vs ns → ns.length ≤ 63 → dp + 20 < recursionLimit → un + 8 * 20 < cLine →
    ((@LT.lt Nat _ c2 c1) ∧ (@LT.lt Nat _ c3 c2) ∧ (@LT.lt Nat _ c4 c3) ∧ (@LT.lt Nat _ c5 c4) ∧ (@LT.lt Nat _ c6 c5) ∧ (@LT.lt Nat _ c7 c6)) →
    (o1.data = .cell none ∧ o2.data = .cell none ∧ o3.data = .cell none ∧ o4.data = .cell none ∧ o5.data = .cell none ∧ o6.data = .cell none ∧ o7.data = .cell none) →
    (∀ h' tk', (∀ b o, h₀.get? b = some o → h'.get? b = some o) → Q (.ret (.bool true)) { s with heap := h', toks := tk' }) →
    wpAny (model PR w) (ktrTop dp un gd (Str.ofString "law") sc L fa cd [(Str.ofString "is_heard", c1), (Str.ofString "ids", c2), (Str.ofString "gone", c3), (Str.ofString "shift", c4), (Str.ofString "mult", c5), (Str.ofString "wide", c6), (Str.ofString "address", c7)] outer) (execs body (envX (Str.ofString "law") sc L fa cd [(Str.ofString "is_heard", c1), (Str.ofString "ids", c2), (Str.ofString "gone", c3), (Str.ofString "shift", c4), (Str.ofString "mult", c5), (Str.ofString "wide", c6), (Str.ofString "address", c7)])) Q (fun _ _ => False) s
/-- the law's frame, by letters -/
theorem law_abs {w : World} {h₀ base : Heap} {L fa l : Addr} {cd : Value} {sc : Scope} {body : List Stmt} {Q : Flow → Shared → Prop} {E : Value → Shared → Prop} {s : Shared} {o1 o2 o3 o4 o5 o6 o7 : Obj} {m : PySem.Str → Option Value} {mean : ExcName → Option Value} {mg mb : PySem.Str → Option Value} {vs : List Value} {ns : List Int}
    (hcl : cellsFrom (L + 1) sc.names [] = [(Str.ofString "is_heard", L + 1 + 1 + 1 + 1 + 1 + 1 + 1), (Str.ofString "ids", L + 1 + 1 + 1 + 1 + 1 + 1), (Str.ofString "gone", L + 1 + 1 + 1 + 1 + 1), (Str.ofString "shift", L + 1 + 1 + 1 + 1), (Str.ofString "mult", L + 1 + 1 + 1), (Str.ofString "wide", L + 1 + 1), (Str.ofString "address", L + 1)])
    (B : Below callerA base [] h₀) (F : Fr h₀ L s.heap m) (X : (hd.heap_39 w.params).In h₀) (N : News h₀ L s.heap [(L + 1 + 1 + 1 + 1 + 1 + 1 + 1, o1), (L + 1 + 1 + 1 + 1 + 1 + 1, o2), (L + 1 + 1 + 1 + 1 + 1, o3), (L + 1 + 1 + 1 + 1, o4), (L + 1 + 1 + 1, o5), (L + 1 + 1, o6), (L + 1, o7)]) (T : Top hd.view_39 LL mean mg mb h₀) (hm : m "script" = some (.ref l)) (hl : h₀.IsList l vs.toArray) (hI : IntsAre vs ns) (hlen : ns.length ≤ 63)
    (hq : o1.data = .cell none ∧ o2.data = .cell none ∧ o3.data = .cell none ∧ o4.data = .cell none ∧ o5.data = .cell none ∧ o6.data = .cell none ∧ o7.data = .cell none)
    (ret : ∀ h' tk', (∀ b o, h₀.get? b = some o → h'.get? b = some o) → Q (.ret (.bool true)) { s with heap := h', toks := tk' }) (h : LawW w sc body) :
    wpAny (model PR w) (callerA.deeper (envOfC (Str.ofString "law") sc L fa cd)) (execs body (envOfC (Str.ofString "law") sc L fa cd)) Q E s := by
  have e : envOfC (Str.ofString "law") sc L fa cd = envX (Str.ofString "law") sc L fa cd [(Str.ofString "is_heard", L + 1 + 1 + 1 + 1 + 1 + 1 + 1), (Str.ofString "ids", L + 1 + 1 + 1 + 1 + 1 + 1), (Str.ofString "gone", L + 1 + 1 + 1 + 1 + 1), (Str.ofString "shift", L + 1 + 1 + 1 + 1), (Str.ofString "mult", L + 1 + 1 + 1), (Str.ofString "wide", L + 1 + 1), (Str.ofString "address", L + 1)] := by
    unfold envOfC; rw [hcl]
  rw [e]
  refine wpAny_mono (h h₀ base L fa l cd _ _ _ [] callerA _ _ _ _ _ _ _ o1 o2 o3 o4 o5 o6 o7 m mean mg mb vs ns s Q B F X N T hm hl hI hlen (by simp only [depth_caller]; decide) (by have hcL9 := cLine_is; simp only [units_caller]; omega) ⟨Nat.lt_succ_self _, Nat.lt_succ_self _, Nat.lt_succ_self _, Nat.lt_succ_self _, Nat.lt_succ_self _, Nat.lt_succ_self _⟩ hq ret) (fun _ _ z => z) fun _ _ z => z.elim
/-- the law's own rows -/
noncomputable def lawDef : List Stmt := match PySem.Challenge.pw_rh0206_01.main.body.getLast? with | some (.FunctionDef (body := b) ..) => b | _ => []
noncomputable def lawSc : Scope := match PySem.Challenge.pw_rh0206_01.main.body.getLast? with | some (.FunctionDef (scope := b) ..) => b | _ => default
noncomputable def lawRow (n : Nat) : Stmt := lawDef.getD n (.Pass ⟨0,0,0,0⟩)
noncomputable def lawTurn (n : Nat) : Stmt := match lawRow 2 with | .For (body := b) .. => b.getD n (.Pass ⟨0,0,0,0⟩) | _ => .Pass ⟨0,0,0,0⟩
/-- the law's cells by name -/
noncomputable abbrev CN (c1 c2 c3 c4 c5 c6 c7 : Addr) : List (PySem.Str × Addr) := [(Str.ofString "is_heard", c1), (Str.ofString "ids", c2), (Str.ofString "gone", c3), (Str.ofString "shift", c4), (Str.ofString "mult", c5), (Str.ofString "wide", c6), (Str.ofString "address", c7)]
/-- some rows of the law: from Pre to Post -/
@[irreducible] def LawSeg (w : World) (c1 c2 c3 c4 c5 c6 c7 : Addr) (rows : List Stmt) (Pre Post : (PySem.Str → Option Value) → Led → Prop) : Prop :=
  ∀ (h₀ base : Heap) (L fa : Addr) (cd : Value) (dp un : Nat) (gd : Option (List Code)) (outer : List Env) (A₀ : Around) (m : PySem.Str → Option Value) (mean : ExcName → Option Value) (mg mb : PySem.Str → Option Value) (s : Shared) (news : Led),
    Below A₀ base outer h₀ → Fr h₀ L s.heap m → (hd.heap_39 w.params).In h₀ → News h₀ L s.heap news → Top hd.view_39 LL mean mg mb h₀ → dp + 20 < recursionLimit → un + 8 * 20 < cLine →
    ((@LT.lt Nat _ c2 c1) ∧ (@LT.lt Nat _ c3 c2) ∧ (@LT.lt Nat _ c4 c3) ∧ (@LT.lt Nat _ c5 c4) ∧ (@LT.lt Nat _ c6 c5) ∧ (@LT.lt Nat _ c7 c6)) → Pre m news →
    wpAny (model PR w) (ktrTop dp un gd (Str.ofString "law") lawSc L fa cd (CN c1 c2 c3 c4 c5 c6 c7) outer) (execs rows (envX (Str.ofString "law") lawSc L fa cd (CN c1 c2 c3 c4 c5 c6 c7))) (CutEnd h₀ L s Post) (fun _ _ => False) s
/-- the law's cells -/
noncomputable abbrev CLs (c1 c2 c3 c4 c5 c6 c7 : Addr) (o1 o2 o3 o4 o5 o6 o7 : Obj) : Led := [(c1, o1), (c2, o2), (c3, o3), (c4, o4), (c5, o5), (c6, o6), (c7, o7)]
/-- an address that is none of the cells' -/
def NoC (a c1 c2 c3 c4 c5 c6 c7 : Addr) : Prop := NeA a c1 ∧ NeA a c2 ∧ NeA a c3 ∧ NeA a c4 ∧ NeA a c5 ∧ NeA a c6 ∧ NeA a c7
/-- the ids at an address -/
noncomputable def atOf (xs : List (Int × Int)) (a : Int) : List Int := (xs.filter fun x => decide (x.2 = a)).map (·.1)
theorem atOf_snoc {xs : List (Int × Int)} {i : Nat} {r b : Int} (a : Int) (h : xs[i]? = some (r, b)) : atOf (xs.take (i + 1)) a = if b = a then atOf (xs.take i) a ++ [r] else atOf (xs.take i) a := by
  unfold atOf
  rw [List.take_add_one, h, Option.toList_some, List.filter_append, List.map_append]
  by_cases e : b = a
  · simp [e]
  · simp [e]
theorem atOf_len (xs : List (Int × Int)) (a : Int) : (atOf xs a).length ≤ xs.length := by
  unfold atOf; rw [List.length_map]; exact List.length_filter_le _ _
theorem nbs_get {w : World} {tl : Led} : ∀ {ws : List Value} {xs : List (Int × Int)} {i : Nat} {v : Value}, NbsAt w tl ws xs → ws[i]? = some v → ∃ r a, xs[i]? = some (r, a) ∧ NbAt w tl v r a
  | _, _, _, _, .nil, h => by simp at h
  | _, _, 0, _, .cons h _, e => by simp at e; subst e; exact ⟨_, _, rfl, h⟩
  | _, _, i + 1, _, .cons _ t, e => by
    obtain ⟨r, a, e2, q⟩ := nbs_get t (by simpa using e)
    exact ⟨r, a, by simpa using e2, q⟩
/-- a segment ahead of other rows -/
theorem seg_cut {w : World} {c1 c2 c3 c4 c5 c6 c7 : Addr} {rows rest : List Stmt} {Pre Post : (PySem.Str → Option Value) → Led → Prop} {h₀ base : Heap} {L fa : Addr} {cd : Value} {dp un : Nat} {gd : Option (List Code)} {outer : List Env} {A₀ : Around} {m : PySem.Str → Option Value} {mean : ExcName → Option Value} {mg mb : PySem.Str → Option Value} {s : Shared} {all : Led} {Q : Flow → Shared → Prop}
    (S : LawSeg w c1 c2 c3 c4 c5 c6 c7 rows Pre Post) (B : Below A₀ base outer h₀) (F : Fr h₀ L s.heap m) (X : (hd.heap_39 w.params).In h₀) (N : News h₀ L s.heap all) (T : Top hd.view_39 LL mean mg mb h₀) (hdp : dp + 20 < recursionLimit) (hun : un + 8 * 20 < cLine)
    (lts : (@LT.lt Nat _ c2 c1) ∧ (@LT.lt Nat _ c3 c2) ∧ (@LT.lt Nat _ c4 c3) ∧ (@LT.lt Nat _ c5 c4) ∧ (@LT.lt Nat _ c6 c5) ∧ (@LT.lt Nat _ c7 c6)) (news : Led) (pre : Pre m news) (sub : ∀ p ∈ news, p ∈ all)
    (h2 : ∀ h' tk' m' news', Fr h₀ L h' m' → News h₀ L h' news' → Post m' news' → wpAny (model PR w) (ktrTop dp un gd (Str.ofString "law") lawSc L fa cd (CN c1 c2 c3 c4 c5 c6 c7) outer) (execs rest (envX (Str.ofString "law") lawSc L fa cd (CN c1 c2 c3 c4 c5 c6 c7))) Q (fun _ _ => False) { s with heap := h', toks := tk' }) :
    wpAny (model PR w) (ktrTop dp un gd (Str.ofString "law") lawSc L fa cd (CN c1 c2 c3 c4 c5 c6 c7) outer) (execs (rows ++ rest) (envX (Str.ofString "law") lawSc L fa cd (CN c1 c2 c3 c4 c5 c6 c7))) Q (fun _ _ => False) s := by
  unfold LawSeg at S
  have h1 := S h₀ base L fa cd dp un gd outer A₀ m mean mg mb s news B F X (fun p hp => N p (sub p hp)) T hdp hun lts pre
  intro Γ p hΓ
  refine wp_execs_append _ (Sem.wp_mono _ Γ _ (fun f p' s' h' => ?_) (fun _ _ _ x => x) p s (h1 Γ p hΓ))
  obtain ⟨h', tk, m', news', rfl, rfl, F', N', hp⟩ := h'
  exact h2 h' tk m' news' F' N' hp Γ p' hΓ
section
variable {M : Model} {A : Around} {E : Value → Shared → Prop} {s : Shared}
/-- a bool as a list's subscript -/
theorem sub_bool {b : Bool} {Q : Option Int → Shared → Prop} (h : Q (some (if b then 1 else 0)) s) : wpAny M A (Builtin.List.listSubscript? (.bool b)) Q E s := by
  unfold Builtin.List.listSubscript?
  refine wpAny_bind (wpAny_specialOf (T := "bool") (PySem.typeIs_bool s b) F.slot_bool_index.lookup ?_)
  show wpAny M A (asIndex (.bool b) >>= _) Q E s
  refine wpAny_bind (wpAny_of_eq (a := if b then 1 else 0) (by cases b <;> rfl) ?_)
  cases b
  · show wpAny M A (if (!Builtin.List.listFitsIndex 0) = true then _ else _) Q E s
    rw [if_neg (by decide)]
    exact wpAny_pure h
  · show wpAny M A (if (!Builtin.List.listFitsIndex 1) = true then _ else _) Q E s
    rw [if_neg (by decide)]
    exact wpAny_pure h
end
section
variable {prog : Program} {w : World} {A : Around} {E : Value → Shared → Prop} {s : Shared}
theorem item_bool {l : Addr} {items : Array Value} {b : Bool} {x : Value} {Q : Value → Shared → Prop} (hl : s.heap.IsList l items) (hx : items[if b then 1 else 0]? = some x) (h : Q x s) :
    wpAny (model prog w) A (getItem (.ref l) (.bool b)) Q E s := by
  obtain ⟨o, ho, hc, ne, hd⟩ := id hl
  unfold getItem
  with_reducible refine wpAny_holding ?_
  refine wpAny_bind (wpAny_sequenceKey hl.typeIs (by decide) ?_)
  refine wpAny_bind (wpAny_callSpecial?_slot (name := Str.ofString "__getitem__") hl.typeIs slot_list_getitem
    (wpAny_call_entry slot_list_getitem hl.typeIs entry_list_getitem ?_ (args_list_getitem _ _)))
  show wpAny _ _ (Builtin.List.listSubscript? (.bool b) >>= _) _ _ s
  refine wpAny_bind (sub_bool ?_)
  cases b
  · show wpAny _ _ ((seqItemAt l 0 >>= fun r => pure (r.map (0, ·))) >>= _) _ _ s
    refine wpAny_bind (wpAny_bind (wpAny_seqItemAt ho hd (wpAny_pure ?_)))
    rw [show items[0]? = some x from hx]
    first
      | exact wpAny_bind (wpAny_pure (wpAny_pure ⟨x, rfl, wpAny_pure h⟩))
      | exact wpAny_pure ⟨x, rfl, wpAny_pure h⟩
  · show wpAny _ _ ((seqItemAt l 1 >>= fun r => pure (r.map (1, ·))) >>= _) _ _ s
    refine wpAny_bind (wpAny_bind (wpAny_seqItemAt ho hd (wpAny_pure ?_)))
    rw [show items[1]? = some x from hx]
    first
      | exact wpAny_bind (wpAny_pure (wpAny_pure ⟨x, rfl, wpAny_pure h⟩))
      | exact wpAny_pure ⟨x, rfl, wpAny_pure h⟩
theorem menu_bool {value slice : PySem.Expr} {l : Addr} {x y : Value} {b : Bool} {Q : Value → Shared → Prop} (hl : s.heap.IsList l [x, y].toArray) (h : Q (if b then y else x) s)
    (hs : subscripted slice false (.ref l) (.bool b) = operate [.ref l, .bool b] (getItem (.ref l) (.bool b)) := by with_unfolding_all rfl) :
    wpAny (model prog w) A (subscriptTail value slice (.ref l) (.bool b)) Q E s :=
  tail_any hl.typeIs slot_list_getitem.lookup (item_bool hl (by cases b <;> rfl) h) hs
end
section
theorem off_N1 : True := by w_top off; trivial
local macro_rules | `(tactic| walk_at "none 0") => `(tactic| fail)
set_option maxHeartbeats 4000000 in
theorem turn0 {w : World} {c1 c2 c3 c4 c5 c6 c7 d nb pool cells : Addr} {o po co o1 o2 o3 o4 o5 o6 o7 : Obj} {kd st : PySem.Str} {own dr bdr dra bdra a : Int} {ha wu de op : Value} {t1 t2 t3 t4 t5 t6 t7 t8 t9 t10 t11 t12 t13 t14 t15 t16 ta : Tok} {ws : List Value} {xs : List (Int × Int)} {k : Nat} {tl : Led}
    (hd9 : o.IsDictOf (PySem.strKind PR w) (ifKvs kd st own dr bdr dra bdra nb ha wu de op t1 t2 t3 t4 t5 t6 t7 t8 t9 t10 t11 t12 t13 t14 t15 t16)) (hws : NbsAt w tl ws xs) (hl4 : ws.length ≤ 4)
    (q7 : o7.data = .cell (some (.int a ta))) :
    LawSeg w c1 c2 c3 c4 c5 c6 c7 [lawTurn 0]
      (fun m news => news = (d, o) :: (nb, listOf ws.toArray k) :: (pool, po) :: (cells, co) :: (c1, o1) :: (c2, o2) :: (c3, o3) :: (c4, o4) :: (c5, o5) :: (c6, o6) :: (c7, o7) :: tl ∧ m "iface" = some (.ref d) ∧ m "pool" = some (.ref pool))
      (fun m news => ∃ S vS kS, news = (S, listOf vS kS) :: (d, o) :: (nb, listOf ws.toArray k) :: (pool, po) :: (cells, co) :: (c1, o1) :: (c2, o2) :: (c3, o3) :: (c4, o4) :: (c5, o5) :: (c6, o6) :: (c7, o7) :: tl ∧ m "iface" = some (.ref d) ∧ m "pool" = some (.ref pool) ∧ m "some" = some (.ref S) ∧ IntsAre vS.toList (atOf xs a ++ [0])) := by
  unfold LawSeg
  conv in (occs := *) lawSc => all_goals whnf
  conv in lawTurn _ => whnf
  intro h₀ base L fa cd dp un gd outer A₀ m mean mg mb s news B F X N T hdp hun lts pre
  obtain ⟨e9, m1, m2⟩ := pre
  subst e9
  replace F := fr_name2 F m1 m2 (by decide)
  clear m1 m2
  have hxs8 : (ws.length = xs.length) := hws.length
  (try k_fold)
  (repeat' (first | (k_unfold; (try dsimp only)) | (k_end; wrow_close) | (with_reducible ((with_reducible show wpAny _ _ (eval (PySem.Expr.ListComp ..) _) _ _ _); (refine stop_at ?_))) | (with_reducible ((with_reducible show LCt.CompSrcT ..); (k_dflt (first | refine LCt.CompSrcT.ledger (by rfl) (by k_asm) (by k_asm) (by k_mem) (by rw [List.size_toArray, sizeLine_eq]; omega) ?_); intro g'))) | (with_reducible ((with_reducible show LCt.CompRestT ..); (refine stop_at ?_))) | (with_reducible ((with_reducible show wpAny _ _ (subscriptTail _ _ (Value.ref _) (Value.str _ _)) _ _ _); k_dflt (refine kda_item (knd := PySem.strKind _ _) (by k_asm) (by k_mem) (by k_asm) (strKind_is _ _ _ _) (by (first | with_reducible exact va_router | with_reducible exact va_state | with_reducible exact va_dr | with_reducible exact va_bdr | with_reducible exact va_dr_address | with_reducible exact va_bdr_address | with_reducible exact va_neighbours | with_reducible exact va_hello_at | with_reducible exact va_wait_until | with_reducible exact va_kind | with_reducible exact va_address | with_reducible exact va_priority | with_reducible exact va_hello | with_reducible exact va_dead | with_reducible exact va_options | with_reducible exact va_delay | with_reducible exact va_number | with_reducible exact va_area | with_reducible exact va_stub | with_reducible exact va_length | with_reducible exact va_cost | with_reducible exact va_resend | (repeat (first | exact valueAt_hit | refine (valueAt_miss (by decide)).trans ?_)))) ?_ (hs := by rfl)))) | (with_reducible ((with_reducible show wpAny _ _ (binaryOp _ (Value.ref _) (Value.ref _)) _ _ _); (refine stop_at ?_))) | (with_reducible ((with_reducible refine execs_tk ?_); intro _; (try dsimp only); (try k_fold))) | (with_reducible ((with_reducible show wpAny _ _ (eval (PySem.Expr.Subscript (PySem.Expr.Name _ _) (PySem.Expr.Constant (Const.str _) _ _) _) (envOf _ _ _ _ _)) _ _ _); k_dflt (refine sub_key (by k_asm) (by exact rfl) (by k_asm) (by k_mem) (by k_asm) (by (first | with_reducible exact va_router | with_reducible exact va_state | with_reducible exact va_dr | with_reducible exact va_bdr | with_reducible exact va_dr_address | with_reducible exact va_bdr_address | with_reducible exact va_neighbours | with_reducible exact va_hello_at | with_reducible exact va_wait_until | with_reducible exact va_kind | with_reducible exact va_address | with_reducible exact va_priority | with_reducible exact va_hello | with_reducible exact va_dead | with_reducible exact va_options | with_reducible exact va_delay | with_reducible exact va_number | with_reducible exact va_area | with_reducible exact va_stub | with_reducible exact va_length | with_reducible exact va_cost | with_reducible exact va_resend | (repeat (first | exact valueAt_hit | refine (valueAt_miss (by decide)).trans ?_)))) ?_))) | walk1 | (dsimp only; walk1) | (leave1; (try dsimp only))))
  refine stop_out ?_
  k_dflt (refine LCt.ListComp_T (cl := [(Str.ofString "address", c7)]) (F₀ := by k_asm) (by kernel_rfl) (by decide) (by rfl) (by decide) (by rfl) ?_)
  (try dsimp only)
  (repeat' (first | (k_unfold; (try dsimp only)) | (k_end; wrow_close) | (with_reducible ((with_reducible show wpAny _ _ (eval (PySem.Expr.ListComp ..) _) _ _ _); (refine stop_at ?_))) | (with_reducible ((with_reducible show LCt.CompSrcT ..); (k_dflt (first | refine LCt.CompSrcT.ledger (by rfl) (by k_asm) (by k_asm) (by k_mem) (by rw [List.size_toArray, sizeLine_eq]; omega) ?_); intro g'))) | (with_reducible ((with_reducible show LCt.CompRestT ..); (refine stop_at ?_))) | (with_reducible ((with_reducible show wpAny _ _ (subscriptTail _ _ (Value.ref _) (Value.str _ _)) _ _ _); k_dflt (refine kda_item (knd := PySem.strKind _ _) (by k_asm) (by k_mem) (by k_asm) (strKind_is _ _ _ _) (by (first | with_reducible exact va_router | with_reducible exact va_state | with_reducible exact va_dr | with_reducible exact va_bdr | with_reducible exact va_dr_address | with_reducible exact va_bdr_address | with_reducible exact va_neighbours | with_reducible exact va_hello_at | with_reducible exact va_wait_until | with_reducible exact va_kind | with_reducible exact va_address | with_reducible exact va_priority | with_reducible exact va_hello | with_reducible exact va_dead | with_reducible exact va_options | with_reducible exact va_delay | with_reducible exact va_number | with_reducible exact va_area | with_reducible exact va_stub | with_reducible exact va_length | with_reducible exact va_cost | with_reducible exact va_resend | (repeat (first | exact valueAt_hit | refine (valueAt_miss (by decide)).trans ?_)))) ?_ (hs := by rfl)))) | (with_reducible ((with_reducible show wpAny _ _ (binaryOp _ (Value.ref _) (Value.ref _)) _ _ _); (refine stop_at ?_))) | (with_reducible ((with_reducible refine execs_tk ?_); intro _; (try dsimp only); (try k_fold))) | (with_reducible ((with_reducible show wpAny _ _ (eval (PySem.Expr.Subscript (PySem.Expr.Name _ _) (PySem.Expr.Constant (Const.str _) _ _) _) (envOf _ _ _ _ _)) _ _ _); k_dflt (refine sub_key (by k_asm) (by exact rfl) (by k_asm) (by k_mem) (by k_asm) (by (first | with_reducible exact va_router | with_reducible exact va_state | with_reducible exact va_dr | with_reducible exact va_bdr | with_reducible exact va_dr_address | with_reducible exact va_bdr_address | with_reducible exact va_neighbours | with_reducible exact va_hello_at | with_reducible exact va_wait_until | with_reducible exact va_kind | with_reducible exact va_address | with_reducible exact va_priority | with_reducible exact va_hello | with_reducible exact va_dead | with_reducible exact va_options | with_reducible exact va_delay | with_reducible exact va_number | with_reducible exact va_area | with_reducible exact va_stub | with_reducible exact va_length | with_reducible exact va_cost | with_reducible exact va_resend | (repeat (first | exact valueAt_hit | refine (valueAt_miss (by decide)).trans ?_)))) ?_))) | walk1 | (dsimp only; walk1) | (leave1; (try dsimp only))))
  refine stop_out ?_
  refine compT_ind (fun i ys news => news = (d, o) :: (nb, listOf ws.toArray k) :: (pool, _) :: (cells, _) :: (c1, o1) :: (c2, o2) :: (c3, o3) :: (c4, o4) :: (c5, o5) :: (c6, o6) :: (c7, _) :: tl ∧ IntsAre ys (atOf (xs.take i) a)) ?_ ?_ _ _ _ _ (Nat.zero_add _) ⟨rfl, .nil⟩
  · intro ys5 news5 h5
    obtain ⟨e5, i5⟩ := h5
    subst e5
    rw [List.size_toArray, hxs8, List.take_length] at i5
    have l3 := i5.length
    have l4 := atOf_len xs a
    (repeat' (first | (k_unfold; (try dsimp only)) | (k_end; wrow_close) | (with_reducible ((with_reducible show wpAny _ _ (eval (PySem.Expr.ListComp ..) _) _ _ _); (refine stop_at ?_))) | (with_reducible ((with_reducible show LCt.CompSrcT ..); (k_dflt (first | refine LCt.CompSrcT.ledger (by rfl) (by k_asm) (by k_asm) (by k_mem) (by rw [List.size_toArray, sizeLine_eq]; omega) ?_); intro g'))) | (with_reducible ((with_reducible show LCt.CompRestT ..); (refine stop_at ?_))) | (with_reducible ((with_reducible show wpAny _ _ (subscriptTail _ _ (Value.ref _) (Value.str _ _)) _ _ _); k_dflt (refine kda_item (knd := PySem.strKind _ _) (by k_asm) (by k_mem) (by k_asm) (strKind_is _ _ _ _) (by (first | with_reducible exact va_router | with_reducible exact va_state | with_reducible exact va_dr | with_reducible exact va_bdr | with_reducible exact va_dr_address | with_reducible exact va_bdr_address | with_reducible exact va_neighbours | with_reducible exact va_hello_at | with_reducible exact va_wait_until | with_reducible exact va_kind | with_reducible exact va_address | with_reducible exact va_priority | with_reducible exact va_hello | with_reducible exact va_dead | with_reducible exact va_options | with_reducible exact va_delay | with_reducible exact va_number | with_reducible exact va_area | with_reducible exact va_stub | with_reducible exact va_length | with_reducible exact va_cost | with_reducible exact va_resend | (repeat (first | exact valueAt_hit | refine (valueAt_miss (by decide)).trans ?_)))) ?_ (hs := by rfl)))) | (with_reducible ((with_reducible show wpAny _ _ (binaryOp _ (Value.ref _) (Value.ref _)) _ _ _); (refine stop_at ?_))) | (with_reducible ((with_reducible refine execs_tk ?_); intro _; (try dsimp only); (try k_fold))) | (with_reducible ((with_reducible show wpAny _ _ (eval (PySem.Expr.Subscript (PySem.Expr.Name _ _) (PySem.Expr.Constant (Const.str _) _ _) _) (envOf _ _ _ _ _)) _ _ _); k_dflt (refine sub_key (by k_asm) (by exact rfl) (by k_asm) (by k_mem) (by k_asm) (by (first | with_reducible exact va_router | with_reducible exact va_state | with_reducible exact va_dr | with_reducible exact va_bdr | with_reducible exact va_dr_address | with_reducible exact va_bdr_address | with_reducible exact va_neighbours | with_reducible exact va_hello_at | with_reducible exact va_wait_until | with_reducible exact va_kind | with_reducible exact va_address | with_reducible exact va_priority | with_reducible exact va_hello | with_reducible exact va_dead | with_reducible exact va_options | with_reducible exact va_delay | with_reducible exact va_number | with_reducible exact va_area | with_reducible exact va_stub | with_reducible exact va_length | with_reducible exact va_cost | with_reducible exact va_resend | (repeat (first | exact valueAt_hit | refine (valueAt_miss (by decide)).trans ?_)))) ?_))) | walk1 | (dsimp only; walk1) | (leave1; (try dsimp only))))
    refine stop_out ?_
    rename News _ _ _ _ => N4
    refine kmk_add_ints (by k_asm) N4 ⟨_, (N4 _ (.tail _ (.head _))).1, rfl, _, rfl⟩ ⟨_, (N4 _ (.head _)).1, rfl, _, rfl⟩ i5 (.cons _ _ .nil) ?_ (by rw [sizeLine_eq, List.length_singleton]; omega)
    intro D3 us3 h3 F3 N3 l3 i3
    (try k_lt l3)
    (try dsimp only)
    (repeat' (first | (k_unfold; (try dsimp only)) | (k_end; wrow_close) | (with_reducible ((with_reducible show wpAny _ _ (eval (PySem.Expr.ListComp ..) _) _ _ _); (refine stop_at ?_))) | (with_reducible ((with_reducible show LCt.CompSrcT ..); (k_dflt (first | refine LCt.CompSrcT.ledger (by rfl) (by k_asm) (by k_asm) (by k_mem) (by rw [List.size_toArray, sizeLine_eq]; omega) ?_); intro g'))) | (with_reducible ((with_reducible show LCt.CompRestT ..); (refine stop_at ?_))) | (with_reducible ((with_reducible show wpAny _ _ (subscriptTail _ _ (Value.ref _) (Value.str _ _)) _ _ _); k_dflt (refine kda_item (knd := PySem.strKind _ _) (by k_asm) (by k_mem) (by k_asm) (strKind_is _ _ _ _) (by (first | with_reducible exact va_router | with_reducible exact va_state | with_reducible exact va_dr | with_reducible exact va_bdr | with_reducible exact va_dr_address | with_reducible exact va_bdr_address | with_reducible exact va_neighbours | with_reducible exact va_hello_at | with_reducible exact va_wait_until | with_reducible exact va_kind | with_reducible exact va_address | with_reducible exact va_priority | with_reducible exact va_hello | with_reducible exact va_dead | with_reducible exact va_options | with_reducible exact va_delay | with_reducible exact va_number | with_reducible exact va_area | with_reducible exact va_stub | with_reducible exact va_length | with_reducible exact va_cost | with_reducible exact va_resend | (repeat (first | exact valueAt_hit | refine (valueAt_miss (by decide)).trans ?_)))) ?_ (hs := by rfl)))) | (with_reducible ((with_reducible show wpAny _ _ (binaryOp _ (Value.ref _) (Value.ref _)) _ _ _); (refine stop_at ?_))) | (with_reducible ((with_reducible refine execs_tk ?_); intro _; (try dsimp only); (try k_fold))) | (with_reducible ((with_reducible show wpAny _ _ (eval (PySem.Expr.Subscript (PySem.Expr.Name _ _) (PySem.Expr.Constant (Const.str _) _ _) _) (envOf _ _ _ _ _)) _ _ _); k_dflt (refine sub_key (by k_asm) (by exact rfl) (by k_asm) (by k_mem) (by k_asm) (by (first | with_reducible exact va_router | with_reducible exact va_state | with_reducible exact va_dr | with_reducible exact va_bdr | with_reducible exact va_dr_address | with_reducible exact va_bdr_address | with_reducible exact va_neighbours | with_reducible exact va_hello_at | with_reducible exact va_wait_until | with_reducible exact va_kind | with_reducible exact va_address | with_reducible exact va_priority | with_reducible exact va_hello | with_reducible exact va_dead | with_reducible exact va_options | with_reducible exact va_delay | with_reducible exact va_number | with_reducible exact va_area | with_reducible exact va_stub | with_reducible exact va_length | with_reducible exact va_cost | with_reducible exact va_resend | (repeat (first | exact valueAt_hit | refine (valueAt_miss (by decide)).trans ?_)))) ?_))) | walk1 | (dsimp only; walk1) | (leave1; (try dsimp only))))
    exact CutEnd.intro _ ⟨D3, us3.toArray, 0, rfl, rfl, rfl, rfl, i3⟩ (by assumption) (by assumption) (List.forall_mem_cons.mpr ⟨.head _, fun p hp => .tail _ (.tail _ (.tail _ hp))⟩)
  · intro i5 ys5 news5 hi5 h5 v5 I5 oI5 C5 oC5 D5 m5 hp5 tk5 E5 hP5 hO5 hm5 F5 N5 off5 ne5
    obtain ⟨e5, i6⟩ := h5
    subst e5
    have hP6 : ws[i5]? = some v5 := by simpa using hP5
    obtain ⟨r9, a9, hx9, b9, o9, v1, v2, v3, v4, v6, s1, s2, s3, s4, s5, s6, e9, hm9, hd10⟩ := nbs_get hws hP6
    subst e9
    have e3 := atOf_snoc a hx9
    (repeat' (first | (k_unfold; (try dsimp only)) | (k_end; wrow_close) | (with_reducible ((with_reducible show wpAny _ _ (eval (PySem.Expr.ListComp ..) _) _ _ _); (refine stop_at ?_))) | (with_reducible ((with_reducible show LCt.CompSrcT ..); (k_dflt (first | refine LCt.CompSrcT.ledger (by rfl) (by k_asm) (by k_asm) (by k_mem) (by rw [List.size_toArray, sizeLine_eq]; omega) ?_); intro g'))) | (with_reducible ((with_reducible show LCt.CompRestT ..); (refine stop_at ?_))) | (with_reducible ((with_reducible show wpAny _ _ (subscriptTail _ _ (Value.ref _) (Value.str _ _)) _ _ _); k_dflt (refine kda_item (knd := PySem.strKind _ _) (by k_asm) (by k_mem) (by k_asm) (strKind_is _ _ _ _) (by (first | with_reducible exact va_router | with_reducible exact va_state | with_reducible exact va_dr | with_reducible exact va_bdr | with_reducible exact va_dr_address | with_reducible exact va_bdr_address | with_reducible exact va_neighbours | with_reducible exact va_hello_at | with_reducible exact va_wait_until | with_reducible exact va_kind | with_reducible exact va_address | with_reducible exact va_priority | with_reducible exact va_hello | with_reducible exact va_dead | with_reducible exact va_options | with_reducible exact va_delay | with_reducible exact va_number | with_reducible exact va_area | with_reducible exact va_stub | with_reducible exact va_length | with_reducible exact va_cost | with_reducible exact va_resend | (repeat (first | exact valueAt_hit | refine (valueAt_miss (by decide)).trans ?_)))) ?_ (hs := by rfl)))) | (with_reducible ((with_reducible show wpAny _ _ (binaryOp _ (Value.ref _) (Value.ref _)) _ _ _); (refine stop_at ?_))) | (with_reducible ((with_reducible refine execs_tk ?_); intro _; (try dsimp only); (try k_fold))) | (with_reducible ((with_reducible show wpAny _ _ (eval (PySem.Expr.Subscript (PySem.Expr.Name _ _) (PySem.Expr.Constant (Const.str _) _ _) _) (envOf _ _ _ _ _)) _ _ _); k_dflt (refine sub_key (by k_asm) (by exact rfl) (by k_asm) (by k_mem) (by k_asm) (by (first | with_reducible exact va_router | with_reducible exact va_state | with_reducible exact va_dr | with_reducible exact va_bdr | with_reducible exact va_dr_address | with_reducible exact va_bdr_address | with_reducible exact va_neighbours | with_reducible exact va_hello_at | with_reducible exact va_wait_until | with_reducible exact va_kind | with_reducible exact va_address | with_reducible exact va_priority | with_reducible exact va_hello | with_reducible exact va_dead | with_reducible exact va_options | with_reducible exact va_delay | with_reducible exact va_number | with_reducible exact va_area | with_reducible exact va_stub | with_reducible exact va_length | with_reducible exact va_cost | with_reducible exact va_resend | (repeat (first | exact valueAt_hit | refine (valueAt_miss (by decide)).trans ?_)))) ?_))) | walk1 | (dsimp only; walk1) | (leave1; (try dsimp only))))
    · rw [if_pos (by assumption)] at e3
      refine LCg.CompEnd.intro (by assumption) (by assumption) _ (fun p hp => hp) off5 (.inr ⟨_, .tail _ (.head _), rfl, _, rfl⟩) ⟨rfl, ?_⟩
      rw [e3]
      exact i6.append (.cons _ _ .nil)
    · rw [if_neg (by assumption)] at e3
      refine LCg.CompEnd.intro (by assumption) (by assumption) _ (fun p hp => hp) off5 (.inr ⟨_, .tail _ (.head _), rfl, _, rfl⟩) ⟨rfl, ?_⟩
      rw [e3]
      exact i6
end
theorem off_N2 : True := by w_top off; trivial
theorem ite_eqT {a b : Int} {p q : Prop} (h : a = b) (hp : p) : if (a == b) = true then p else q := by rw [if_pos (beq_iff_eq.mpr h)]; exact hp
theorem ite_eqF {a b : Int} {p q : Prop} (h : ¬ a = b) (hq : q) : if (a == b) = true then p else q := by rw [if_neg (fun e => h (beq_iff_eq.mp e))]; exact hq
theorem ite_neF {a : Int} {p q : Prop} (hq : q) : if (a != a) = true then p else q := by rw [if_neg (by simp)]; exact hq
theorem firstAt_head (xs : List (Int × Int)) (a : Int) : ∃ r, atOf xs a ++ [0] = firstAt xs a :: r := by
  induction xs with
  | nil => exact ⟨[], rfl⟩
  | cons x xs ih =>
    obtain ⟨r, b⟩ := x
    by_cases e : b = a
    · exact ⟨atOf xs a ++ [0], by unfold atOf; simp [firstAt, e]⟩
    · obtain ⟨q, hq⟩ := ih
      exact ⟨q, by rw [firstAt, if_neg e, ← hq]; unfold atOf; simp [e]⟩
theorem ints_head {vs : List Value} {n : Int} {r : List Int} (h : IntsAre vs (n :: r)) : ∃ t q, vs = .int n t :: q := by
  cases h
  exact ⟨_, _, rfl⟩
set_option maxHeartbeats 4000000 in
theorem turn1 {w : World} {c1 c2 c3 c4 c5 c6 c7 d nb pool cells S : Addr} {o po co o1 o2 o3 o4 o5 o6 o7 : Obj} {kd st : PySem.Str} {own dr bdr dra bdra a : Int} {ha wu de op : Value} {t1 t2 t3 t4 t5 t6 t7 t8 t9 t10 t11 t12 t13 t14 t15 t16 ta tS : Tok} {ws rS : List Value} {xs : List (Int × Int)} {k kS : Nat} {tl : Led}
    (hd9 : o.IsDictOf (PySem.strKind PR w) (ifKvs kd st own dr bdr dra bdra nb ha wu de op t1 t2 t3 t4 t5 t6 t7 t8 t9 t10 t11 t12 t13 t14 t15 t16)) (hws : NbsAt w tl ws xs) (hl4 : ws.length ≤ 4)
    (q7 : o7.data = .cell (some (.int a ta))) :
    LawSeg w c1 c2 c3 c4 c5 c6 c7 [lawTurn 1]
      (fun m news => news = (S, listOf (.int (firstAt xs a) tS :: rS).toArray kS) :: (d, o) :: (nb, listOf ws.toArray k) :: (pool, po) :: (cells, co) :: (c1, o1) :: (c2, o2) :: (c3, o3) :: (c4, o4) :: (c5, o5) :: (c6, o6) :: (c7, o7) :: tl ∧ m "iface" = some (.ref d) ∧ m "pool" = some (.ref pool) ∧ m "some" = some (.ref S))
      (fun m news => news = (d, o) :: (nb, listOf ws.toArray k) :: (pool, po) :: (cells, co) :: (c1, o1) :: (c2, o2) :: (c3, o3) :: (c4, o4) :: (c5, o5) :: (c6, o6) :: (c7, o7) :: tl ∧ m "iface" = some (.ref d) ∧ m "pool" = some (.ref pool)) := by
  unfold LawSeg
  conv in (occs := *) lawSc => all_goals whnf
  conv in lawTurn _ => whnf
  intro h₀ base L fa cd dp un gd outer A₀ m mean mg mb s news B F X N T hdp hun lts pre
  obtain ⟨e9, m1, m2, m3⟩ := pre
  subst e9
  replace F := fr_name (fr_name2 F m1 m2 (by decide)) (x := "some") ((if_neg (fun h => absurd (ofs_inj h) (by decide))).trans ((if_neg (fun h => absurd (ofs_inj h) (by decide))).trans m3))
  clear m1 m2 m3
  (try k_fold)
  (repeat' (first | (k_unfold; (try dsimp only)) | (k_end; wrow_close) | (with_reducible ((with_reducible show wpAny _ _ (call (Value.ref 192) _) _ _ _); refine stop_at ?_)) | (with_reducible ((with_reducible show wpAny _ _ (subscriptTail _ _ (Value.ref _) (Value.str _ _)) _ _ _); k_dflt (refine kda_item (knd := PySem.strKind _ _) (by k_asm) (by k_mem) (by k_asm) (strKind_is _ _ _ _) (by (first | with_reducible exact va_router | with_reducible exact va_state | with_reducible exact va_dr | with_reducible exact va_bdr | with_reducible exact va_dr_address | with_reducible exact va_bdr_address | with_reducible exact va_neighbours | with_reducible exact va_hello_at | with_reducible exact va_wait_until | with_reducible exact va_kind | with_reducible exact va_address | with_reducible exact va_priority | with_reducible exact va_hello | with_reducible exact va_dead | with_reducible exact va_options | with_reducible exact va_delay | with_reducible exact va_number | with_reducible exact va_area | with_reducible exact va_stub | with_reducible exact va_length | with_reducible exact va_cost | with_reducible exact va_resend | (repeat (first | exact valueAt_hit | refine (valueAt_miss (by decide)).trans ?_)))) ?_ (hs := by rfl)))) | (with_reducible ((with_reducible show ite _ _ _); first | refine ite_eqT (by assumption) ?_ | refine ite_eqF (by assumption) ?_ | with_reducible refine ite_neF ?_)) | (with_reducible ((with_reducible show wpAny _ _ (subscriptTail _ _ (Value.ref _) (Value.int _ _)) _ _ _); (rename News _ _ _ _ => lN'); k_dflt (refine item_listL (by exact ⟨_, (lN' _ (by k_mem)).1, rfl, _, rfl⟩) (by decide) (by decide) (by rfl) ?_ (hs := by rfl) (hg := by intro _; rfl)))) | (with_reducible ((with_reducible refine execs_tk ?_); intro _; (try dsimp only); (try k_fold))) | (with_reducible ((with_reducible show wpAny _ _ (eval (PySem.Expr.Subscript (PySem.Expr.Name _ _) (PySem.Expr.Constant (Const.str _) _ _) _) (envOf _ _ _ _ _)) _ _ _); k_dflt (refine sub_key (by k_asm) (by exact rfl) (by k_asm) (by k_mem) (by k_asm) (by (first | with_reducible exact va_router | with_reducible exact va_state | with_reducible exact va_dr | with_reducible exact va_bdr | with_reducible exact va_dr_address | with_reducible exact va_bdr_address | with_reducible exact va_neighbours | with_reducible exact va_hello_at | with_reducible exact va_wait_until | with_reducible exact va_kind | with_reducible exact va_address | with_reducible exact va_priority | with_reducible exact va_hello | with_reducible exact va_dead | with_reducible exact va_options | with_reducible exact va_delay | with_reducible exact va_number | with_reducible exact va_area | with_reducible exact va_stub | with_reducible exact va_length | with_reducible exact va_cost | with_reducible exact va_resend | (repeat (first | exact valueAt_hit | refine (valueAt_miss (by decide)).trans ?_)))) ?_))) | walk1 | (dsimp only; walk1) | (leave1; (try dsimp only))))
  refine stop_out ?_
  have hws2 : NbsAt w ((S, listOf (.int (firstAt xs a) tS :: rS).toArray kS) :: (pool, po) :: (cells, co) :: (c1, o1) :: (c2, o2) :: (c3, o3) :: (c4, o4) :: (c5, o5) :: (c6, o6) :: (c7, o7) :: tl) ws xs := hws.mono (by kcf_all)
  refine (router_c (k := k) hd9 hws2 hl4).use (by k_asm) (by k_asm) (by k_asm) (by k_asm) (by k_asm) (by first | exact rfl | assumption) (by ktr_room) (by ktr_units) [] (by
    simp only [List.mem_cons]
    intro p hp
    rcases hp with h | h | h | h | h | h | h | h | h | h | h | h | h <;> simp [h]) (fun _ h => nomatch h) (fun _ _ _ h => nomatch h) ?_
  · intro r9 foot9 h9 tk9 F9 N9 off9 P9
    obtain ⟨⟨t9, e9⟩, f9⟩ := P9
    subst e9; subst f9
    clear off9 hws2
    replace N9 : News h₀ L h9 ((S, listOf (.int (firstAt xs a) tS :: rS).toArray kS) :: (d, o) :: (nb, listOf ws.toArray k) :: (pool, po) :: (cells, co) :: (c1, o1) :: (c2, o2) :: (c3, o3) :: (c4, o4) :: (c5, o5) :: (c6, o6) :: (c7, o7) :: tl) := fun p hp => N9 p (by
      simp only [List.mem_cons, List.mem_append, List.not_mem_nil, or_false] at hp ⊢
      rcases hp with h | h | h | h | h | h | h | h | h | h | h | h | h <;> simp [h])
    by_cases e0 : a = 0
    · rw [if_pos e0]
      (repeat' (first | (k_unfold; (try dsimp only)) | (k_end; wrow_close) | (with_reducible ((with_reducible show wpAny _ _ (call (Value.ref 192) _) _ _ _); refine stop_at ?_)) | (with_reducible ((with_reducible show wpAny _ _ (subscriptTail _ _ (Value.ref _) (Value.str _ _)) _ _ _); k_dflt (refine kda_item (knd := PySem.strKind _ _) (by k_asm) (by k_mem) (by k_asm) (strKind_is _ _ _ _) (by (first | with_reducible exact va_router | with_reducible exact va_state | with_reducible exact va_dr | with_reducible exact va_bdr | with_reducible exact va_dr_address | with_reducible exact va_bdr_address | with_reducible exact va_neighbours | with_reducible exact va_hello_at | with_reducible exact va_wait_until | with_reducible exact va_kind | with_reducible exact va_address | with_reducible exact va_priority | with_reducible exact va_hello | with_reducible exact va_dead | with_reducible exact va_options | with_reducible exact va_delay | with_reducible exact va_number | with_reducible exact va_area | with_reducible exact va_stub | with_reducible exact va_length | with_reducible exact va_cost | with_reducible exact va_resend | (repeat (first | exact valueAt_hit | refine (valueAt_miss (by decide)).trans ?_)))) ?_ (hs := by rfl)))) | (with_reducible ((with_reducible show ite _ _ _); first | refine ite_eqT (by assumption) ?_ | refine ite_eqF (by assumption) ?_ | with_reducible refine ite_neF ?_)) | (with_reducible ((with_reducible show wpAny _ _ (subscriptTail _ _ (Value.ref _) (Value.int _ _)) _ _ _); (rename News _ _ _ _ => lN'); k_dflt (refine item_listL (by exact ⟨_, (lN' _ (by k_mem)).1, rfl, _, rfl⟩) (by decide) (by decide) (by rfl) ?_ (hs := by rfl) (hg := by intro _; rfl)))) | (with_reducible ((with_reducible refine execs_tk ?_); intro _; (try dsimp only); (try k_fold))) | (with_reducible ((with_reducible show wpAny _ _ (eval (PySem.Expr.Subscript (PySem.Expr.Name _ _) (PySem.Expr.Constant (Const.str _) _ _) _) (envOf _ _ _ _ _)) _ _ _); k_dflt (refine sub_key (by k_asm) (by exact rfl) (by k_asm) (by k_mem) (by k_asm) (by (first | with_reducible exact va_router | with_reducible exact va_state | with_reducible exact va_dr | with_reducible exact va_bdr | with_reducible exact va_dr_address | with_reducible exact va_bdr_address | with_reducible exact va_neighbours | with_reducible exact va_hello_at | with_reducible exact va_wait_until | with_reducible exact va_kind | with_reducible exact va_address | with_reducible exact va_priority | with_reducible exact va_hello | with_reducible exact va_dead | with_reducible exact va_options | with_reducible exact va_delay | with_reducible exact va_number | with_reducible exact va_area | with_reducible exact va_stub | with_reducible exact va_length | with_reducible exact va_cost | with_reducible exact va_resend | (repeat (first | exact valueAt_hit | refine (valueAt_miss (by decide)).trans ?_)))) ?_))) | walk1 | (dsimp only; walk1) | (leave1; (try dsimp only))))
      exact CutEnd.intro _ ⟨rfl, rfl, rfl⟩ (by assumption) (by assumption) (fun p hp => .tail _ hp)
    · rw [if_neg e0]
      by_cases e1 : a = own
      · rw [if_pos e1]
        (repeat' (first | (k_unfold; (try dsimp only)) | (k_end; wrow_close) | (with_reducible ((with_reducible show wpAny _ _ (call (Value.ref 192) _) _ _ _); refine stop_at ?_)) | (with_reducible ((with_reducible show wpAny _ _ (subscriptTail _ _ (Value.ref _) (Value.str _ _)) _ _ _); k_dflt (refine kda_item (knd := PySem.strKind _ _) (by k_asm) (by k_mem) (by k_asm) (strKind_is _ _ _ _) (by (first | with_reducible exact va_router | with_reducible exact va_state | with_reducible exact va_dr | with_reducible exact va_bdr | with_reducible exact va_dr_address | with_reducible exact va_bdr_address | with_reducible exact va_neighbours | with_reducible exact va_hello_at | with_reducible exact va_wait_until | with_reducible exact va_kind | with_reducible exact va_address | with_reducible exact va_priority | with_reducible exact va_hello | with_reducible exact va_dead | with_reducible exact va_options | with_reducible exact va_delay | with_reducible exact va_number | with_reducible exact va_area | with_reducible exact va_stub | with_reducible exact va_length | with_reducible exact va_cost | with_reducible exact va_resend | (repeat (first | exact valueAt_hit | refine (valueAt_miss (by decide)).trans ?_)))) ?_ (hs := by rfl)))) | (with_reducible ((with_reducible show ite _ _ _); first | refine ite_eqT (by assumption) ?_ | refine ite_eqF (by assumption) ?_ | with_reducible refine ite_neF ?_)) | (with_reducible ((with_reducible show wpAny _ _ (subscriptTail _ _ (Value.ref _) (Value.int _ _)) _ _ _); (rename News _ _ _ _ => lN'); k_dflt (refine item_listL (by exact ⟨_, (lN' _ (by k_mem)).1, rfl, _, rfl⟩) (by decide) (by decide) (by rfl) ?_ (hs := by rfl) (hg := by intro _; rfl)))) | (with_reducible ((with_reducible refine execs_tk ?_); intro _; (try dsimp only); (try k_fold))) | (with_reducible ((with_reducible show wpAny _ _ (eval (PySem.Expr.Subscript (PySem.Expr.Name _ _) (PySem.Expr.Constant (Const.str _) _ _) _) (envOf _ _ _ _ _)) _ _ _); k_dflt (refine sub_key (by k_asm) (by exact rfl) (by k_asm) (by k_mem) (by k_asm) (by (first | with_reducible exact va_router | with_reducible exact va_state | with_reducible exact va_dr | with_reducible exact va_bdr | with_reducible exact va_dr_address | with_reducible exact va_bdr_address | with_reducible exact va_neighbours | with_reducible exact va_hello_at | with_reducible exact va_wait_until | with_reducible exact va_kind | with_reducible exact va_address | with_reducible exact va_priority | with_reducible exact va_hello | with_reducible exact va_dead | with_reducible exact va_options | with_reducible exact va_delay | with_reducible exact va_number | with_reducible exact va_area | with_reducible exact va_stub | with_reducible exact va_length | with_reducible exact va_cost | with_reducible exact va_resend | (repeat (first | exact valueAt_hit | refine (valueAt_miss (by decide)).trans ?_)))) ?_))) | walk1 | (dsimp only; walk1) | (leave1; (try dsimp only))))
        exact CutEnd.intro _ ⟨rfl, rfl, rfl⟩ (by assumption) (by assumption) (fun p hp => .tail _ hp)
      · rw [if_neg e1]
        (repeat' (first | (k_unfold; (try dsimp only)) | (k_end; wrow_close) | (with_reducible ((with_reducible show wpAny _ _ (call (Value.ref 192) _) _ _ _); refine stop_at ?_)) | (with_reducible ((with_reducible show wpAny _ _ (subscriptTail _ _ (Value.ref _) (Value.str _ _)) _ _ _); k_dflt (refine kda_item (knd := PySem.strKind _ _) (by k_asm) (by k_mem) (by k_asm) (strKind_is _ _ _ _) (by (first | with_reducible exact va_router | with_reducible exact va_state | with_reducible exact va_dr | with_reducible exact va_bdr | with_reducible exact va_dr_address | with_reducible exact va_bdr_address | with_reducible exact va_neighbours | with_reducible exact va_hello_at | with_reducible exact va_wait_until | with_reducible exact va_kind | with_reducible exact va_address | with_reducible exact va_priority | with_reducible exact va_hello | with_reducible exact va_dead | with_reducible exact va_options | with_reducible exact va_delay | with_reducible exact va_number | with_reducible exact va_area | with_reducible exact va_stub | with_reducible exact va_length | with_reducible exact va_cost | with_reducible exact va_resend | (repeat (first | exact valueAt_hit | refine (valueAt_miss (by decide)).trans ?_)))) ?_ (hs := by rfl)))) | (with_reducible ((with_reducible show ite _ _ _); first | refine ite_eqT (by assumption) ?_ | refine ite_eqF (by assumption) ?_ | with_reducible refine ite_neF ?_)) | (with_reducible ((with_reducible show wpAny _ _ (subscriptTail _ _ (Value.ref _) (Value.int _ _)) _ _ _); (rename News _ _ _ _ => lN'); k_dflt (refine item_listL (by exact ⟨_, (lN' _ (by k_mem)).1, rfl, _, rfl⟩) (by decide) (by decide) (by rfl) ?_ (hs := by rfl) (hg := by intro _; rfl)))) | (with_reducible ((with_reducible refine execs_tk ?_); intro _; (try dsimp only); (try k_fold))) | (with_reducible ((with_reducible show wpAny _ _ (eval (PySem.Expr.Subscript (PySem.Expr.Name _ _) (PySem.Expr.Constant (Const.str _) _ _) _) (envOf _ _ _ _ _)) _ _ _); k_dflt (refine sub_key (by k_asm) (by exact rfl) (by k_asm) (by k_mem) (by k_asm) (by (first | with_reducible exact va_router | with_reducible exact va_state | with_reducible exact va_dr | with_reducible exact va_bdr | with_reducible exact va_dr_address | with_reducible exact va_bdr_address | with_reducible exact va_neighbours | with_reducible exact va_hello_at | with_reducible exact va_wait_until | with_reducible exact va_kind | with_reducible exact va_address | with_reducible exact va_priority | with_reducible exact va_hello | with_reducible exact va_dead | with_reducible exact va_options | with_reducible exact va_delay | with_reducible exact va_number | with_reducible exact va_area | with_reducible exact va_stub | with_reducible exact va_length | with_reducible exact va_cost | with_reducible exact va_resend | (repeat (first | exact valueAt_hit | refine (valueAt_miss (by decide)).trans ?_)))) ?_))) | walk1 | (dsimp only; walk1) | (leave1; (try dsimp only))))
        exact CutEnd.intro _ ⟨rfl, rfl, rfl⟩ (by assumption) (by assumption) (fun p hp => .tail _ hp)
section
theorem off_N3 : True := by w_top off; trivial
local macro_rules | `(tactic| walk_at "none 0") => `(tactic| fail)
/-- behind the law's first two rows -/
inductive LMid1 (w : World) (c1 c2 c3 c4 c5 c6 c7 : Addr) (o1 o2 o3 o4 o5 o6 o7 : Obj) (m' : PySem.Str → Option Value) (news' : Led) : Prop
  | mk (d o nb kd st own dr bdr dra bdra ha wu de op t1 t2 t3 t4 t5 t6 t7 t8 t9 t10 t11 t12 t13 t14 t15 t16 ws xs tl sp t k pool cells vs ns n n') (q1 : news' = (d, o) :: (nb, listOf ws.toArray k) :: (pool, listOf #[.ref cells, .int sp t] n) :: (cells, listOf vs.toArray n') :: (CLs c1 c2 c3 c4 c5 c6 c7 o1 o2 o3 o4 o5 o6 o7 ++ tl)) (q2 : m' "iface" = some (.ref d)) (q3 : m' "pool" = some (.ref pool)) (q4 : o.IsDictOf (PySem.strKind PR w) (ifKvs kd st own dr bdr dra bdra nb ha wu de op t1 t2 t3 t4 t5 t6 t7 t8 t9 t10 t11 t12 t13 t14 t15 t16)) (q5 : IfOk kd own dra bdra) (q6 : NbsAt w tl ws xs) (q7 : NbOk xs) (q8 : ws.length ≤ 4) (q9 : 0 ≤ sp) (q10 : sp ≤ 40) (q11 : NeA d nb) (q12 : NeA pool d) (q13 : NeA cells d) (q14 : NeA pool nb) (q15 : NeA cells nb) (q16 : (∀ p ∈ tl, p.1 ≠ d)) (q17 : (∀ p ∈ tl, p.1 ≠ nb)) (q18 : (∀ p ∈ tl, p.1 ≠ pool)) (q19 : (∀ p ∈ tl, p.1 ≠ cells)) (q20 : NeA cells pool) (q21 : IntsAre vs ns) (q22 : ns.length ≤ 63) (q23 : Off [(d, o), (nb, listOf ws.toArray k), (pool, listOf #[.ref cells, .int sp t] n), (cells, listOf vs.toArray n')] (CLs c1 c2 c3 c4 c5 c6 c7 o1 o2 o3 o4 o5 o6 o7)) (q24 : Off tl (CLs c1 c2 c3 c4 c5 c6 c7 o1 o2 o3 o4 o5 o6 o7)) : LMid1 w c1 c2 c3 c4 c5 c6 c7 o1 o2 o3 o4 o5 o6 o7 m' news'
/-- behind the law's loop -/
def LMid2 (w : World) (c1 c2 c3 c4 c5 c6 c7 : Addr) (o1 o2 o3 o4 o5 o6 : Obj) (m' : PySem.Str → Option Value) (news' : Led) : Prop := ∃ o7, LMid1 w c1 c2 c3 c4 c5 c6 c7 o1 o2 o3 o4 o5 o6 o7 m' news'
/-- between the turns of the law's loop -/
inductive TurnL (T d nb pool cells c1 c2 c3 c4 c5 c6 c7 : Addr) (o lo po co tp : Obj) (o1 o2 o3 o4 o5 o6 : Obj) (tl : Led) (r : List (Int × Tok)) (m : PySem.Str → Option Value) (news : Led) : Prop
  | mk (o7 cv) (q1 : o7.data = .cell cv) (q2 : news = (T, tp) :: (d, o) :: (nb, lo) :: (pool, po) :: (cells, co) :: (c1, o1) :: (c2, o2) :: (c3, o3) :: (c4, o4) :: (c5, o5) :: (c6, o6) :: (c7, o7) :: tl) (q3 : m "iface" = some (.ref d)) (q4 : m "pool" = some (.ref pool)) : TurnL T d nb pool cells c1 c2 c3 c4 c5 c6 c7 o lo po co tp o1 o2 o3 o4 o5 o6 tl r m news
theorem off_c7 {c1 c2 c3 c4 c5 c6 c7 : Addr} {o1 o2 o3 o4 o5 o6 o7 o7' : Obj} {foot : Led} (h : Off foot (CLs c1 c2 c3 c4 c5 c6 c7 o1 o2 o3 o4 o5 o6 o7)) : Off foot (CLs c1 c2 c3 c4 c5 c6 c7 o1 o2 o3 o4 o5 o6 o7') := fun p hp q hq => by
  simp only [CLs, List.mem_cons, List.not_mem_nil, or_false] at hq
  rcases hq with rfl | rfl | rfl | rfl | rfl | rfl | rfl
  · exact h p hp (c1, o1) (by simp)
  · exact h p hp (c2, o2) (by simp)
  · exact h p hp (c3, o3) (by simp)
  · exact h p hp (c4, o4) (by simp)
  · exact h p hp (c5, o5) (by simp)
  · exact h p hp (c6, o6) (by simp)
  · exact h p hp (c7, o7) (by simp)
theorem lmid1_intro {w : World} {L c1 c2 c3 c4 c5 c6 c7 : Addr} {o1 o2 o3 o4 o5 o6 o7 : Obj} {m' : PySem.Str → Option Value} {d pool cells : Addr} {vs : List Value} {ns : List Int} {n n' : Nat} {l' : Led} {g h' : Heap} {s₁ : Shared} {tk : Nat}
    (F : Fr g L h' m') (N : News g L h' (l' ++ CLs c1 c2 c3 c4 c5 c6 c7 o1 o2 o3 o4 o5 o6 o7)) (m1 : m' "iface" = some (.ref d)) (m2 : m' "pool" = some (.ref pool)) (ne : NeA cells pool) (hi : IntsAre vs ns) (hn : ns.length ≤ 63)
    (off : Off l' (CLs c1 c2 c3 c4 c5 c6 c7 o1 o2 o3 o4 o5 o6 o7)) (I : IfaceLed w pool cells vs n n' d l') : CutEnd g L s₁ (LMid1 w c1 c2 c3 c4 c5 c6 c7 o1 o2 o3 o4 o5 o6 o7) .next { s₁ with heap := h', toks := tk } := by
  obtain ⟨o, nb, kd, st, own, dr, bdr, dra, bdra, ha, wu, de, op, t1, t2, t3, t4, t5, t6, t7, t8, t9, t10, t11, t12, t13, t14, t15, t16, ws, xs, tl, sp, t, k, e, hd, hif, hws, hxs, hl, h0, h1, e1, e2, e3, e4, e5, q1, q2, q3, q4⟩ := I
  subst e
  refine CutEnd.intro _ ⟨d, o, nb, kd, st, own, dr, bdr, dra, bdra, ha, wu, de, op, t1, t2, t3, t4, t5, t6, t7, t8, t9, t10, t11, t12, t13, t14, t15, t16, ws, xs, tl, sp, t, k, pool, cells, vs, ns, n, n', rfl, m1, m2, hd, hif, hws, hxs, hl, h0, h1, e1, e2, e3, e4, e5, q1, q2, q3, q4, ne, hi, hn, ?_, ?_⟩ F N ?_
  · intro p hp q hq
    exact off p (by
      rcases List.mem_cons.mp hp with rfl | hp
      · exact .head _
      · rcases List.mem_cons.mp hp with rfl | hp
        · exact .tail _ (.head _)
        · rcases List.mem_cons.mp hp with rfl | hp
          · exact .tail _ (.tail _ (.head _))
          · rw [List.mem_singleton.mp hp]; exact .tail _ (.tail _ (.tail _ (.head _)))) q hq
  · intro p hp q hq
    exact off p (.tail _ (.tail _ (.tail _ (.tail _ hp)))) q hq
  · intro p hp
    rcases List.mem_cons.mp hp with rfl | hp
    · exact List.mem_append.mpr (.inl (.head _))
    rcases List.mem_cons.mp hp with rfl | hp
    · exact List.mem_append.mpr (.inl (.tail _ (.head _)))
    rcases List.mem_cons.mp hp with rfl | hp
    · exact List.mem_append.mpr (.inl (.tail _ (.tail _ (.head _))))
    rcases List.mem_cons.mp hp with rfl | hp
    · exact List.mem_append.mpr (.inl (.tail _ (.tail _ (.tail _ (.head _)))))
    rcases List.mem_append.mp hp with hp | hp
    · exact List.mem_append.mpr (.inr hp)
    · exact List.mem_append.mpr (.inl (.tail _ (.tail _ (.tail _ (.tail _ hp)))))
set_option maxHeartbeats 4000000 in
theorem loop_seg {w : World} {c1 c2 c3 c4 c5 c6 c7 : Addr} {o1 o2 o3 o4 o5 o6 o7 : Obj} (q7 : o7.data = .cell none) :
    LawSeg w c1 c2 c3 c4 c5 c6 c7 [lawRow 2] (LMid1 w c1 c2 c3 c4 c5 c6 c7 o1 o2 o3 o4 o5 o6 o7) (LMid2 w c1 c2 c3 c4 c5 c6 c7 o1 o2 o3 o4 o5 o6) := by
  unfold LawSeg
  conv in (occs := *) lawSc => all_goals whnf
  conv in lawRow _ => whnf
  intro h₀ base L fa cd dp un gd outer A₀ m mean mg mb s news B F9 X N9 T hdp hun lts M9
  obtain ⟨d, o, nb, kd, st, own, dr, bdr, dra, bdra, ha, wu, de, op, t1, t2, t3, t4, t5, t6, t7, t8, t9, t10, t11, t12, t13, t14, t15, t16, ws, xs, tl, sp, t, k, pool, cells, vs, ns, n, n', e9, m1, m2, hd9, hif, hws, hxs, hl4, hs0, hs1, ne1, ne2, ne3, ne4, ne5, p1, p2, p3, p4, ne6, hi, hn, of1, of2⟩ := M9
  subst e9
  replace F9 := fr_name2 F9 m1 m2 (by decide)
  have r7 : ∀ p ∈ tl, p.1 ≠ c7 := fun p hp e => of2 p hp _ (.tail _ (.tail _ (.tail _ (.tail _ (.tail _ (.tail _ (.head _))))))) e
  have of1' := offLL_of of1
  simp only [OffLL, OffL, and_true] at of1'
  obtain ⟨ofa, ofb, ofc, ofd⟩ := of1'
  simp only [CLs, List.cons_append, List.nil_append] at N9
  unfold NeA at ne1 ne2 ne3 ne4 ne5 ne6
  clear m1 m2
  (try k_fold)
  (repeat' (first | (k_unfold; (try dsimp only)) | (k_end; wrow_close) | (with_reducible ((with_reducible show wpAny _ _ (exec _ (envX (Str.ofString "law") _ _ _ _ _)) _ _ _); (rename Fr _ _ _ _ => lF'); (with_unfolding_all refine For_turns lF' ?_; k_whole))) | (with_reducible ((with_reducible show wpAny _ _ (pyIter (Value.ref _)) (fun it s₂ => TurnsAt _ _ _ _ (envX (Str.ofString "law") _ _ _ _ _) _ _ _ _ it s₂) _ _); (rename Fr _ _ _ _ => lF'); (rename News _ _ _ _ => lN'); (with_unfolding_all refine iter_tupTurns (by rfl) lF' lN' (by k_mem) (by rfl) (by rfl) ?_); clear lF' lN'; intro I lI; (try k_lt lI))) | (with_reducible ((with_reducible show ItemsRest ..); (refine stop_at ?_))) | (with_reducible ((with_reducible refine execs_tk ?_); intro _; (try dsimp only); (try k_fold))) | walk1 | (dsimp only; walk1) | (leave1; (try dsimp only))))
  refine stop_out ?_
  rename_i tkB TT hT lT
  refine items_ind (fun x : Int × Tok => Itm.val (Value.int x.1 x.2)) (TurnL TT d nb pool cells c1 c2 c3 c4 c5 c6 c7 o _ _ _ _ o1 o2 o3 o4 o5 o6 tl) ?_ ?_ [(0, _), (1, _), (2, _), (7, _), (9, _)] _ _ ⟨o7, none, q7, rfl, rfl, rfl⟩
  · intro m8 news8 h8 tk8 T8 F8 N8
    obtain ⟨o7', cv, q7', e8, n1, n2⟩ := T8
    subst e8
    (repeat' (first | (k_unfold; (try dsimp only)) | (k_end; wrow_close) | (with_reducible ((with_reducible show wpAny _ _ (exec _ (envX (Str.ofString "law") _ _ _ _ _)) _ _ _); (rename Fr _ _ _ _ => lF'); (with_unfolding_all refine For_turns lF' ?_; k_whole))) | (with_reducible ((with_reducible show wpAny _ _ (pyIter (Value.ref _)) (fun it s₂ => TurnsAt _ _ _ _ (envX (Str.ofString "law") _ _ _ _ _) _ _ _ _ it s₂) _ _); (rename Fr _ _ _ _ => lF'); (rename News _ _ _ _ => lN'); (with_unfolding_all refine iter_tupTurns (by rfl) lF' lN' (by k_mem) (by rfl) (by rfl) ?_); clear lF' lN'; intro I lI; (try k_lt lI))) | (with_reducible ((with_reducible show ItemsRest ..); (refine stop_at ?_))) | (with_reducible ((with_reducible refine execs_tk ?_); intro _; (try dsimp only); (try k_fold))) | walk1 | (dsimp only; walk1) | (leave1; (try dsimp only))))
    exact CutEnd.intro _ ⟨o7', d, o, nb, kd, st, own, dr, bdr, dra, bdra, ha, wu, de, op, t1, t2, t3, t4, t5, t6, t7, t8, t9, t10, t11, t12, t13, t14, t15, t16, ws, xs, tl, sp, t, k, pool, cells, vs, ns, n, n', rfl, n1, n2, hd9, hif, hws, hxs, hl4, hs0, hs1, ne1, ne2, ne3, ne4, ne5, p1, p2, p3, p4, ne6, hi, hn, off_c7 of1, off_c7 of2⟩ F8 N8 (fun p hp => .tail _ hp)
  · intro v8 r8 m8 news8 T8 u8 h8 tk8 e8 F8
    obtain ⟨o7', cv, q7', e9, n1, n2⟩ := T8
    subst e9
    replace F8 := fr_name2 F8 n1 n2 (by decide)
    have e8' : u8 = Value.int v8.1 v8.2 := e8
    subst e8'
    obtain ⟨a8, ta8⟩ := v8
    clear n1 n2 e8
    refine AllObj.cons (fun it8 hit8 => AllObj.nil ?_)
    intro N8
    (try dsimp only)
    walk1
    walk1
    rename News _ _ _ _ => N7
    rename Fr _ _ _ _ => F7
    have hws7 : NbsAt w ((I, it8) :: (TT, tup [Value.int 0 tkB, Value.int 1 (tkB + 1), Value.int 2 (tkB + 1 + 1), Value.int 7 (tkB + 1 + 1 + 1), Value.int 9 (tkB + 1 + 1 + 1 + 1)]) :: tl) ws xs := hws.mono (by kcf_all)
    rename _ = Data.cell (some _) => q8
    rename_i o8
    refine seg_cut (turn0 (d := d) (pool := pool) (cells := cells) (po := listOf #[.ref cells, .int sp t] n) (co := listOf vs.toArray n') (o1 := o1) (o2 := o2) (o3 := o3) (o4 := o4) (o5 := o5) (o6 := o6) (k := k) hd9 hws7 hl4 q8) B F7 X N7 T hdp hun lts _ ⟨rfl, rfl, rfl⟩ ?_ ?_
    · simp only [List.mem_cons]
      intro p hp
      rcases hp with h | h | h | h | h | h | h | h | h | h | h | h | h | h <;> simp [h]
    · intro h6 tk6 m6 news6 F6 N6 M6
      obtain ⟨S, vS, kS, e6, n1, n2, n3, i6⟩ := M6
      subst e6
      obtain ⟨rr, e7⟩ := firstAt_head xs a8
      rw [e7] at i6
      obtain ⟨tS, rS, e8⟩ := ints_head i6
      have e9 : vS = (Value.int (firstAt xs a8) tS :: rS).toArray := by rw [← e8]
      subst e9
      refine seg_cut (rest := []) (turn1 (d := d) (S := S) (pool := pool) (cells := cells) (po := listOf #[.ref cells, .int sp t] n) (co := listOf vs.toArray n') (o1 := o1) (o2 := o2) (o3 := o3) (o4 := o4) (o5 := o5) (o6 := o6) (k := k) (kS := kS) hd9 hws7 hl4 q8) B F6 X N6 T hdp hun lts _ ⟨rfl, n1, n2, n3⟩ (fun _ h => h) ?_
      intro h5 tk5 m5 news5 F5 N5 M5
      obtain ⟨e5, n4, n5⟩ := M5
      subst e5
      (repeat' (first | (k_unfold; (try dsimp only)) | (k_end; wrow_close) | (with_reducible ((with_reducible show wpAny _ _ (exec _ (envX (Str.ofString "law") _ _ _ _ _)) _ _ _); (rename Fr _ _ _ _ => lF'); (with_unfolding_all refine For_turns lF' ?_; k_whole))) | (with_reducible ((with_reducible show wpAny _ _ (pyIter (Value.ref _)) (fun it s₂ => TurnsAt _ _ _ _ (envX (Str.ofString "law") _ _ _ _ _) _ _ _ _ it s₂) _ _); (rename Fr _ _ _ _ => lF'); (rename News _ _ _ _ => lN'); (with_unfolding_all refine iter_tupTurns (by rfl) lF' lN' (by k_mem) (by rfl) (by rfl) ?_); clear lF' lN'; intro I lI; (try k_lt lI))) | (with_reducible ((with_reducible show ItemsRest ..); (refine stop_at ?_))) | (with_reducible ((with_reducible refine execs_tk ?_); intro _; (try dsimp only); (try k_fold))) | walk1 | (dsimp only; walk1) | (leave1; (try dsimp only))))
      refine ⟨h5, tk5, m5, (TT, tup [Value.int 0 tkB, Value.int 1 (tkB + 1), Value.int 2 (tkB + 1 + 1), Value.int 7 (tkB + 1 + 1 + 1), Value.int 9 (tkB + 1 + 1 + 1 + 1)]) :: (d, o) :: (nb, listOf ws.toArray k) :: (pool, listOf #[.ref cells, .int sp t] n) :: (cells, listOf vs.toArray n') :: (c1, o1) :: (c2, o2) :: (c3, o3) :: (c4, o4) :: (c5, o5) :: (c6, o6) :: (c7, o8) :: tl, rfl, (by assumption), fun p hp => N5 p ?_, fun p hp q hq => ?_, ⟨.head _, trivial⟩, ⟨o8, _, q8, rfl, n4, n5⟩⟩
      · simp only [List.mem_cons, List.mem_append, List.not_mem_nil, or_false] at hp ⊢
        rcases hp with h | h | h | h | h | h | h | h | h | h | h | h | h | h <;> simp [h]
      · rw [List.mem_singleton.mp hq]
        exact allne_of (d := I) (rest := (TT, tup [Value.int 0 tkB, Value.int 1 (tkB + 1), Value.int 2 (tkB + 1 + 1), Value.int 7 (tkB + 1 + 1 + 1), Value.int 9 (tkB + 1 + 1 + 1 + 1)]) :: (d, o) :: (nb, listOf ws.toArray k) :: (pool, listOf #[.ref cells, .int sp t] n) :: (cells, listOf vs.toArray n') :: (c1, o1) :: (c2, o2) :: (c3, o3) :: (c4, o4) :: (c5, o5) :: (c6, o6) :: (c7, o8) :: tl) lI p hp
end
theorem off_N4 : True := by w_top off; trivial
section
variable {prog : Program} {w : World} {A : Around} {E : Value → Shared → Prop} {s : Shared}
theorem menu_item {value slice : PySem.Expr} {l : Addr} {vs : List Value} {v : Int} {u : Tok} {Q : Value → Shared → Prop} (hl : s.heap.IsList l vs.toArray) (h0 : 0 ≤ v) (h1 : v < vs.length) (hfit : v < 2 ^ 63) (h : ∀ x ∈ vs, Q x s)
    (hs : subscripted slice false (.ref l) (.int v u) = operate [.ref l, .int v u] (getItem (.ref l) (.int v u)) := by with_unfolding_all rfl) :
    wpAny (model prog w) A (subscriptTail value slice (.ref l) (.int v u)) Q E s := by
  have hlt : v.toNat < vs.length := by (first | lia | omega)
  exact tail_any hl.typeIs slot_list_getitem.lookup (wpAny_getItem_list hl h0 hfit (by simpa using List.getElem?_eq_getElem hlt) (h _ (List.getElem_mem hlt))) hs
theorem menu_ints {value slice : PySem.Expr} {l : Addr} {vs : List Value} {ns : List Int} {v : Int} {u : Tok} {Q : Value → Shared → Prop} (hl : s.heap.IsList l vs.toArray) (hi : IntsAre vs ns) (h0 : 0 ≤ v) (h1 : v < ns.length) (hfit : v < 2 ^ 63) (h : ∀ x t, x ∈ ns → Q (.int x t) s)
    (hs : subscripted slice false (.ref l) (.int v u) = operate [.ref l, .int v u] (getItem (.ref l) (.int v u)) := by with_unfolding_all rfl) :
    wpAny (model prog w) A (subscriptTail value slice (.ref l) (.int v u)) Q E s := by
  have hlt : v.toNat < ns.length := by (first | lia | omega)
  obtain ⟨t, hx⟩ := hi.get v.toNat _ (List.getElem?_eq_getElem hlt)
  exact tail_any hl.typeIs slot_list_getitem.lookup (wpAny_getItem_list hl h0 hfit (by simpa using hx) (h _ t (List.getElem_mem hlt))) hs
end
set_option maxHeartbeats 4000000 in
theorem word_seg {w : World} {c1 c2 c3 c4 c5 c6 c7 pool cells : Addr} {vs : List Value} {ns : List Int} {sp : Int} {t : Tok} {n n' : Nat} {fv : Value} {rest : Led} (hi : IntsAre vs ns) (hn : ns.length ≤ 63) (hs0 : 0 ≤ sp) (hs1 : sp ≤ 100) (ne6 : NeA cells pool)
    (p3 : ∀ p ∈ rest, p.1 ≠ pool) (p4 : ∀ p ∈ rest, p.1 ≠ cells) :
    LawSeg w c1 c2 c3 c4 c5 c6 c7 [lawRow 3] (fun m news => news = (pool, listOf #[.ref cells, .int sp t] n) :: (cells, listOf vs.toArray n') :: rest ∧ m "pool" = some (.ref pool) ∧ m "iface" = some fv)
      (fun m news => ∃ t' ev te, news = (pool, listOf #[.ref cells, .int (sp + 1) t'] n) :: (cells, listOf vs.toArray n') :: rest ∧ m "pool" = some (.ref pool) ∧ m "iface" = some fv ∧ m "word" = some (.str (Str.ofString ev) te) ∧ (ev = "down" ∨ ev = "loop")) := by
  unfold LawSeg
  conv in (occs := *) lawSc => all_goals whnf
  conv in lawRow _ => whnf
  intro h₀ base L fa cd dp un gd outer A₀ m mean mg mb s news B F9 X N9 T hdp hun lts M9
  obtain ⟨e9, m1, m2⟩ := M9
  subst e9
  replace F9 := fr_name2 F9 m1 m2 (by decide)
  unfold NeA at ne6
  clear m1 m2
  (try k_fold)
  (repeat' (first | (k_unfold; (try dsimp only)) | (k_end; wrow_close) | (with_reducible ((with_reducible show wpAny _ _ (call (Value.ref 213) _) _ _ _); k_dflt (refine draw_u (by k_asm) (by k_asm) (by k_asm) (by k_asm) (by k_asm) (by first | exact rfl | assumption) (by k_updF) (by assumption) (by assumption) (by (first | lia | omega)) (by (first | lia | omega)) (by (first | lia | omega)) (by (first | lia | omega)) (by first | assumption | (show @Ne Nat _ _; k_ne)) (by ktr_room) (by ktr_units) (by lcg_sub) ?_); intro rz9 oz9 hz9 tkz9 Fz9 Nz9 Pz9; obtain ⟨vz9, tz9, uz9, ez9, hv8, hvz9, fz9⟩ := Pz9; subst ez9; subst fz9; (try dsimp only at Nz9); (try dsimp only))) | (with_reducible ((with_reducible show wpAny _ _ (subscriptTail (PySem.Expr.List _ _) _ (Value.ref _) (Value.int _ _)) _ _ _); (rename News _ _ _ _ => lN'); k_dflt (refine menu_item (by exact ⟨_, (lN' _ (.head _)).1, rfl, _, rfl⟩) (by (first | lia | omega)) (by simp only [List.length_cons, List.length_nil]; (first | lia | omega)) (by (first | lia | omega)) ?_ (hs := by rfl)); refine List.forall_mem_cons.mpr ⟨?_, List.forall_mem_cons.mpr ⟨?_, List.forall_mem_nil _⟩⟩)) | (with_reducible ((with_reducible refine execs_tk ?_); intro _; (try dsimp only); (try k_fold))) | (with_reducible ((with_reducible show wpAny _ _ (eval (PySem.Expr.Subscript (PySem.Expr.Name _ _) (PySem.Expr.Constant (Const.str _) _ _) _) (envOf _ _ _ _ _)) _ _ _); k_dflt (refine sub_key (by k_asm) (by exact rfl) (by k_asm) (by k_mem) (by k_asm) (by (first | with_reducible exact va_router | with_reducible exact va_state | with_reducible exact va_dr | with_reducible exact va_bdr | with_reducible exact va_dr_address | with_reducible exact va_bdr_address | with_reducible exact va_neighbours | with_reducible exact va_hello_at | with_reducible exact va_wait_until | with_reducible exact va_kind | with_reducible exact va_address | with_reducible exact va_priority | with_reducible exact va_hello | with_reducible exact va_dead | with_reducible exact va_options | with_reducible exact va_delay | with_reducible exact va_number | with_reducible exact va_area | with_reducible exact va_stub | with_reducible exact va_length | with_reducible exact va_cost | with_reducible exact va_resend | (repeat (first | exact valueAt_hit | refine (valueAt_miss (by decide)).trans ?_)))) ?_))) | walk1 | (dsimp only; walk1) | (leave1; (try dsimp only))))
  · exact CutEnd.intro _ ⟨_, _, _, rfl, rfl, rfl, rfl, .inl rfl⟩ (by assumption) (by assumption) (fun p hp => .tail _ hp)
  · exact CutEnd.intro _ ⟨_, _, _, rfl, rfl, rfl, rfl, .inr rfl⟩ (by assumption) (by assumption) (fun p hp => .tail _ hp)
section
theorem off_N5 : True := by w_top off; trivial
local macro_rules | `(tactic| walk_at "none 0") => `(tactic| fail)
set_option maxHeartbeats 4000000 in
theorem event_seg {w : World} {c1 c2 c3 c4 c5 c6 c7 d nb : Addr} {o : Obj} {kd st : PySem.Str} {own dr bdr dra bdra : Int} {ha wu de op pv : Value} {t1 t2 t3 t4 t5 t6 t7 t8 t9 t10 t11 t12 t13 t14 t15 t16 : Tok} {ws : List Value} {xs : List (Int × Int)} {k : Nat} {tl : Led} {ev : String} {te : Tok}
    (hd : o.IsDictOf (PySem.strKind PR w) (ifKvs kd st own dr bdr dra bdra nb ha wu de op t1 t2 t3 t4 t5 t6 t7 t8 t9 t10 t11 t12 t13 t14 t15 t16)) (hif : IfOk kd own dra bdra) (hws : NbsAt w tl ws xs) (h4 : ws.length ≤ 4)
    (hdn : NeA d nb) (htd : ∀ p ∈ tl, p.1 ≠ d) (htn : ∀ p ∈ tl, p.1 ≠ nb) (hev : ev = "down" ∨ ev = "loop") :
    LawSeg w c1 c2 c3 c4 c5 c6 c7 [lawRow 4] (fun m news => news = (d, o) :: (nb, listOf ws.toArray k) :: tl ∧ m "iface" = some (.ref d) ∧ m "word" = some (.str (Str.ofString ev) te) ∧ m "pool" = some pv)
      (fun m news => ∃ o' st' u1 u2 u3 u4 u5 u6 u7 u8 u9 u10 u11 u12 u13 u14 u15 u16, news = (d, o') :: (nb, listOf ws.toArray k) :: tl ∧ m "iface" = some (.ref d) ∧ m "word" = some (.str (Str.ofString ev) te) ∧ m "pool" = some pv ∧
        o'.IsDictOf (PySem.strKind PR w) (ifKvs kd st' own 0 0 0 0 nb .none .none de op u1 u2 u3 u4 u5 u6 u7 u8 u9 u10 u11 u12 u13 u14 u15 u16) ∧ (ev = "down" ∧ st' = Str.ofString "down" ∨ ev = "loop" ∧ st' = Str.ofString "loopback")) := by
  unfold LawSeg
  conv in (occs := *) lawSc => all_goals whnf
  conv in lawRow _ => whnf
  intro h₀ base L fa cd dp un gd outer A₀ m mean mg mb s news B F9 X N9 T hdp hun lts M9
  obtain ⟨e9, m1, m2, m3⟩ := M9
  subst e9
  replace F9 := fr_name (fr_name2 F9 m1 m2 (by decide)) (x := "pool") ((if_neg (fun h => absurd (ofs_inj h) (by decide))).trans ((if_neg (fun h => absurd (ofs_inj h) (by decide))).trans m3))
  clear m1 m2 m3
  (try k_fold)
  (repeat' (first | (k_unfold; (try dsimp only)) | (k_end; wrow_close) | (with_reducible ((with_reducible show wpAny _ _ (call (Value.ref 206) _) _ _ _); refine stop_at ?_)) | (with_reducible ((with_reducible refine execs_tk ?_); intro _; (try dsimp only); (try k_fold))) | walk1 | (dsimp only; walk1) | (leave1; (try dsimp only))))
  refine stop_out ?_
  refine (event_c (k := k) hd hif hws h4 hdn htd htn hev).use (by k_asm) (by k_asm) (by k_asm) (by k_asm) (by k_asm) (by first | exact rfl | assumption) (by ktr_room) (by ktr_units) [] (fun _ h => h) (fun _ h => nomatch h) (fun _ _ _ h => nomatch h) ?_
  intro r9 l9 h9 tk9 F9 N9 off9 P9
  obtain ⟨u, o', st', s1, s2, u1, u2, u3, u4, u5, u6, u7, u8, u9, u10, u11, u12, u13, u14, u15, u16, e9, f9, hd9, hst, ne9⟩ := P9
  subst e9; subst f9
  simp only [List.append_nil] at N9
  clear off9
  (repeat' (first | (k_unfold; (try dsimp only)) | (k_end; wrow_close) | (with_reducible ((with_reducible show wpAny _ _ (call (Value.ref 206) _) _ _ _); refine stop_at ?_)) | (with_reducible ((with_reducible refine execs_tk ?_); intro _; (try dsimp only); (try k_fold))) | walk1 | (dsimp only; walk1) | (leave1; (try dsimp only))))
  exact CutEnd.intro _ ⟨o', st', u1, u2, u3, u4, u5, u6, u7, u8, u9, u10, u11, u12, u13, u14, u15, u16, rfl, rfl, rfl, rfl, hd9, hst⟩ (by assumption) (by assumption) (fun p hp => .tail _ (.tail _ hp))
end
theorem off_N6 : True := by w_top off; trivial
theorem down_ne : (Str.ofString "down" == Str.ofString "loop") = false := beq_eq_false_iff_ne.mpr fun e => absurd (ofs_inj e) (by decide)
set_option maxHeartbeats 4000000 in
theorem ask_seg {w : World} {c1 c2 c3 c4 c5 c6 c7 d nb : Addr} {o : Obj} {kd st : PySem.Str} {own : Int} {de op pv : Value} {t1 t2 t3 t4 t5 t6 t7 t8 t9 t10 t11 t12 t13 t14 t15 t16 : Tok} {rest : Led} {ev : String} {te : Tok}
    (hd : o.IsDictOf (PySem.strKind PR w) (ifKvs kd st own 0 0 0 0 nb .none .none de op t1 t2 t3 t4 t5 t6 t7 t8 t9 t10 t11 t12 t13 t14 t15 t16)) (hst : ev = "down" ∧ st = Str.ofString "down" ∨ ev = "loop" ∧ st = Str.ofString "loopback") :
    LawSeg w c1 c2 c3 c4 c5 c6 c7 [lawRow 5, lawRow 6] (fun m news => news = (d, o) :: rest ∧ m "iface" = some (.ref d) ∧ m "word" = some (.str (Str.ofString ev) te) ∧ m "pool" = some pv)
      (fun m news => news = (d, o) :: rest ∧ m "iface" = some (.ref d) ∧ m "pool" = some pv) := by
  unfold LawSeg
  conv in (occs := *) lawSc => all_goals whnf
  conv in lawRow 5 => whnf
  conv in lawRow 6 => whnf
  intro h₀ base L fa cd dp un gd outer A₀ m mean mg mb s news B F9 X N9 T hdp hun lts M9
  obtain ⟨e9, m1, m2, m3⟩ := M9
  subst e9
  replace F9 := fr_name (fr_name2 F9 m1 m2 (by decide)) (x := "pool") ((if_neg (fun h => absurd (ofs_inj h) (by decide))).trans ((if_neg (fun h => absurd (ofs_inj h) (by decide))).trans m3))
  clear m1 m2 m3
  (try k_fold)
  rcases hst with ⟨rfl, rfl⟩ | ⟨rfl, rfl⟩
  all_goals
    (repeat' (first | (k_unfold; (try dsimp only)) | (k_end; wrow_close) | (with_reducible ((with_reducible show wpAny _ _ (subscriptTail _ _ (Value.ref _) (Value.str _ _)) _ _ _); k_dflt (refine kda_item (knd := PySem.strKind _ _) (by k_asm) (by k_mem) (by k_asm) (strKind_is _ _ _ _) (by (first | with_reducible exact va_router | with_reducible exact va_state | with_reducible exact va_dr | with_reducible exact va_bdr | with_reducible exact va_dr_address | with_reducible exact va_bdr_address | with_reducible exact va_neighbours | with_reducible exact va_hello_at | with_reducible exact va_wait_until | with_reducible exact va_kind | with_reducible exact va_address | with_reducible exact va_priority | with_reducible exact va_hello | with_reducible exact va_dead | with_reducible exact va_options | with_reducible exact va_delay | with_reducible exact va_number | with_reducible exact va_area | with_reducible exact va_stub | with_reducible exact va_length | with_reducible exact va_cost | with_reducible exact va_resend | (repeat (first | exact valueAt_hit | refine (valueAt_miss (by decide)).trans ?_)))) ?_ (hs := by rfl)))) | (with_reducible ((with_reducible show wpAny _ _ (subscriptTail (PySem.Expr.List _ _) _ (Value.ref _) (Value.bool _)) _ _ _); (first | rw [down_ne] | rw [beq_self_eq_true]); (rename News _ _ _ _ => lN'); k_dflt (refine menu_bool (by exact ⟨_, (lN' _ (.head _)).1, rfl, _, rfl⟩) ?_ (hs := by rfl)); (try simp only [Bool.false_eq_true, if_false, if_true]))) | (with_reducible ((with_reducible refine execs_tk ?_); intro _; (try dsimp only); (try k_fold))) | (with_reducible ((with_reducible show wpAny _ _ (eval (PySem.Expr.Subscript (PySem.Expr.Name _ _) (PySem.Expr.Constant (Const.str _) _ _) _) (envOf _ _ _ _ _)) _ _ _); k_dflt (refine sub_key (by k_asm) (by exact rfl) (by k_asm) (by k_mem) (by k_asm) (by (first | with_reducible exact va_router | with_reducible exact va_state | with_reducible exact va_dr | with_reducible exact va_bdr | with_reducible exact va_dr_address | with_reducible exact va_bdr_address | with_reducible exact va_neighbours | with_reducible exact va_hello_at | with_reducible exact va_wait_until | with_reducible exact va_kind | with_reducible exact va_address | with_reducible exact va_priority | with_reducible exact va_hello | with_reducible exact va_dead | with_reducible exact va_options | with_reducible exact va_delay | with_reducible exact va_number | with_reducible exact va_area | with_reducible exact va_stub | with_reducible exact va_length | with_reducible exact va_cost | with_reducible exact va_resend | (repeat (first | exact valueAt_hit | refine (valueAt_miss (by decide)).trans ?_)))) ?_))) | walk1 | (dsimp only; walk1) | (leave1; (try dsimp only))))
    exact CutEnd.intro _ ⟨rfl, rfl, rfl⟩ (by assumption) (by assumption) (List.forall_mem_cons.mpr ⟨by k_mem, by kcf_all⟩)
section
theorem off_N7 : True := by w_top off; trivial
local macro_rules | `(tactic| walk_at "none 0") => `(tactic| fail)
/-- behind the law's row of many and wide -/
inductive ManyP (pool cells c6 : Addr) (vs : List Value) (sp : Int) (n n' : Nat) (fv : Value) (rest : Led) (m : PySem.Str → Option Value) (news : Led) : Prop
  | mk (t' o6' many tm wide tw) (q1 : news = (pool, listOf #[.ref cells, .int (sp + 1 + 1) t'] n) :: (cells, listOf vs.toArray n') :: (c6, o6') :: rest) (q2 : m "pool" = some (.ref pool)) (q3 : m "iface" = some fv) (q4 : m "many" = some (.int many tm)) (q5 : many ∈ [0, 359, 360, 361, 3, 720]) (q6 : o6'.data = .cell (some (.int wide tw))) (q7 : wide ∈ [2, 1009, 358, 359, 360]) : ManyP pool cells c6 vs sp n n' fv rest m news
theorem many_end {g h' : Heap} {L pool cells c6 : Addr} {vs : List Value} {sp : Int} {t' : Tok} {n n' : Nat} {fv : Value} {o6' : Obj} {rest all : Led} {m' : PySem.Str → Option Value} {many wide : Int} {tm tw : Tok} {s₁ : Shared} {tk : Nat} (F : Fr g L h' m') (N : News g L h' all) (m1 : m' "pool" = some (.ref pool)) (m2 : m' "iface" = some fv) (m3 : m' "many" = some (.int many tm))
    (hm : many ∈ [0, 359, 360, 361, 3, 720]) (q : o6'.data = .cell (some (.int wide tw))) (hw : wide ∈ [2, 1009, 358, 359, 360]) (k1 : (pool, listOf #[.ref cells, .int (sp + 1 + 1) t'] n) ∈ all) (k2 : (cells, listOf vs.toArray n') ∈ all) (k3 : (c6, o6') ∈ all) (k4 : ∀ p ∈ rest, p ∈ all) :
    CutEnd g L s₁ (ManyP pool cells c6 vs sp n n' fv rest) .next { s₁ with heap := h', toks := tk } :=
  CutEnd.intro _ ⟨t', o6', many, tm, wide, tw, rfl, m1, m2, m3, hm, q, hw⟩ F N (List.forall_mem_cons.mpr ⟨k1, List.forall_mem_cons.mpr ⟨k2, List.forall_mem_cons.mpr ⟨k3, k4⟩⟩⟩)
set_option maxHeartbeats 4000000 in
theorem many_seg {w : World} {c1 c2 c3 c4 c5 c6 c7 pool cells : Addr} {vs : List Value} {ns : List Int} {sp : Int} {t : Tok} {n n' : Nat} {fv : Value} {o6 : Obj} {cv : Option Value} {rest : Led} (hi : IntsAre vs ns) (hn : ns.length ≤ 63) (hs0 : 0 ≤ sp) (hs1 : sp ≤ 100) (ne6 : NeA cells pool)
    (x1 : NeA pool c6) (x2 : NeA cells c6) (p3 : ∀ p ∈ rest, p.1 ≠ pool) (p4 : ∀ p ∈ rest, p.1 ≠ c6) (q6 : o6.data = .cell cv) :
    LawSeg w c1 c2 c3 c4 c5 c6 c7 [lawRow 7] (fun m news => news = (pool, listOf #[.ref cells, .int sp t] n) :: (cells, listOf vs.toArray n') :: (c6, o6) :: rest ∧ m "pool" = some (.ref pool) ∧ m "iface" = some fv)
      (ManyP pool cells c6 vs sp n n' fv rest) := by
  unfold LawSeg
  conv in (occs := *) lawSc => all_goals whnf
  conv in lawRow _ => whnf
  intro h₀ base L fa cd dp un gd outer A₀ m mean mg mb s news B F9 X N9 T hdp hun lts M9
  obtain ⟨e9, m1, m2⟩ := M9
  subst e9
  replace F9 := fr_name2 F9 m1 m2 (by decide)
  unfold NeA at ne6 x1 x2
  clear m1 m2
  (try k_fold)
  (repeat' (first | (k_unfold; (try dsimp only)) | (k_end; wrow_close) | (with_reducible ((with_reducible show wpAny _ _ (call (Value.ref 213) _) _ _ _); k_dflt (refine draw_u (by k_asm) (by k_asm) (by k_asm) (by k_asm) (by k_asm) (by first | exact rfl | assumption) (by k_updF) (by assumption) (by assumption) (by (first | lia | omega)) (by (first | lia | omega)) (by (first | lia | omega)) (by (first | lia | omega)) (by first | assumption | (show @Ne Nat _ _; k_ne)) (by ktr_room) (by ktr_units) (by lcg_sub) ?_); intro rz9 oz9 hz9 tkz9 Fz9 Nz9 Pz9; obtain ⟨vz9, tz9, uz9, ez9, hv8, hvz9, fz9⟩ := Pz9; subst ez9; subst fz9; (try dsimp only at Nz9); (try dsimp only))) | (with_reducible ((with_reducible show wpAny _ _ (subscriptTail (PySem.Expr.List _ _) _ (Value.ref _) (Value.int _ _)) _ _ _); (rename News _ _ _ _ => lN'); k_dflt (refine menu_ints (by exact ⟨_, (lN' _ (.head _)).1, rfl, _, rfl⟩) (by repeat constructor) (by (first | lia | omega)) (by simp only [List.length_cons, List.length_nil]; (first | lia | omega)) (by (first | lia | omega)) ?_ (hs := by rfl)); intro xz9 tz9 hxz9)) | (with_reducible ((with_reducible refine execs_tk ?_); intro _; (try dsimp only); (try k_fold))) | walk1 | (dsimp only; walk1) | (leave1; (try dsimp only))))
  exact many_end (by assumption) (by assumption) rfl rfl rfl (by assumption) (by assumption) (by assumption) (by k_mem) (by k_mem) (by k_mem) (by kcf_all)
end
theorem off_N8 : True := by w_top off; trivial
/-- behind the law's row of mult, shift and gone -/
inductive MoreP (c3 c4 c5 : Addr) (fv mv : Value) (rest : Led) (m : PySem.Str → Option Value) (news : Led) : Prop
  | mk (o3' o4' o5' mult t5 shift t4 gone t3) (q1 : news = (c3, o3') :: (c4, o4') :: (c5, o5') :: rest) (q2 : m "iface" = some fv) (q3 : m "many" = some mv) (q4 : o5'.data = .cell (some (.int mult t5))) (q5 : o4'.data = .cell (some (.int shift t4))) (q6 : o3'.data = .cell (some (.int gone t3))) (q7 : 0 ≤ mult) (q8 : mult ≤ 1009) (q9 : 0 ≤ shift) (q10 : shift ≤ 1009) (q11 : gone ∈ [0, 3]) : MoreP c3 c4 c5 fv mv rest m news
theorem more_end {g h' : Heap} {L c3 c4 c5 : Addr} {fv mv : Value} {o3' o4' o5' : Obj} {rest all : Led} {m' : PySem.Str → Option Value} {mult shift gone : Int} {t3 t4 t5 : Tok} {s₁ : Shared} {tk : Nat} (F : Fr g L h' m') (N : News g L h' all) (m2 : m' "iface" = some fv) (m3 : m' "many" = some mv)
    (k1 : (c3, o3') ∈ all) (k2 : (c4, o4') ∈ all) (k3 : (c5, o5') ∈ all) (k4 : ∀ p ∈ rest, p ∈ all)
    (q5 : o5'.data = .cell (some (.int mult t5))) (q4 : o4'.data = .cell (some (.int shift t4))) (q3 : o3'.data = .cell (some (.int gone t3))) (b1 : 0 ≤ mult) (b2 : mult ≤ 1009) (b3 : 0 ≤ shift) (b4 : shift ≤ 1009) (hg : gone ∈ [0, 3]) :
    CutEnd g L s₁ (MoreP c3 c4 c5 fv mv rest) .next { s₁ with heap := h', toks := tk } :=
  CutEnd.intro _ ⟨o3', o4', o5', mult, t5, shift, t4, gone, t3, rfl, m2, m3, q5, q4, q3, b1, b2, b3, b4, hg⟩ F N (List.forall_mem_cons.mpr ⟨k1, List.forall_mem_cons.mpr ⟨k2, List.forall_mem_cons.mpr ⟨k3, k4⟩⟩⟩)
set_option maxHeartbeats 4000000 in
theorem more_seg {w : World} {c1 c2 c3 c4 c5 c6 c7 pool cells : Addr} {vs : List Value} {ns : List Int} {sp : Int} {t : Tok} {n n' : Nat} {fv mv : Value} {o3 o4 o5 : Obj} {cv3 cv4 cv5 : Option Value} {rest : Led} (hi : IntsAre vs ns) (hn : ns.length ≤ 63) (hs0 : 0 ≤ sp) (hs1 : sp ≤ 100) (ne6 : NeA cells pool)
    (x3 : NeA pool c3) (y3 : NeA cells c3) (x4 : NeA pool c4) (y4 : NeA cells c4) (x5 : NeA pool c5) (y5 : NeA cells c5) (p0 : ∀ p ∈ rest, p.1 ≠ pool) (p3 : ∀ p ∈ rest, p.1 ≠ c3) (p4 : ∀ p ∈ rest, p.1 ≠ c4) (p5 : ∀ p ∈ rest, p.1 ≠ c5) (q3 : o3.data = .cell cv3) (q4 : o4.data = .cell cv4) (q5 : o5.data = .cell cv5) :
    LawSeg w c1 c2 c3 c4 c5 c6 c7 [lawRow 8] (fun m news => news = (pool, listOf #[.ref cells, .int sp t] n) :: (cells, listOf vs.toArray n') :: (c3, o3) :: (c4, o4) :: (c5, o5) :: rest ∧ m "pool" = some (.ref pool) ∧ m "iface" = some fv ∧ m "many" = some mv)
      (MoreP c3 c4 c5 fv mv rest) := by
  unfold LawSeg
  conv in (occs := *) lawSc => all_goals whnf
  conv in lawRow _ => whnf
  intro h₀ base L fa cd dp un gd outer A₀ m mean mg mb s news B F9 X N9 T hdp hun lts M9
  obtain ⟨e9, m1, m2, m3⟩ := M9
  subst e9
  replace F9 := fr_name (fr_name2 F9 m1 m2 (by decide)) (x := "many") ((if_neg (fun h => absurd (ofs_inj h) (by decide))).trans ((if_neg (fun h => absurd (ofs_inj h) (by decide))).trans m3))
  unfold NeA at ne6 x3 y3 x4 y4 x5 y5
  clear m1 m2 m3
  (try k_fold)
  (repeat' (first | (k_unfold; (try dsimp only)) | (k_end; wrow_close) | (with_reducible ((with_reducible show wpAny _ _ (call (Value.ref 213) _) _ _ _); k_dflt (refine draw_u (by k_asm) (by k_asm) (by k_asm) (by k_asm) (by k_asm) (by first | exact rfl | assumption) (by k_updF) (by assumption) (by assumption) (by (first | lia | omega)) (by (first | lia | omega)) (by (first | lia | omega)) (by (first | lia | omega)) (by first | assumption | (show @Ne Nat _ _; k_ne)) (by ktr_room) (by ktr_units) (by lcg_sub) ?_); intro rz9 oz9 hz9 tkz9 Fz9 Nz9 Pz9; obtain ⟨vz9, tz9, uz9, ez9, hv8, hvz9, fz9⟩ := Pz9; subst ez9; subst fz9; (try dsimp only at Nz9); (try dsimp only))) | (with_reducible ((with_reducible show wpAny _ _ (subscriptTail (PySem.Expr.List _ _) _ (Value.ref _) (Value.int _ _)) _ _ _); (rename News _ _ _ _ => lN'); k_dflt (refine menu_ints (by exact ⟨_, (lN' _ (.head _)).1, rfl, _, rfl⟩) (by repeat constructor) (by (first | lia | omega)) (by simp only [List.length_cons, List.length_nil]; (first | lia | omega)) (by (first | lia | omega)) ?_ (hs := by rfl)); intro xz9 tz9 hxz9)) | (with_reducible ((with_reducible refine execs_tk ?_); intro _; (try dsimp only); (try k_fold))) | walk1 | (dsimp only; walk1) | (leave1; (try dsimp only))))
  exact more_end (by assumption) (by assumption) rfl rfl (by k_mem) (by k_mem) (by k_mem) (by kcf_all) (by assumption) (by assumption) (by assumption) (by (first | lia | omega)) (by (first | lia | omega)) (by (first | lia | omega)) (by (first | lia | omega)) (by assumption)
section
theorem off_N9 : True := by w_top off; trivial
local macro_rules | `(tactic| walk_at "none 0") => `(tactic| fail)
set_option maxHeartbeats 4000000 in
theorem ids_seg {w : World} {c1 c2 c3 c4 c5 c6 c7 : Addr} {K : Nat} {fv : Value} {tm t5 t4 t6 : Tok} {o2 o4 o5 o6 : Obj} {mult shift wide : Int} {cv2 : Option Value} {rest : Led} (hK : K ≤ 720)
    (q2 : o2.data = .cell cv2) (q4 : o4.data = .cell (some (.int shift t4))) (q5 : o5.data = .cell (some (.int mult t5))) (q6 : o6.data = .cell (some (.int wide t6))) (hw : 2 ≤ wide ∧ wide ≤ 1009) (b1 : 0 ≤ mult ∧ mult ≤ 1009) (b2 : 0 ≤ shift ∧ shift ≤ 1009) (p2 : ∀ p ∈ rest, p.1 ≠ c2) :
    LawSeg w c1 c2 c3 c4 c5 c6 c7 [lawRow 9] (fun m news => news = (c2, o2) :: (c4, o4) :: (c5, o5) :: (c6, o6) :: rest ∧ m "iface" = some fv ∧ m "many" = some (.int (K : Int) tm))
      (fun m news => ∃ o2' I vs ns c, news = (I, listOf (List.toArray vs) c) :: (c2, o2') :: rest ∧ o2'.data = .cell (some (.ref I)) ∧ m "iface" = some fv ∧ m "many" = some (.int (K : Int) tm) ∧ IntsAre vs ns ∧ ns.length = K ∧ NeA I c2 ∧ ∀ p ∈ rest, p.1 ≠ I) := by
  unfold LawSeg
  conv in (occs := *) lawSc => all_goals whnf
  conv in lawRow _ => whnf
  intro h₀ base L fa cd dp un gd outer A₀ m mean mg mb s news B F9 X N9 T hdp hun lts M9
  obtain ⟨e9, m1, m2⟩ := M9
  subst e9
  replace F9 := fr_name2 F9 m1 m2 (by decide)
  clear m1 m2
  (try k_fold)
  (repeat' (first | (k_unfold; (try dsimp only)) | (k_end; wrow_close) | (with_reducible ((with_reducible show wpAny _ _ (eval (PySem.Expr.ListComp ..) _) _ _ _); (refine stop_at ?_))) | (with_reducible ((with_reducible show LCg.CompSrc ..); (refine stop_at ?_))) | (with_reducible ((with_reducible show wpAny _ _ (call (Value.type "range") _) _ _ _); ((rename Fr _ _ _ _ => F'); (rename News _ _ _ _ => N'); (with_unfolding_all refine range1_rows F' N' ?_; intro _ _ _ _ _ _ _ _ _)))) | (with_reducible ((with_reducible refine execs_tk ?_); intro _; (try dsimp only); (try k_fold))) | walk1 | (dsimp only; walk1) | (leave1; (try dsimp only))))
  refine stop_out ?_
  k_dflt (refine LCg.ListComp_U (cl := [(Str.ofString "wide", c6), (Str.ofString "shift", c4), (Str.ofString "mult", c5)]) (F₀ := by k_asm) (by kernel_rfl) (by decide) (by rfl) (by decide) (by rfl) ?_)
  (try dsimp only)
  (repeat' (first | (k_unfold; (try dsimp only)) | (k_end; wrow_close) | (with_reducible ((with_reducible show wpAny _ _ (eval (PySem.Expr.ListComp ..) _) _ _ _); (refine stop_at ?_))) | (with_reducible ((with_reducible show LCg.CompSrc ..); (refine stop_at ?_))) | (with_reducible ((with_reducible show wpAny _ _ (call (Value.type "range") _) _ _ _); ((rename Fr _ _ _ _ => F'); (rename News _ _ _ _ => N'); (with_unfolding_all refine range1_rows F' N' ?_; intro _ _ _ _ _ _ _ _ _)))) | (with_reducible ((with_reducible refine execs_tk ?_); intro _; (try dsimp only); (try k_fold))) | walk1 | (dsimp only; walk1) | (leave1; (try dsimp only))))
  refine stop_out ?_
  refine LCg.CompSrc.range (n := K) (by rfl) (by k_asm) (by k_asm) (by assumption) (small_one (by (first | lia | omega)) (by (first | lia | omega)) (by (first | lia | omega)) (by (first | lia | omega))) (by rw [rangeSize_nat]; (first | lia | omega)) (by rw [sizeLine_eq]; (first | lia | omega)) ?_
  intro g9
  refine comp_ind (fun i ys news => news = (c2, o2) :: (c4, o4) :: (c5, o5) :: (c6, o6) :: rest ∧ ∃ ns, IntsAre ys ns ∧ ns.length = i) ?_ ?_ _ _ _ _ (Nat.zero_add _) ⟨rfl, [], .nil, rfl⟩
  · intro ys5 news5 h5
    obtain ⟨e5, ns5, i5, l5⟩ := h5
    subst e5
    (repeat' (first | (k_unfold; (try dsimp only)) | (k_end; wrow_close) | (with_reducible ((with_reducible show wpAny _ _ (eval (PySem.Expr.ListComp ..) _) _ _ _); (refine stop_at ?_))) | (with_reducible ((with_reducible show LCg.CompSrc ..); (refine stop_at ?_))) | (with_reducible ((with_reducible show wpAny _ _ (call (Value.type "range") _) _ _ _); ((rename Fr _ _ _ _ => F'); (rename News _ _ _ _ => N'); (with_unfolding_all refine range1_rows F' N' ?_; intro _ _ _ _ _ _ _ _ _)))) | (with_reducible ((with_reducible refine execs_tk ?_); intro _; (try dsimp only); (try k_fold))) | walk1 | (dsimp only; walk1) | (leave1; (try dsimp only))))
    rename_i D9 h9 tk9 od9 h8 o8 F8 N8 d8
    exact CutEnd.intro _ ⟨o8, D9, ys5, ns5, _, rfl, d8, rfl, rfl, i5, l5, Ne.symm od9.1, off1_mem od9.2.2.2.2⟩ F8 N8 (List.forall_mem_cons.mpr ⟨List.Mem.head _, List.forall_mem_cons.mpr ⟨by k_mem, by kcf_all⟩⟩)
  · intro i5 ys5 news5 hi5 h5 v5 I5 oI5 C5 oC5 D5 m5 hp5 tk5 E5 hP5 hO5 hm5 F5 N5 off5 ne5
    obtain ⟨e5, ns5, i6, l6⟩ := h5
    subst e5
    obtain ⟨t9, e9⟩ := hP5
    subst e9
    (repeat' (first | (k_unfold; (try dsimp only)) | (k_end; wrow_close) | (with_reducible ((with_reducible show wpAny _ _ (eval (PySem.Expr.ListComp ..) _) _ _ _); (refine stop_at ?_))) | (with_reducible ((with_reducible show LCg.CompSrc ..); (refine stop_at ?_))) | (with_reducible ((with_reducible show wpAny _ _ (call (Value.type "range") _) _ _ _); ((rename Fr _ _ _ _ => F'); (rename News _ _ _ _ => N'); (with_unfolding_all refine range1_rows F' N' ?_; intro _ _ _ _ _ _ _ _ _)))) | (with_reducible ((with_reducible refine execs_tk ?_); intro _; (try dsimp only); (try k_fold))) | walk1 | (dsimp only; walk1) | (leave1; (try dsimp only))))
    exact LCg.CompEnd.intro (by assumption) (by assumption) _ (fun p hp => hp) off5 trivial ⟨rfl, _, i6.append (.cons _ _ .nil), by rw [List.length_append, l6]; rfl⟩
end
theorem off_N10 : True := by w_top off; trivial
/-- a list of bools -/
def BoolsAre (vs : List Value) (bs : List Bool) : Prop := vs = bs.map Value.bool
set_option maxHeartbeats 4000000 in
theorem heard_seg {w : World} {c1 c2 c3 c4 c5 c6 c7 : Addr} {K : Nat} {fv : Value} {tm t3 : Tok} {o1 o3 : Obj} {gone : Int} {cv1 : Option Value} {rest : Led} (hK : K ≤ 720)
    (q1 : o1.data = .cell cv1) (q3 : o3.data = .cell (some (.int gone t3))) (hg : gone = 0 ∨ gone = 3) (p1 : ∀ p ∈ rest, p.1 ≠ c1) :
    LawSeg w c1 c2 c3 c4 c5 c6 c7 [lawRow 10] (fun m news => news = (c1, o1) :: (c3, o3) :: rest ∧ m "iface" = some fv ∧ m "many" = some (.int (K : Int) tm))
      (fun m news => ∃ (o1' : Obj) (I : Addr) (bs : List Bool) (c : Nat), news = (I, listOf (List.toArray (bs.map Value.bool)) c) :: (c1, o1') :: rest ∧ o1'.data = .cell (some (.ref I)) ∧ m "iface" = some fv ∧ m "many" = some (.int (K : Int) tm) ∧ bs.length = K ∧ NeA I c1 ∧ ∀ p ∈ rest, p.1 ≠ I) := by
  unfold LawSeg
  conv in (occs := *) lawSc => all_goals whnf
  conv in lawRow _ => whnf
  intro h₀ base L fa cd dp un gd outer A₀ m mean mg mb s news B F9 X N9 T hdp hun lts M9
  obtain ⟨e9, m1, m2⟩ := M9
  subst e9
  replace F9 := fr_name2 F9 m1 m2 (by decide)
  clear m1 m2
  (try k_fold)
  (repeat' (first | (k_unfold; (try dsimp only)) | (k_end; wrow_close) | (with_reducible ((with_reducible show wpAny _ _ (eval (PySem.Expr.ListComp ..) _) _ _ _); (refine stop_at ?_))) | (with_reducible ((with_reducible show LCg.CompSrc ..); (refine stop_at ?_))) | (with_reducible ((with_reducible show wpAny _ _ (call (Value.type "range") _) _ _ _); ((rename Fr _ _ _ _ => F'); (rename News _ _ _ _ => N'); (with_unfolding_all refine range1_rows F' N' ?_; intro _ _ _ _ _ _ _ _ _)))) | (with_reducible ((with_reducible refine execs_tk ?_); intro _; (try dsimp only); (try k_fold))) | walk1 | (dsimp only; walk1) | (leave1; (try dsimp only))))
  refine stop_out ?_
  k_dflt (refine LCg.ListComp_U (cl := [(Str.ofString "gone", c3)]) (F₀ := by k_asm) (by kernel_rfl) (by decide) (by rfl) (by decide) (by rfl) ?_)
  (try dsimp only)
  (repeat' (first | (k_unfold; (try dsimp only)) | (k_end; wrow_close) | (with_reducible ((with_reducible show wpAny _ _ (eval (PySem.Expr.ListComp ..) _) _ _ _); (refine stop_at ?_))) | (with_reducible ((with_reducible show LCg.CompSrc ..); (refine stop_at ?_))) | (with_reducible ((with_reducible show wpAny _ _ (call (Value.type "range") _) _ _ _); ((rename Fr _ _ _ _ => F'); (rename News _ _ _ _ => N'); (with_unfolding_all refine range1_rows F' N' ?_; intro _ _ _ _ _ _ _ _ _)))) | (with_reducible ((with_reducible refine execs_tk ?_); intro _; (try dsimp only); (try k_fold))) | walk1 | (dsimp only; walk1) | (leave1; (try dsimp only))))
  refine stop_out ?_
  refine LCg.CompSrc.range (n := K) (by rfl) (by k_asm) (by k_asm) (by assumption) (small_one (by (first | lia | omega)) (by (first | lia | omega)) (by (first | lia | omega)) (by (first | lia | omega))) (by rw [rangeSize_nat]; (first | lia | omega)) (by rw [sizeLine_eq]; (first | lia | omega)) ?_
  intro g9
  refine comp_ind (fun i ys news => news = (c1, o1) :: (c3, o3) :: rest ∧ ∃ bs : List Bool, ys = bs.map Value.bool ∧ bs.length = i) ?_ ?_ _ _ _ _ (Nat.zero_add _) ⟨rfl, [], rfl, rfl⟩
  · intro ys5 news5 h5
    obtain ⟨e5, bs5, i5, l5⟩ := h5
    subst e5; subst i5
    have lys : (bs5.map Value.bool).length ≤ 720 := by rw [List.length_map]; (first | lia | omega)
    (repeat' (first | (k_unfold; (try dsimp only)) | (k_end; wrow_close) | (with_reducible ((with_reducible show wpAny _ _ (eval (PySem.Expr.ListComp ..) _) _ _ _); (refine stop_at ?_))) | (with_reducible ((with_reducible show LCg.CompSrc ..); (refine stop_at ?_))) | (with_reducible ((with_reducible show wpAny _ _ (call (Value.type "range") _) _ _ _); ((rename Fr _ _ _ _ => F'); (rename News _ _ _ _ => N'); (with_unfolding_all refine range1_rows F' N' ?_; intro _ _ _ _ _ _ _ _ _)))) | (with_reducible ((with_reducible refine execs_tk ?_); intro _; (try dsimp only); (try k_fold))) | walk1 | (dsimp only; walk1) | (leave1; (try dsimp only))))
    rename_i D9 h9 tk9 od9 h8 o8 F8 N8 d8
    exact CutEnd.intro _ ⟨o8, D9, bs5, _, rfl, d8, rfl, rfl, l5, Ne.symm od9.1, off1_mem od9.2.2⟩ F8 N8 (List.forall_mem_cons.mpr ⟨List.Mem.head _, List.forall_mem_cons.mpr ⟨by k_mem, by kcf_all⟩⟩)
  · intro i5 ys5 news5 hi5 h5 v5 I5 oI5 C5 oC5 D5 m5 hp5 tk5 E5 hP5 hO5 hm5 F5 N5 off5 ne5
    obtain ⟨e5, bs5, i6, l6⟩ := h5
    subst e5; subst i6
    obtain ⟨t9, e9⟩ := hP5
    subst e9
    rcases hg with rfl | rfl
    · (repeat' (first | (k_unfold; (try dsimp only)) | (k_end; wrow_close) | (with_reducible ((with_reducible show wpAny _ _ (eval (PySem.Expr.ListComp ..) _) _ _ _); (refine stop_at ?_))) | (with_reducible ((with_reducible show LCg.CompSrc ..); (refine stop_at ?_))) | (with_reducible ((with_reducible show wpAny _ _ (call (Value.type "range") _) _ _ _); ((rename Fr _ _ _ _ => F'); (rename News _ _ _ _ => N'); (with_unfolding_all refine range1_rows F' N' ?_; intro _ _ _ _ _ _ _ _ _)))) | (with_reducible ((with_reducible refine execs_tk ?_); intro _; (try dsimp only); (try k_fold))) | walk1 | (dsimp only; walk1) | (leave1; (try dsimp only))))
      exact LCg.CompEnd.intro (by assumption) (by assumption) _ (fun p hp => hp) off5 trivial ⟨rfl, bs5 ++ [_], by rw [List.map_append]; rfl, by rw [List.length_append, l6]; rfl⟩
    · (repeat' (first | (k_unfold; (try dsimp only)) | (k_end; wrow_close) | (with_reducible ((with_reducible show wpAny _ _ (eval (PySem.Expr.ListComp ..) _) _ _ _); (refine stop_at ?_))) | (with_reducible ((with_reducible show LCg.CompSrc ..); (refine stop_at ?_))) | (with_reducible ((with_reducible show wpAny _ _ (call (Value.type "range") _) _ _ _); ((rename Fr _ _ _ _ => F'); (rename News _ _ _ _ => N'); (with_unfolding_all refine range1_rows F' N' ?_; intro _ _ _ _ _ _ _ _ _)))) | (with_reducible ((with_reducible refine execs_tk ?_); intro _; (try dsimp only); (try k_fold))) | walk1 | (dsimp only; walk1) | (leave1; (try dsimp only))))
      exact LCg.CompEnd.intro (by assumption) (by assumption) _ (fun p hp => hp) off5 trivial ⟨rfl, bs5 ++ [_], by rw [List.map_append]; rfl, by rw [List.length_append, l6]; rfl⟩
section
theorem off_N11 : True := by w_top off; trivial
local macro_rules | `(tactic| walk_at "none 0") => `(tactic| fail)
theorem zero_nat (i : Nat) : (0 + (i : Int)).toNat = i := by (first | lia | omega)
/-- between the turns of the comprehension of neighbours -/
inductive TurnNb (w : World) (base : Led) (ns : List Int) (bs : List Bool) (i : Nat) (ys : List Value) (news : Led) : Prop
  | mk (ds) (q1 : news = base ++ ds) (q2 : HbsAt w ds ys ((ns.zip bs).take i)) (q3 : Off ds base) : TurnNb w base ns bs i ys news
theorem ne4 {a b c e D : Addr} {oa ob oc oe : Obj} (h1 : @Ne Nat a D) (h2 : @Ne Nat b D) (h3 : @Ne Nat c D) (h4 : @Ne Nat e D) : ∀ q ∈ [(a, oa), (b, ob), (c, oc), (e, oe)], q.1 ≠ D :=
  List.forall_mem_cons.mpr ⟨h1, List.forall_mem_cons.mpr ⟨h2, List.forall_mem_cons.mpr ⟨h3, List.forall_mem_cons.mpr ⟨h4, List.forall_mem_nil _⟩⟩⟩⟩
/-- behind the law's row of neighbours -/
inductive NbsP (w : World) (d Ii Hh c1 c2 : Addr) (K ci ch : Nat) (tm : Tok) (o1 o2 : Obj) (idv : List Value) (ns : List Int) (bs : List Bool) (kd st : PySem.Str) (own : Int) (de op : Value) (m : PySem.Str → Option Value) (news : Led) : Prop
  | mk (o' NB ds ws k u1 u2 u3 u4 u5 u6 u7 u8 u9 u10 u11 u12 u13 u14 u15 u16) (q1 : news = ((d, o') :: (NB, listOf (List.toArray ws) k) :: ds) ++ [(Ii, listOf idv.toArray ci), (Hh, listOf (bs.map Value.bool).toArray ch), (c1, o1), (c2, o2)]) (q2 : m "iface" = some (.ref d)) (q3 : m "many" = some (.int (K : Int) tm)) (q4 : o'.IsDictOf (PySem.strKind PR w) (ifKvs kd st own 0 0 0 0 NB .none .none de op u1 u2 u3 u4 u5 u6 u7 u8 u9 u10 u11 u12 u13 u14 u15 u16)) (q5 : HbsAt w ds ws (ns.zip bs)) (q6 : ws.length = K) (q7 : NeA d NB) (q8 : (∀ p ∈ ds, p.1 ≠ d)) (q9 : (∀ p ∈ ds, p.1 ≠ NB)) (q10 : Off ((d, o') :: (NB, listOf ws.toArray k) :: ds) [(Ii, listOf idv.toArray ci), (Hh, listOf (bs.map Value.bool).toArray ch), (c1, o1), (c2, o2)]) : NbsP w d Ii Hh c1 c2 K ci ch tm o1 o2 idv ns bs kd st own de op m news
theorem nbs_end {w : World} {d Ii Hh c1 c2 : Addr} {K ci ch : Nat} {tm : Tok} {o1 o2 : Obj} {idv : List Value} {ns : List Int} {bs : List Bool} {kd st : PySem.Str} {own : Int} {de op : Value} {o' : Obj} {NB : Addr} {ds all : Led} {ws : List Value} {k : Nat} {u1 u2 u3 u4 u5 u6 u7 u8 u9 u10 u11 u12 u13 u14 u15 u16 : Tok} {g h' : Heap} {L : Addr} {m' : PySem.Str → Option Value} {s₁ : Shared} {tk : Nat} (F : Fr g L h' m') (N : News g L h' all) (m1 : m' "iface" = some (.ref d)) (m2 : m' "many" = some (.int (K : Int) tm))
    (hd : o'.IsDictOf (PySem.strKind PR w) (ifKvs kd st own 0 0 0 0 NB .none .none de op u1 u2 u3 u4 u5 u6 u7 u8 u9 u10 u11 u12 u13 u14 u15 u16)) (hb : HbsAt w ds ws (ns.zip bs)) (hl : ws.length = K) (x : NeA d NB) (p5 : ∀ p ∈ ds, p.1 ≠ d) (p6 : ∀ p ∈ ds, p.1 ≠ NB)
    (off : Off ((d, o') :: (NB, listOf ws.toArray k) :: ds) [(Ii, listOf idv.toArray ci), (Hh, listOf (bs.map Value.bool).toArray ch), (c1, o1), (c2, o2)]) (sub : ∀ p ∈ ((d, o') :: (NB, listOf ws.toArray k) :: ds) ++ [(Ii, listOf idv.toArray ci), (Hh, listOf (bs.map Value.bool).toArray ch), (c1, o1), (c2, o2)], p ∈ all) :
    CutEnd g L s₁ (NbsP w d Ii Hh c1 c2 K ci ch tm o1 o2 idv ns bs kd st own de op) .next { s₁ with heap := h', toks := tk } :=
  CutEnd.intro _ ⟨o', NB, ds, ws, k, u1, u2, u3, u4, u5, u6, u7, u8, u9, u10, u11, u12, u13, u14, u15, u16, rfl, m1, m2, hd, hb, hl, x, p5, p6, off⟩ F N sub
theorem hbs_snoc {w : World} {ds : Led} {ys : List Value} {ns : List Int} {bs : List Bool} {i : Nat} {r : Int} {b : Bool} {d9 : Addr} {o9 : Obj} {t1 t2 : Tok} (h : HbsAt w ds ys ((ns.zip bs).take i)) (hr : ns[i]? = some r) (hb : bs[i]? = some b)
    (hd : o9.IsDictOf (PySem.strKind PR w) [("router", .int r t1), ("state", .str (Str.ofString (if b then "init" else "down")) t2)]) : HbsAt w ((d9, o9) :: ds) (ys ++ [.ref d9]) ((ns.zip bs).take (i + 1)) := by
  have hz : (ns.zip bs)[i]? = some (r, b) := List.getElem?_zip_eq_some.mpr ⟨hr, hb⟩
  have hlt : i < (ns.zip bs).length := (List.getElem?_eq_some_iff.mp hz).1
  have hl : ys.length = i := by rw [h.1, List.length_take]; (first | lia | omega)
  have e : (ns.zip bs).take (i + 1) = (ns.zip bs).take i ++ [(r, b)] := by rw [List.take_add_one, hz]; rfl
  rw [e]
  refine ⟨by rw [List.length_append, List.length_append, h.1]; rfl, fun j r' b' hj => ?_⟩
  have hl2 : ((ns.zip bs).take i).length = i := by rw [← h.1, hl]
  by_cases hji : j < i
  · rw [List.getElem?_append_left (by (first | lia | omega))] at hj
    obtain ⟨v, hv, p, o, s1, s2, e1, e2, e3⟩ := h.2 j r' b' hj
    exact ⟨v, by rw [List.getElem?_append_left (by (first | lia | omega))]; exact hv, p, o, s1, s2, e1, .tail _ e2, e3⟩
  · by_cases hj2 : j = i
    · subst hj2
      rw [List.getElem?_append_right (by (first | lia | omega)), hl2, Nat.sub_self] at hj
      simp only [List.getElem?_cons_zero, Option.some.injEq, Prod.mk.injEq] at hj
      obtain ⟨rfl, rfl⟩ := hj
      exact ⟨.ref d9, by rw [List.getElem?_append_right (by (first | lia | omega)), hl, Nat.sub_self]; rfl, d9, o9, t1, t2, rfl, .head _, hd⟩
    · rw [List.getElem?_eq_none (by rw [List.length_append, hl2]; simp; (first | lia | omega))] at hj
      cases hj
theorem nb_turn {w : World} {base ds : Led} {ys : List Value} {ns : List Int} {bs : List Bool} {i : Nat} {r : Int} {b : Bool} {d9 : Addr} {o9 : Obj} {t1 t2 : Tok} (h : HbsAt w ds ys ((ns.zip bs).take i)) (ho : Off ds base) (hr : ns[i]? = some r) (hb : bs[i]? = some b)
    (hd : o9.IsDictOf (PySem.strKind PR w) [("router", .int r t1), ("state", .str (Str.ofString (if b then "init" else "down")) t2)]) (hn : ∀ q ∈ base, q.1 ≠ d9) : TurnNb w base ns bs (i + 1) (ys ++ [.ref d9]) (base ++ (d9, o9) :: ds) :=
  ⟨(d9, o9) :: ds, rfl, hbs_snoc h hr hb hd, Off.cons hn ho⟩
set_option maxHeartbeats 4000000 in
theorem nbs_seg {w : World} {c1 c2 c3 c4 c5 c6 c7 Ii Hh d nb : Addr} {K ci ch : Nat} {tm : Tok} {o o1 o2 : Obj} {idv : List Value} {ns : List Int} {bs : List Bool} {kd st : PySem.Str} {own : Int} {de op : Value} {t1 t2 t3 t4 t5 t6 t7 t8 t9 t10 t11 t12 t13 t14 t15 t16 : Tok} (hK : K ≤ 720)
    (hd : o.IsDictOf (PySem.strKind PR w) (ifKvs kd st own 0 0 0 0 nb .none .none de op t1 t2 t3 t4 t5 t6 t7 t8 t9 t10 t11 t12 t13 t14 t15 t16))
    (q1 : o1.data = .cell (some (.ref Hh))) (q2 : o2.data = .cell (some (.ref Ii))) (hi : IntsAre idv ns) (ln : ns.length = K) (lb : bs.length = K) (x1 : NeA d Ii) (x2 : NeA d Hh) (x3 : NeA d c1) (x4 : NeA d c2) :
    LawSeg w c1 c2 c3 c4 c5 c6 c7 [lawRow 11] (fun m news => news = [(Ii, listOf idv.toArray ci), (Hh, listOf (bs.map Value.bool).toArray ch), (c1, o1), (c2, o2), (d, o)] ∧ m "iface" = some (.ref d) ∧ m "many" = some (.int (K : Int) tm))
      (NbsP w d Ii Hh c1 c2 K ci ch tm o1 o2 idv ns bs kd st own de op) := by
  unfold LawSeg
  conv in (occs := *) lawSc => all_goals whnf
  conv in lawRow _ => whnf
  intro h₀ base L fa cd dp un gd outer A₀ m mean mg mb s news B F9 X N9 T hdp hun lts M9
  obtain ⟨e9, m1, m2⟩ := M9
  subst e9
  replace F9 := fr_name2 F9 m1 m2 (by decide)
  unfold NeA at x1 x2 x3 x4
  clear m1 m2
  have lv := hi.length
  (try k_fold)
  (repeat' (first | (k_unfold; (try dsimp only)) | (k_end; wrow_close) | (with_reducible ((with_reducible show wpAny _ _ (eval (PySem.Expr.ListComp ..) _) _ _ _); (refine stop_at ?_))) | (with_reducible ((with_reducible show LCg.CompSrc ..); (refine stop_at ?_))) | (with_reducible ((with_reducible show wpAny _ _ (call (Value.type "range") _) _ _ _); ((rename Fr _ _ _ _ => F'); (rename News _ _ _ _ => N'); (with_unfolding_all refine range1_rows F' N' ?_; intro _ _ _ _ _ _ _ _ _)))) | (with_reducible ((with_reducible show wpAny _ _ (subscriptTail _ _ (Value.ref _) (Value.int _ _)) _ _ _); k_dflt (refine item_listL (News.isList (by k_asm) (by k_mem)) (by (first | lia | omega)) (by (first | lia | omega)) (by rw [zero_nat]; assumption) ?_ (hs := by rfl) (hg := by intro _; rfl)))) | (with_reducible ((with_reducible show wpAny _ _ (subscriptTail _ _ (Value.ref _) (Value.int _ _)) _ _ _); k_dflt (refine item_listL (News.isList (by k_asm) (by k_mem)) (by (first | lia | omega)) (by (first | lia | omega)) (by rw [zero_nat]; assumption) ?_ (hs := by rfl) (hg := by intro _; rfl)))) | (with_reducible ((with_reducible show wpAny _ _ (subscriptTail (PySem.Expr.List _ _) _ (Value.ref _) (Value.bool _)) _ _ _); (rename News _ _ _ _ => lN'); k_dflt (refine menu_bool (by exact ⟨_, (lN' _ (.head _)).1, rfl, _, rfl⟩) ?_ (hs := by rfl)); (try simp only [Bool.false_eq_true, if_false, if_true]))) | (with_reducible ((with_reducible refine execs_tk ?_); intro _; (try dsimp only); (try k_fold))) | (with_reducible ((with_reducible show wpAny _ _ (eval (PySem.Expr.Dict ..) _) _ _ _); refine kdn_str (by k_dflt rfl) (by k_asm) (by first | k_asm | exact News.nil) (by exact Top.nolimit (by k_asm)) (by k_dflt rfl) (by k_dflt rfl) (by exact List.cons_ne_nil _ _) (by k_dflt (exact Nat.le_of_ble_eq_true rfl)) ?_; intro d' h' o' F' N' l1 lo' hd'; (try k_lt l1))) | (with_reducible ((with_reducible show KdnMade ..); k_dflt (refine kdn_made_str (by k_asm) (by k_asm) (by k_updF) (by k_asm) (by rfl) (by exact of_decide_eq_true (by first | rfl | kernel_rfl!)) ?_; intro h' o' F' N' hd'); (try dsimp only [strPairs] at hd'); (try dsimp only at N'))) | (with_reducible ((with_reducible show wpAny _ _ (setItem (Value.ref _) (Value.str _ _) _) _ _ _); k_dflt (refine set_s (knd := PySem.strKind _ _) (by k_asm) (by k_asm) (by k_updF) (by k_asm) (strKind_is _ _ _ _) (by exact rfl) ?_); intro h' o' F' N' hd'; (first | rw [st_state] at hd' | rw [st_dr] at hd' | rw [st_bdr] at hd' | rw [st_dr_address] at hd' | rw [st_bdr_address] at hd' | rw [st_neighbours] at hd' | rw [st_hello_at] at hd' | rw [st_wait_until] at hd' | rw [st_new] at hd' | rw [st_nb] at hd' | simp only [merged, List.foldl_cons, List.foldl_nil, stored, List.any_cons, List.any_nil, List.map_cons, List.map_nil, ofs_eq, String.reduceEq, decide_true, decide_false, Bool.or_true, Bool.true_or, Bool.false_or, Bool.or_false, Bool.false_eq_true, if_true, if_false, List.cons_append, List.nil_append] at hd' | skip); (try dsimp only at N'); (try dsimp only))) | (with_reducible ((with_reducible show wpAny _ _ (eval (PySem.Expr.Subscript (PySem.Expr.Name _ _) (PySem.Expr.Constant (Const.str _) _ _) _) (envOf _ _ _ _ _)) _ _ _); k_dflt (refine sub_key (by k_asm) (by exact rfl) (by k_asm) (by k_mem) (by k_asm) (by (first | with_reducible exact va_router | with_reducible exact va_state | with_reducible exact va_dr | with_reducible exact va_bdr | with_reducible exact va_dr_address | with_reducible exact va_bdr_address | with_reducible exact va_neighbours | with_reducible exact va_hello_at | with_reducible exact va_wait_until | with_reducible exact va_kind | with_reducible exact va_address | with_reducible exact va_priority | with_reducible exact va_hello | with_reducible exact va_dead | with_reducible exact va_options | with_reducible exact va_delay | with_reducible exact va_number | with_reducible exact va_area | with_reducible exact va_stub | with_reducible exact va_length | with_reducible exact va_cost | with_reducible exact va_resend | (repeat (first | exact valueAt_hit | refine (valueAt_miss (by decide)).trans ?_)))) ?_))) | walk1 | (dsimp only; walk1) | (leave1; (try dsimp only))))
  refine stop_out ?_
  k_dflt (refine LCg.ListComp_U (cl := [(Str.ofString "is_heard", c1), (Str.ofString "ids", c2)]) (F₀ := by k_asm) (by kernel_rfl) (by decide) (by rfl) (by decide) (by rfl) ?_)
  (try dsimp only)
  (repeat' (first | (k_unfold; (try dsimp only)) | (k_end; wrow_close) | (with_reducible ((with_reducible show wpAny _ _ (eval (PySem.Expr.ListComp ..) _) _ _ _); (refine stop_at ?_))) | (with_reducible ((with_reducible show LCg.CompSrc ..); (refine stop_at ?_))) | (with_reducible ((with_reducible show wpAny _ _ (call (Value.type "range") _) _ _ _); ((rename Fr _ _ _ _ => F'); (rename News _ _ _ _ => N'); (with_unfolding_all refine range1_rows F' N' ?_; intro _ _ _ _ _ _ _ _ _)))) | (with_reducible ((with_reducible show wpAny _ _ (subscriptTail _ _ (Value.ref _) (Value.int _ _)) _ _ _); k_dflt (refine item_listL (News.isList (by k_asm) (by k_mem)) (by (first | lia | omega)) (by (first | lia | omega)) (by rw [zero_nat]; assumption) ?_ (hs := by rfl) (hg := by intro _; rfl)))) | (with_reducible ((with_reducible show wpAny _ _ (subscriptTail _ _ (Value.ref _) (Value.int _ _)) _ _ _); k_dflt (refine item_listL (News.isList (by k_asm) (by k_mem)) (by (first | lia | omega)) (by (first | lia | omega)) (by rw [zero_nat]; assumption) ?_ (hs := by rfl) (hg := by intro _; rfl)))) | (with_reducible ((with_reducible show wpAny _ _ (subscriptTail (PySem.Expr.List _ _) _ (Value.ref _) (Value.bool _)) _ _ _); (rename News _ _ _ _ => lN'); k_dflt (refine menu_bool (by exact ⟨_, (lN' _ (.head _)).1, rfl, _, rfl⟩) ?_ (hs := by rfl)); (try simp only [Bool.false_eq_true, if_false, if_true]))) | (with_reducible ((with_reducible refine execs_tk ?_); intro _; (try dsimp only); (try k_fold))) | (with_reducible ((with_reducible show wpAny _ _ (eval (PySem.Expr.Dict ..) _) _ _ _); refine kdn_str (by k_dflt rfl) (by k_asm) (by first | k_asm | exact News.nil) (by exact Top.nolimit (by k_asm)) (by k_dflt rfl) (by k_dflt rfl) (by exact List.cons_ne_nil _ _) (by k_dflt (exact Nat.le_of_ble_eq_true rfl)) ?_; intro d' h' o' F' N' l1 lo' hd'; (try k_lt l1))) | (with_reducible ((with_reducible show KdnMade ..); k_dflt (refine kdn_made_str (by k_asm) (by k_asm) (by k_updF) (by k_asm) (by rfl) (by exact of_decide_eq_true (by first | rfl | kernel_rfl!)) ?_; intro h' o' F' N' hd'); (try dsimp only [strPairs] at hd'); (try dsimp only at N'))) | (with_reducible ((with_reducible show wpAny _ _ (setItem (Value.ref _) (Value.str _ _) _) _ _ _); k_dflt (refine set_s (knd := PySem.strKind _ _) (by k_asm) (by k_asm) (by k_updF) (by k_asm) (strKind_is _ _ _ _) (by exact rfl) ?_); intro h' o' F' N' hd'; (first | rw [st_state] at hd' | rw [st_dr] at hd' | rw [st_bdr] at hd' | rw [st_dr_address] at hd' | rw [st_bdr_address] at hd' | rw [st_neighbours] at hd' | rw [st_hello_at] at hd' | rw [st_wait_until] at hd' | rw [st_new] at hd' | rw [st_nb] at hd' | simp only [merged, List.foldl_cons, List.foldl_nil, stored, List.any_cons, List.any_nil, List.map_cons, List.map_nil, ofs_eq, String.reduceEq, decide_true, decide_false, Bool.or_true, Bool.true_or, Bool.false_or, Bool.or_false, Bool.false_eq_true, if_true, if_false, List.cons_append, List.nil_append] at hd' | skip); (try dsimp only at N'); (try dsimp only))) | (with_reducible ((with_reducible show wpAny _ _ (eval (PySem.Expr.Subscript (PySem.Expr.Name _ _) (PySem.Expr.Constant (Const.str _) _ _) _) (envOf _ _ _ _ _)) _ _ _); k_dflt (refine sub_key (by k_asm) (by exact rfl) (by k_asm) (by k_mem) (by k_asm) (by (first | with_reducible exact va_router | with_reducible exact va_state | with_reducible exact va_dr | with_reducible exact va_bdr | with_reducible exact va_dr_address | with_reducible exact va_bdr_address | with_reducible exact va_neighbours | with_reducible exact va_hello_at | with_reducible exact va_wait_until | with_reducible exact va_kind | with_reducible exact va_address | with_reducible exact va_priority | with_reducible exact va_hello | with_reducible exact va_dead | with_reducible exact va_options | with_reducible exact va_delay | with_reducible exact va_number | with_reducible exact va_area | with_reducible exact va_stub | with_reducible exact va_length | with_reducible exact va_cost | with_reducible exact va_resend | (repeat (first | exact valueAt_hit | refine (valueAt_miss (by decide)).trans ?_)))) ?_))) | walk1 | (dsimp only; walk1) | (leave1; (try dsimp only))))
  refine stop_out ?_
  refine LCg.CompSrc.range (n := K) (by rfl) (by k_asm) (by k_asm) (by assumption) (small_one (by (first | lia | omega)) (by (first | lia | omega)) (by (first | lia | omega)) (by (first | lia | omega))) (by rw [rangeSize_nat]; (first | lia | omega)) (by rw [sizeLine_eq]; (first | lia | omega)) ?_
  intro g9
  refine comp_ind (TurnNb w [(Ii, listOf idv.toArray ci), (Hh, listOf (bs.map Value.bool).toArray ch), (c1, o1), (c2, o2), (d, o)] ns bs) ?_ ?_ _ _ _ _ (Nat.zero_add _) ⟨[], rfl, ⟨rfl, fun i r b h => by simp at h⟩, fun _ h => nomatch h⟩
  · intro ys5 news5 h5
    obtain ⟨ds, e5, h7, h8⟩ := h5
    subst e5
    have l7 := h7.1
    rw [List.length_take, List.length_zip, ln, lb] at l7
    simp only [List.cons_append, List.nil_append]
    have p1 : ∀ p ∈ ds, p.1 ≠ Ii := fun p hp => h8 p hp _ (.head _)
    have p2 : ∀ p ∈ ds, p.1 ≠ Hh := fun p hp => h8 p hp _ (.tail _ (.head _))
    have p3 : ∀ p ∈ ds, p.1 ≠ c1 := fun p hp => h8 p hp _ (.tail _ (.tail _ (.head _)))
    have p4 : ∀ p ∈ ds, p.1 ≠ c2 := fun p hp => h8 p hp _ (.tail _ (.tail _ (.tail _ (.head _))))
    have p5 : ∀ p ∈ ds, p.1 ≠ d := fun p hp => h8 p hp _ (.tail _ (.tail _ (.tail _ (.tail _ (.head _)))))
    (repeat' (first | (k_unfold; (try dsimp only)) | (k_end; wrow_close) | (with_reducible ((with_reducible show wpAny _ _ (eval (PySem.Expr.ListComp ..) _) _ _ _); (refine stop_at ?_))) | (with_reducible ((with_reducible show LCg.CompSrc ..); (refine stop_at ?_))) | (with_reducible ((with_reducible show wpAny _ _ (call (Value.type "range") _) _ _ _); ((rename Fr _ _ _ _ => F'); (rename News _ _ _ _ => N'); (with_unfolding_all refine range1_rows F' N' ?_; intro _ _ _ _ _ _ _ _ _)))) | (with_reducible ((with_reducible show wpAny _ _ (subscriptTail _ _ (Value.ref _) (Value.int _ _)) _ _ _); k_dflt (refine item_listL (News.isList (by k_asm) (by k_mem)) (by (first | lia | omega)) (by (first | lia | omega)) (by rw [zero_nat]; assumption) ?_ (hs := by rfl) (hg := by intro _; rfl)))) | (with_reducible ((with_reducible show wpAny _ _ (subscriptTail _ _ (Value.ref _) (Value.int _ _)) _ _ _); k_dflt (refine item_listL (News.isList (by k_asm) (by k_mem)) (by (first | lia | omega)) (by (first | lia | omega)) (by rw [zero_nat]; assumption) ?_ (hs := by rfl) (hg := by intro _; rfl)))) | (with_reducible ((with_reducible show wpAny _ _ (subscriptTail (PySem.Expr.List _ _) _ (Value.ref _) (Value.bool _)) _ _ _); (rename News _ _ _ _ => lN'); k_dflt (refine menu_bool (by exact ⟨_, (lN' _ (.head _)).1, rfl, _, rfl⟩) ?_ (hs := by rfl)); (try simp only [Bool.false_eq_true, if_false, if_true]))) | (with_reducible ((with_reducible refine execs_tk ?_); intro _; (try dsimp only); (try k_fold))) | (with_reducible ((with_reducible show wpAny _ _ (eval (PySem.Expr.Dict ..) _) _ _ _); refine kdn_str (by k_dflt rfl) (by k_asm) (by first | k_asm | exact News.nil) (by exact Top.nolimit (by k_asm)) (by k_dflt rfl) (by k_dflt rfl) (by exact List.cons_ne_nil _ _) (by k_dflt (exact Nat.le_of_ble_eq_true rfl)) ?_; intro d' h' o' F' N' l1 lo' hd'; (try k_lt l1))) | (with_reducible ((with_reducible show KdnMade ..); k_dflt (refine kdn_made_str (by k_asm) (by k_asm) (by k_updF) (by k_asm) (by rfl) (by exact of_decide_eq_true (by first | rfl | kernel_rfl!)) ?_; intro h' o' F' N' hd'); (try dsimp only [strPairs] at hd'); (try dsimp only at N'))) | (with_reducible ((with_reducible show wpAny _ _ (setItem (Value.ref _) (Value.str _ _) _) _ _ _); k_dflt (refine set_s (knd := PySem.strKind _ _) (by k_asm) (by k_asm) (by k_updF) (by k_asm) (strKind_is _ _ _ _) (by exact rfl) ?_); intro h' o' F' N' hd'; (first | rw [st_state] at hd' | rw [st_dr] at hd' | rw [st_bdr] at hd' | rw [st_dr_address] at hd' | rw [st_bdr_address] at hd' | rw [st_neighbours] at hd' | rw [st_hello_at] at hd' | rw [st_wait_until] at hd' | rw [st_new] at hd' | rw [st_nb] at hd' | simp only [merged, List.foldl_cons, List.foldl_nil, stored, List.any_cons, List.any_nil, List.map_cons, List.map_nil, ofs_eq, String.reduceEq, decide_true, decide_false, Bool.or_true, Bool.true_or, Bool.false_or, Bool.or_false, Bool.false_eq_true, if_true, if_false, List.cons_append, List.nil_append] at hd' | skip); (try dsimp only at N'); (try dsimp only))) | (with_reducible ((with_reducible show wpAny _ _ (eval (PySem.Expr.Subscript (PySem.Expr.Name _ _) (PySem.Expr.Constant (Const.str _) _ _) _) (envOf _ _ _ _ _)) _ _ _); k_dflt (refine sub_key (by k_asm) (by exact rfl) (by k_asm) (by k_mem) (by k_asm) (by (first | with_reducible exact va_router | with_reducible exact va_state | with_reducible exact va_dr | with_reducible exact va_bdr | with_reducible exact va_dr_address | with_reducible exact va_bdr_address | with_reducible exact va_neighbours | with_reducible exact va_hello_at | with_reducible exact va_wait_until | with_reducible exact va_kind | with_reducible exact va_address | with_reducible exact va_priority | with_reducible exact va_hello | with_reducible exact va_dead | with_reducible exact va_options | with_reducible exact va_delay | with_reducible exact va_number | with_reducible exact va_area | with_reducible exact va_stub | with_reducible exact va_length | with_reducible exact va_cost | with_reducible exact va_resend | (repeat (first | exact valueAt_hit | refine (valueAt_miss (by decide)).trans ?_)))) ?_))) | walk1 | (dsimp only; walk1) | (leave1; (try dsimp only))))
    rename_i D9 h9 tk9 F7 N7 od9
    refine nbs_end (k := ys5.length) F' N' rfl rfl hd' ?_ (show ys5.length = K by have h := (by assumption : ys5.length = min K (min K K)); rw [h, Nat.min_self, Nat.min_self]) od9.2.2.2.2.1 p5 (off1_mem od9.2.2.2.2.2) ?_ ?_
    · rw [List.take_of_length_le (by rw [List.length_zip]; (first | lia | omega))] at h7
      exact h7
    · refine Off.cons (ne4 (Ne.symm x1) (Ne.symm x2) (Ne.symm x3) (Ne.symm x4)) (Off.cons (ne4 od9.1 od9.2.1 od9.2.2.1 od9.2.2.2.1)
          (fun p hp q hq => h8 p hp q (by
            simp only [List.mem_cons, List.not_mem_nil, or_false] at hq ⊢
            rcases hq with h | h | h | h <;> simp [h])))
    · simp only [List.cons_append, List.mem_cons, List.mem_append, List.not_mem_nil, or_false]
      intro p hp
      rcases hp with h | h | h | h | h | h | h
      · simp [h]
      · exact .inl (h ▸ rfl)
      all_goals simp [h]
  · intro i5 ys5 news5 hi5 h5 v5 I5 oI5 C5 oC5 D5 m5 hp5 tk5 E5 hP5 hO5 hm5 F5 N5 off5 ne5
    obtain ⟨ds, e5, h7, h8⟩ := h5
    subst e5
    obtain ⟨t9, e9⟩ := hP5
    subst e9
    obtain ⟨r, hr⟩ : ∃ r, ns[i5]? = some r := ⟨_, List.getElem?_eq_getElem (by (first | lia | omega))⟩
    obtain ⟨b, hb⟩ : ∃ b, bs[i5]? = some b := ⟨_, List.getElem?_eq_getElem (by (first | lia | omega))⟩
    obtain ⟨tr, hv⟩ := hi.get i5 r hr
    have hb2 : (bs.map Value.bool)[i5]? = some (Value.bool b) := by rw [List.getElem?_map, hb]; rfl
    simp only [List.cons_append, List.nil_append] at N5 off5
    cases b with
    | true =>
      (repeat' (first | (k_unfold; (try dsimp only)) | (k_end; wrow_close) | (with_reducible ((with_reducible show wpAny _ _ (eval (PySem.Expr.ListComp ..) _) _ _ _); (refine stop_at ?_))) | (with_reducible ((with_reducible show LCg.CompSrc ..); (refine stop_at ?_))) | (with_reducible ((with_reducible show wpAny _ _ (call (Value.type "range") _) _ _ _); ((rename Fr _ _ _ _ => F'); (rename News _ _ _ _ => N'); (with_unfolding_all refine range1_rows F' N' ?_; intro _ _ _ _ _ _ _ _ _)))) | (with_reducible ((with_reducible show wpAny _ _ (subscriptTail _ _ (Value.ref _) (Value.int _ _)) _ _ _); k_dflt (refine item_listL (News.isList (by k_asm) (by k_mem)) (by (first | lia | omega)) (by (first | lia | omega)) (by rw [zero_nat]; assumption) ?_ (hs := by rfl) (hg := by intro _; rfl)))) | (with_reducible ((with_reducible show wpAny _ _ (subscriptTail _ _ (Value.ref _) (Value.int _ _)) _ _ _); k_dflt (refine item_listL (News.isList (by k_asm) (by k_mem)) (by (first | lia | omega)) (by (first | lia | omega)) (by rw [zero_nat]; assumption) ?_ (hs := by rfl) (hg := by intro _; rfl)))) | (with_reducible ((with_reducible show wpAny _ _ (subscriptTail (PySem.Expr.List _ _) _ (Value.ref _) (Value.bool _)) _ _ _); (rename News _ _ _ _ => lN'); k_dflt (refine menu_bool (by exact ⟨_, (lN' _ (.head _)).1, rfl, _, rfl⟩) ?_ (hs := by rfl)); (try simp only [Bool.false_eq_true, if_false, if_true]))) | (with_reducible ((with_reducible refine execs_tk ?_); intro _; (try dsimp only); (try k_fold))) | (with_reducible ((with_reducible show wpAny _ _ (eval (PySem.Expr.Dict ..) _) _ _ _); refine kdn_str (by k_dflt rfl) (by k_asm) (by first | k_asm | exact News.nil) (by exact Top.nolimit (by k_asm)) (by k_dflt rfl) (by k_dflt rfl) (by exact List.cons_ne_nil _ _) (by k_dflt (exact Nat.le_of_ble_eq_true rfl)) ?_; intro d' h' o' F' N' l1 lo' hd'; (try k_lt l1))) | (with_reducible ((with_reducible show KdnMade ..); k_dflt (refine kdn_made_str (by k_asm) (by k_asm) (by k_updF) (by k_asm) (by rfl) (by exact of_decide_eq_true (by first | rfl | kernel_rfl!)) ?_; intro h' o' F' N' hd'); (try dsimp only [strPairs] at hd'); (try dsimp only at N'))) | (with_reducible ((with_reducible show wpAny _ _ (setItem (Value.ref _) (Value.str _ _) _) _ _ _); k_dflt (refine set_s (knd := PySem.strKind _ _) (by k_asm) (by k_asm) (by k_updF) (by k_asm) (strKind_is _ _ _ _) (by exact rfl) ?_); intro h' o' F' N' hd'; (first | rw [st_state] at hd' | rw [st_dr] at hd' | rw [st_bdr] at hd' | rw [st_dr_address] at hd' | rw [st_bdr_address] at hd' | rw [st_neighbours] at hd' | rw [st_hello_at] at hd' | rw [st_wait_until] at hd' | rw [st_new] at hd' | rw [st_nb] at hd' | simp only [merged, List.foldl_cons, List.foldl_nil, stored, List.any_cons, List.any_nil, List.map_cons, List.map_nil, ofs_eq, String.reduceEq, decide_true, decide_false, Bool.or_true, Bool.true_or, Bool.false_or, Bool.or_false, Bool.false_eq_true, if_true, if_false, List.cons_append, List.nil_append] at hd' | skip); (try dsimp only at N'); (try dsimp only))) | (with_reducible ((with_reducible show wpAny _ _ (eval (PySem.Expr.Subscript (PySem.Expr.Name _ _) (PySem.Expr.Constant (Const.str _) _ _) _) (envOf _ _ _ _ _)) _ _ _); k_dflt (refine sub_key (by k_asm) (by exact rfl) (by k_asm) (by k_mem) (by k_asm) (by (first | with_reducible exact va_router | with_reducible exact va_state | with_reducible exact va_dr | with_reducible exact va_bdr | with_reducible exact va_dr_address | with_reducible exact va_bdr_address | with_reducible exact va_neighbours | with_reducible exact va_hello_at | with_reducible exact va_wait_until | with_reducible exact va_kind | with_reducible exact va_address | with_reducible exact va_priority | with_reducible exact va_hello | with_reducible exact va_dead | with_reducible exact va_options | with_reducible exact va_delay | with_reducible exact va_number | with_reducible exact va_area | with_reducible exact va_stub | with_reducible exact va_length | with_reducible exact va_cost | with_reducible exact va_resend | (repeat (first | exact valueAt_hit | refine (valueAt_miss (by decide)).trans ?_)))) ?_))) | walk1 | (dsimp only; walk1) | (leave1; (try dsimp only))))
      exact LCg.CompEnd.intro (by assumption) (by assumption) _ (List.forall_mem_cons.mpr ⟨by k_mem, List.forall_mem_cons.mpr ⟨by k_mem, List.forall_mem_cons.mpr ⟨by k_mem, List.forall_mem_cons.mpr ⟨by k_mem, List.forall_mem_cons.mpr ⟨by k_mem, List.forall_mem_cons.mpr ⟨by k_mem, List.forall_mem_cons.mpr ⟨by k_mem, List.forall_mem_cons.mpr ⟨by k_mem, List.forall_mem_cons.mpr ⟨by k_mem, by kcf_all⟩⟩⟩⟩⟩⟩⟩⟩⟩)
        ⟨off5.1, off5.2.1, off5.2.2.1, off5.2.2.2.1, off5.2.2.2.2.1, ⟨by k_ne, by k_ne, by k_ne⟩, off5.2.2.2.2.2⟩ trivial (nb_turn h7 h8 hr hb (by assumption) (List.forall_mem_cons.mpr ⟨by k_ne, List.forall_mem_cons.mpr ⟨by k_ne, List.forall_mem_cons.mpr ⟨by k_ne, List.forall_mem_cons.mpr ⟨by k_ne, List.forall_mem_cons.mpr ⟨by k_ne, List.forall_mem_nil _⟩⟩⟩⟩⟩))
    | false =>
      (repeat' (first | (k_unfold; (try dsimp only)) | (k_end; wrow_close) | (with_reducible ((with_reducible show wpAny _ _ (eval (PySem.Expr.ListComp ..) _) _ _ _); (refine stop_at ?_))) | (with_reducible ((with_reducible show LCg.CompSrc ..); (refine stop_at ?_))) | (with_reducible ((with_reducible show wpAny _ _ (call (Value.type "range") _) _ _ _); ((rename Fr _ _ _ _ => F'); (rename News _ _ _ _ => N'); (with_unfolding_all refine range1_rows F' N' ?_; intro _ _ _ _ _ _ _ _ _)))) | (with_reducible ((with_reducible show wpAny _ _ (subscriptTail _ _ (Value.ref _) (Value.int _ _)) _ _ _); k_dflt (refine item_listL (News.isList (by k_asm) (by k_mem)) (by (first | lia | omega)) (by (first | lia | omega)) (by rw [zero_nat]; assumption) ?_ (hs := by rfl) (hg := by intro _; rfl)))) | (with_reducible ((with_reducible show wpAny _ _ (subscriptTail _ _ (Value.ref _) (Value.int _ _)) _ _ _); k_dflt (refine item_listL (News.isList (by k_asm) (by k_mem)) (by (first | lia | omega)) (by (first | lia | omega)) (by rw [zero_nat]; assumption) ?_ (hs := by rfl) (hg := by intro _; rfl)))) | (with_reducible ((with_reducible show wpAny _ _ (subscriptTail (PySem.Expr.List _ _) _ (Value.ref _) (Value.bool _)) _ _ _); (rename News _ _ _ _ => lN'); k_dflt (refine menu_bool (by exact ⟨_, (lN' _ (.head _)).1, rfl, _, rfl⟩) ?_ (hs := by rfl)); (try simp only [Bool.false_eq_true, if_false, if_true]))) | (with_reducible ((with_reducible refine execs_tk ?_); intro _; (try dsimp only); (try k_fold))) | (with_reducible ((with_reducible show wpAny _ _ (eval (PySem.Expr.Dict ..) _) _ _ _); refine kdn_str (by k_dflt rfl) (by k_asm) (by first | k_asm | exact News.nil) (by exact Top.nolimit (by k_asm)) (by k_dflt rfl) (by k_dflt rfl) (by exact List.cons_ne_nil _ _) (by k_dflt (exact Nat.le_of_ble_eq_true rfl)) ?_; intro d' h' o' F' N' l1 lo' hd'; (try k_lt l1))) | (with_reducible ((with_reducible show KdnMade ..); k_dflt (refine kdn_made_str (by k_asm) (by k_asm) (by k_updF) (by k_asm) (by rfl) (by exact of_decide_eq_true (by first | rfl | kernel_rfl!)) ?_; intro h' o' F' N' hd'); (try dsimp only [strPairs] at hd'); (try dsimp only at N'))) | (with_reducible ((with_reducible show wpAny _ _ (setItem (Value.ref _) (Value.str _ _) _) _ _ _); k_dflt (refine set_s (knd := PySem.strKind _ _) (by k_asm) (by k_asm) (by k_updF) (by k_asm) (strKind_is _ _ _ _) (by exact rfl) ?_); intro h' o' F' N' hd'; (first | rw [st_state] at hd' | rw [st_dr] at hd' | rw [st_bdr] at hd' | rw [st_dr_address] at hd' | rw [st_bdr_address] at hd' | rw [st_neighbours] at hd' | rw [st_hello_at] at hd' | rw [st_wait_until] at hd' | rw [st_new] at hd' | rw [st_nb] at hd' | simp only [merged, List.foldl_cons, List.foldl_nil, stored, List.any_cons, List.any_nil, List.map_cons, List.map_nil, ofs_eq, String.reduceEq, decide_true, decide_false, Bool.or_true, Bool.true_or, Bool.false_or, Bool.or_false, Bool.false_eq_true, if_true, if_false, List.cons_append, List.nil_append] at hd' | skip); (try dsimp only at N'); (try dsimp only))) | (with_reducible ((with_reducible show wpAny _ _ (eval (PySem.Expr.Subscript (PySem.Expr.Name _ _) (PySem.Expr.Constant (Const.str _) _ _) _) (envOf _ _ _ _ _)) _ _ _); k_dflt (refine sub_key (by k_asm) (by exact rfl) (by k_asm) (by k_mem) (by k_asm) (by (first | with_reducible exact va_router | with_reducible exact va_state | with_reducible exact va_dr | with_reducible exact va_bdr | with_reducible exact va_dr_address | with_reducible exact va_bdr_address | with_reducible exact va_neighbours | with_reducible exact va_hello_at | with_reducible exact va_wait_until | with_reducible exact va_kind | with_reducible exact va_address | with_reducible exact va_priority | with_reducible exact va_hello | with_reducible exact va_dead | with_reducible exact va_options | with_reducible exact va_delay | with_reducible exact va_number | with_reducible exact va_area | with_reducible exact va_stub | with_reducible exact va_length | with_reducible exact va_cost | with_reducible exact va_resend | (repeat (first | exact valueAt_hit | refine (valueAt_miss (by decide)).trans ?_)))) ?_))) | walk1 | (dsimp only; walk1) | (leave1; (try dsimp only))))
      exact LCg.CompEnd.intro (by assumption) (by assumption) _ (List.forall_mem_cons.mpr ⟨by k_mem, List.forall_mem_cons.mpr ⟨by k_mem, List.forall_mem_cons.mpr ⟨by k_mem, List.forall_mem_cons.mpr ⟨by k_mem, List.forall_mem_cons.mpr ⟨by k_mem, List.forall_mem_cons.mpr ⟨by k_mem, List.forall_mem_cons.mpr ⟨by k_mem, List.forall_mem_cons.mpr ⟨by k_mem, List.forall_mem_cons.mpr ⟨by k_mem, by kcf_all⟩⟩⟩⟩⟩⟩⟩⟩⟩)
        ⟨off5.1, off5.2.1, off5.2.2.1, off5.2.2.2.1, off5.2.2.2.2.1, ⟨by k_ne, by k_ne, by k_ne⟩, off5.2.2.2.2.2⟩ trivial (nb_turn h7 h8 hr hb (by assumption) (List.forall_mem_cons.mpr ⟨by k_ne, List.forall_mem_cons.mpr ⟨by k_ne, List.forall_mem_cons.mpr ⟨by k_ne, List.forall_mem_cons.mpr ⟨by k_ne, List.forall_mem_cons.mpr ⟨by k_ne, List.forall_mem_nil _⟩⟩⟩⟩⟩))
end
theorem off_N12 : True := by w_top off; trivial
section
variable {prog : Program} {w : World} {A : Around} {E : Value → Shared → Prop} {s : Shared}
theorem eq_tups {h₀ : Heap} {L a b : Addr} {vs us : List Value} {ns : List Int} {news : Led} {Q : Value → Shared → Prop} (N : News h₀ L s.heap news) (ha : (a, tup vs) ∈ news) (hb : (b, tup us) ∈ news) (hi : IntsAre vs ns) (hj : IntsAre us ns) (hu : A.units + 64 < cLine) (h : Q (.bool true) s) :
    wpAny (model prog w) A (compareOp .Eq (.ref a) (.ref b)) Q E s := by
  have sh : SeqAt.shaped (.tuple (ns.map PyData.int)) = true := by
    simp [SeqAt.shaped, PyData.canLay0, PyData.depth, ke_canLayAll0, ke_depthAll]
  refine eq_dataH (reads_tuple_at (N.get ha) rfl rfl (by simpa using readsAll_of_ints hi)) (reads_tuple_at (N.get hb) rfl rfl (by simpa using readsAll_of_ints hj)) sh sh hu ?_
  have e : PyData.eqv (.tuple (ns.map PyData.int)) (.tuple (ns.map PyData.int)) = true := by
    simp [PyData.eqv, ked_eqvAll]
  rw [e]; exact h
end
set_option maxHeartbeats 4000000 in
theorem last_row {w : World} {c1 c2 c3 c4 c5 c6 c7 Ii Hh d NB : Addr} {K ci ch k : Nat} {tm : Tok} {o o1 o2 : Obj} {idv ws : List Value} {ns : List Int} {bs : List Bool} {ds : Led} {kd st : PySem.Str} {own : Int} {de op : Value} {t1 t2 t3 t4 t5 t6 t7 t8 t9 t10 t11 t12 t13 t14 t15 t16 : Tok} (hK : K ≤ 720)
    (hdd : o.IsDictOf (PySem.strKind PR w) (ifKvs kd st own 0 0 0 0 NB .none .none de op t1 t2 t3 t4 t5 t6 t7 t8 t9 t10 t11 t12 t13 t14 t15 t16))
    (q1 : o1.data = .cell (some (.ref Hh))) (q2 : o2.data = .cell (some (.ref Ii))) (hi : IntsAre idv ns) (ln : ns.length = K) (lb : bs.length = K) (hws : HbsAt w ds ws (ns.zip bs)) (lw : ws.length = K) (x : NeA d NB) (p5 : ∀ p ∈ ds, p.1 ≠ d) (p6 : ∀ p ∈ ds, p.1 ≠ NB)
    (off : Off ((d, o) :: (NB, listOf ws.toArray k) :: ds) [(Ii, listOf idv.toArray ci), (Hh, listOf (bs.map Value.bool).toArray ch), (c1, o1), (c2, o2)])
    {h₀ base : Heap} {L fa : Addr} {cd : Value} {dp un : Nat} {gd : Option (List Code)} {outer : List Env} {A₀ : Around} {m : PySem.Str → Option Value} {mean : ExcName → Option Value} {mg mb : PySem.Str → Option Value} {s : Shared} {Q : Flow → Shared → Prop}
    (B : Below A₀ base outer h₀) (F9 : Fr h₀ L s.heap m) (X : (hd.heap_39 w.params).In h₀) (N9 : News h₀ L s.heap (((d, o) :: (NB, listOf ws.toArray k) :: ds) ++ [(Ii, listOf idv.toArray ci), (Hh, listOf (bs.map Value.bool).toArray ch), (c1, o1), (c2, o2)])) (T : Top hd.view_39 LL mean mg mb h₀) (hdp : dp + 20 < recursionLimit) (hun : un + 8 * 20 < cLine)
    (m1 : m "iface" = some (.ref d)) (m2 : m "many" = some (.int (K : Int) tm)) (hret : ∀ h' tk' m', Fr h₀ L h' m' → Q (.ret (.bool true)) { s with heap := h', toks := tk' }) :
    wpAny (model PR w) (ktrTop dp un gd (Str.ofString "law") lawSc L fa cd (CN c1 c2 c3 c4 c5 c6 c7) outer) (execs [lawRow 12] (envX (Str.ofString "law") lawSc L fa cd (CN c1 c2 c3 c4 c5 c6 c7))) Q (fun _ _ => False) s := by
  conv in (occs := *) lawSc => all_goals whnf
  conv in lawRow _ => whnf
  replace F9 := fr_name2 F9 m1 m2 (by decide)
  clear m1 m2
  have lv := hi.length
  (try k_fold)
  (repeat' (first | (k_unfold; (try dsimp only)) | (k_end; wrow_close) | (with_reducible ((with_reducible show wpAny _ _ (eval (PySem.Expr.ListComp ..) _) _ _ _); (refine stop_at ?_))) | (with_reducible ((with_reducible show LCt.CompSrcT ..); (refine stop_at ?_))) | (with_reducible ((with_reducible show wpAny _ _ (call (Value.type "range") _) _ _ _); ((rename Fr _ _ _ _ => F'); (rename News _ _ _ _ => N'); (with_unfolding_all refine range1_rows F' N' ?_; intro _ _ _ _ _ _ _ _ _)))) | (with_reducible ((with_reducible show wpAny _ _ (call (Value.ref _) _) _ _ _); (refine stop_at ?_))) | (with_reducible ((with_reducible show wpAny _ _ (compareOp CmpOp.Eq (Value.ref _) (Value.ref _)) _ _ _); (refine stop_at ?_))) | (with_reducible ((with_reducible show wpAny _ _ (subscriptTail _ _ (Value.ref _) (Value.int _ _)) _ _ _); k_dflt (refine item_listL (News.isList (by k_asm) (by k_mem)) (by (first | lia | omega)) (by (first | lia | omega)) (by rw [zero_nat]; assumption) ?_ (hs := by rfl) (hg := by intro _; rfl)))) | (with_reducible ((with_reducible show wpAny _ _ (subscriptTail _ _ (Value.ref _) (Value.int _ _)) _ _ _); k_dflt (refine item_listL (News.isList (by k_asm) (by k_mem)) (by (first | lia | omega)) (by (first | lia | omega)) (by rw [zero_nat]; assumption) ?_ (hs := by rfl) (hg := by intro _; rfl)))) | (with_reducible ((with_reducible show wpAny _ _ (subscriptTail (PySem.Expr.Call _ _ _ _) _ (Value.ref _) (Value.int 8 _)) _ _ _); k_dflt (refine item_tupleT (News.isTup (by k_asm) (by k_mem)) (by decide) (by decide) (by rfl) (by rfl) ?_ (hs := by rfl)))) | (with_reducible ((with_reducible refine execs_tk ?_); intro _; (try dsimp only); (try k_fold))) | (with_reducible ((with_reducible show wpAny _ _ (eval (PySem.Expr.Subscript (PySem.Expr.Name _ _) (PySem.Expr.Constant (Const.str _) _ _) _) (envOf _ _ _ _ _)) _ _ _); k_dflt (refine sub_key (by k_asm) (by exact rfl) (by k_asm) (by k_mem) (by k_asm) (by (first | with_reducible exact va_router | with_reducible exact va_state | with_reducible exact va_dr | with_reducible exact va_bdr | with_reducible exact va_dr_address | with_reducible exact va_bdr_address | with_reducible exact va_neighbours | with_reducible exact va_hello_at | with_reducible exact va_wait_until | with_reducible exact va_kind | with_reducible exact va_address | with_reducible exact va_priority | with_reducible exact va_hello | with_reducible exact va_dead | with_reducible exact va_options | with_reducible exact va_delay | with_reducible exact va_number | with_reducible exact va_area | with_reducible exact va_stub | with_reducible exact va_length | with_reducible exact va_cost | with_reducible exact va_resend | (repeat (first | exact valueAt_hit | refine (valueAt_miss (by decide)).trans ?_)))) ?_))) | walk1 | (dsimp only; walk1) | (leave1; (try dsimp only))))
  refine stop_out ?_
  refine (hello_c (k := k) hdd hws (by (first | lia | omega)) x p5 p6).use (by k_asm) (by k_asm) (by k_asm) (by k_asm) (by k_asm) (by first | exact rfl | assumption) (by ktr_room) (by ktr_units) [(Ii, listOf idv.toArray ci), (Hh, listOf (bs.map Value.bool).toArray ch), (c1, o1), (c2, o2)] (fun _ h => List.mem_append.mpr (.inl h)) (fun _ h => List.mem_append.mpr (.inr h)) off ?_
  intro r8 l8 h8 tk8 F8 N8 off8 P8
  obtain ⟨D8, H8, vs8, hs8, a1, a2, a3, a4, a5, a6, a7, a8, e8, f8, i8, hh8⟩ := P8
  subst e8; subst f8
  simp only [List.cons_append, List.nil_append] at N8
  have off8' := offLL_of off8
  simp only [OffLL, OffL, and_true] at off8'
  clear off8 N9 off F9
  (repeat' (first | (k_unfold; (try dsimp only)) | (k_end; wrow_close) | (with_reducible ((with_reducible show wpAny _ _ (eval (PySem.Expr.ListComp ..) _) _ _ _); (refine stop_at ?_))) | (with_reducible ((with_reducible show LCt.CompSrcT ..); (refine stop_at ?_))) | (with_reducible ((with_reducible show wpAny _ _ (call (Value.type "range") _) _ _ _); ((rename Fr _ _ _ _ => F'); (rename News _ _ _ _ => N'); (with_unfolding_all refine range1_rows F' N' ?_; intro _ _ _ _ _ _ _ _ _)))) | (with_reducible ((with_reducible show wpAny _ _ (call (Value.ref _) _) _ _ _); (refine stop_at ?_))) | (with_reducible ((with_reducible show wpAny _ _ (compareOp CmpOp.Eq (Value.ref _) (Value.ref _)) _ _ _); (refine stop_at ?_))) | (with_reducible ((with_reducible show wpAny _ _ (subscriptTail _ _ (Value.ref _) (Value.int _ _)) _ _ _); k_dflt (refine item_listL (News.isList (by k_asm) (by k_mem)) (by (first | lia | omega)) (by (first | lia | omega)) (by rw [zero_nat]; assumption) ?_ (hs := by rfl) (hg := by intro _; rfl)))) | (with_reducible ((with_reducible show wpAny _ _ (subscriptTail _ _ (Value.ref _) (Value.int _ _)) _ _ _); k_dflt (refine item_listL (News.isList (by k_asm) (by k_mem)) (by (first | lia | omega)) (by (first | lia | omega)) (by rw [zero_nat]; assumption) ?_ (hs := by rfl) (hg := by intro _; rfl)))) | (with_reducible ((with_reducible show wpAny _ _ (subscriptTail (PySem.Expr.Call _ _ _ _) _ (Value.ref _) (Value.int 8 _)) _ _ _); k_dflt (refine item_tupleT (News.isTup (by k_asm) (by k_mem)) (by decide) (by decide) (by rfl) (by rfl) ?_ (hs := by rfl)))) | (with_reducible ((with_reducible refine execs_tk ?_); intro _; (try dsimp only); (try k_fold))) | (with_reducible ((with_reducible show wpAny _ _ (eval (PySem.Expr.Subscript (PySem.Expr.Name _ _) (PySem.Expr.Constant (Const.str _) _ _) _) (envOf _ _ _ _ _)) _ _ _); k_dflt (refine sub_key (by k_asm) (by exact rfl) (by k_asm) (by k_mem) (by k_asm) (by (first | with_reducible exact va_router | with_reducible exact va_state | with_reducible exact va_dr | with_reducible exact va_bdr | with_reducible exact va_dr_address | with_reducible exact va_bdr_address | with_reducible exact va_neighbours | with_reducible exact va_hello_at | with_reducible exact va_wait_until | with_reducible exact va_kind | with_reducible exact va_address | with_reducible exact va_priority | with_reducible exact va_hello | with_reducible exact va_dead | with_reducible exact va_options | with_reducible exact va_delay | with_reducible exact va_number | with_reducible exact va_area | with_reducible exact va_stub | with_reducible exact va_length | with_reducible exact va_cost | with_reducible exact va_resend | (repeat (first | exact valueAt_hit | refine (valueAt_miss (by decide)).trans ?_)))) ?_))) | walk1 | (dsimp only; walk1) | (leave1; (try dsimp only))))
  refine stop_out ?_
  k_dflt (refine LCt.ListComp_T (cl := [(Str.ofString "is_heard", c1), (Str.ofString "ids", c2)]) (F₀ := by k_asm) (by kernel_rfl) (by decide) (by rfl) (by decide) (by rfl) ?_)
  (try dsimp only)
  (repeat' (first | (k_unfold; (try dsimp only)) | (k_end; wrow_close) | (with_reducible ((with_reducible show wpAny _ _ (eval (PySem.Expr.ListComp ..) _) _ _ _); (refine stop_at ?_))) | (with_reducible ((with_reducible show LCt.CompSrcT ..); (refine stop_at ?_))) | (with_reducible ((with_reducible show wpAny _ _ (call (Value.type "range") _) _ _ _); ((rename Fr _ _ _ _ => F'); (rename News _ _ _ _ => N'); (with_unfolding_all refine range1_rows F' N' ?_; intro _ _ _ _ _ _ _ _ _)))) | (with_reducible ((with_reducible show wpAny _ _ (call (Value.ref _) _) _ _ _); (refine stop_at ?_))) | (with_reducible ((with_reducible show wpAny _ _ (compareOp CmpOp.Eq (Value.ref _) (Value.ref _)) _ _ _); (refine stop_at ?_))) | (with_reducible ((with_reducible show wpAny _ _ (subscriptTail _ _ (Value.ref _) (Value.int _ _)) _ _ _); k_dflt (refine item_listL (News.isList (by k_asm) (by k_mem)) (by (first | lia | omega)) (by (first | lia | omega)) (by rw [zero_nat]; assumption) ?_ (hs := by rfl) (hg := by intro _; rfl)))) | (with_reducible ((with_reducible show wpAny _ _ (subscriptTail _ _ (Value.ref _) (Value.int _ _)) _ _ _); k_dflt (refine item_listL (News.isList (by k_asm) (by k_mem)) (by (first | lia | omega)) (by (first | lia | omega)) (by rw [zero_nat]; assumption) ?_ (hs := by rfl) (hg := by intro _; rfl)))) | (with_reducible ((with_reducible show wpAny _ _ (subscriptTail (PySem.Expr.Call _ _ _ _) _ (Value.ref _) (Value.int 8 _)) _ _ _); k_dflt (refine item_tupleT (News.isTup (by k_asm) (by k_mem)) (by decide) (by decide) (by rfl) (by rfl) ?_ (hs := by rfl)))) | (with_reducible ((with_reducible refine execs_tk ?_); intro _; (try dsimp only); (try k_fold))) | (with_reducible ((with_reducible show wpAny _ _ (eval (PySem.Expr.Subscript (PySem.Expr.Name _ _) (PySem.Expr.Constant (Const.str _) _ _) _) (envOf _ _ _ _ _)) _ _ _); k_dflt (refine sub_key (by k_asm) (by exact rfl) (by k_asm) (by k_mem) (by k_asm) (by (first | with_reducible exact va_router | with_reducible exact va_state | with_reducible exact va_dr | with_reducible exact va_bdr | with_reducible exact va_dr_address | with_reducible exact va_bdr_address | with_reducible exact va_neighbours | with_reducible exact va_hello_at | with_reducible exact va_wait_until | with_reducible exact va_kind | with_reducible exact va_address | with_reducible exact va_priority | with_reducible exact va_hello | with_reducible exact va_dead | with_reducible exact va_options | with_reducible exact va_delay | with_reducible exact va_number | with_reducible exact va_area | with_reducible exact va_stub | with_reducible exact va_length | with_reducible exact va_cost | with_reducible exact va_resend | (repeat (first | exact valueAt_hit | refine (valueAt_miss (by decide)).trans ?_)))) ?_))) | walk1 | (dsimp only; walk1) | (leave1; (try dsimp only))))
  refine stop_out ?_
  refine LCt.CompSrcT.range (n := K) (by rfl) (by k_asm) (by k_asm) (by assumption) (small_one (by (first | lia | omega)) (by (first | lia | omega)) (by (first | lia | omega)) (by (first | lia | omega))) (by rw [rangeSize_nat]; (first | lia | omega)) (by rw [sizeLine_eq]; (first | lia | omega)) ?_
  intro g9
  refine compT_ind (fun i ys news => news = [(D8, tup [a1, a2, a3, a4, a5, a6, a7, a8, .ref H8]), (H8, tup vs8), (Ii, listOf idv.toArray ci), (Hh, listOf (bs.map Value.bool).toArray ch), (c1, o1), (c2, o2)] ∧ IntsAre ys (heardOf ((ns.zip bs).take i))) ?_ ?_ _ _ _ _ (Nat.zero_add _) ⟨rfl, .nil⟩
  · intro ys5 news5 h5
    obtain ⟨e5, i5⟩ := h5
    subst e5
    rw [List.take_of_length_le (by rw [List.length_zip]; (first | lia | omega))] at i5
    have l5 := i5.length
    have l6 := heard_len (ns.zip bs)
    rw [List.length_zip] at l6
    (repeat' (first | (k_unfold; (try dsimp only)) | (k_end; wrow_close) | (with_reducible ((with_reducible show wpAny _ _ (eval (PySem.Expr.ListComp ..) _) _ _ _); (refine stop_at ?_))) | (with_reducible ((with_reducible show LCt.CompSrcT ..); (refine stop_at ?_))) | (with_reducible ((with_reducible show wpAny _ _ (call (Value.type "range") _) _ _ _); ((rename Fr _ _ _ _ => F'); (rename News _ _ _ _ => N'); (with_unfolding_all refine range1_rows F' N' ?_; intro _ _ _ _ _ _ _ _ _)))) | (with_reducible ((with_reducible show wpAny _ _ (call (Value.ref _) _) _ _ _); (refine stop_at ?_))) | (with_reducible ((with_reducible show wpAny _ _ (compareOp CmpOp.Eq (Value.ref _) (Value.ref _)) _ _ _); (refine stop_at ?_))) | (with_reducible ((with_reducible show wpAny _ _ (subscriptTail _ _ (Value.ref _) (Value.int _ _)) _ _ _); k_dflt (refine item_listL (News.isList (by k_asm) (by k_mem)) (by (first | lia | omega)) (by (first | lia | omega)) (by rw [zero_nat]; assumption) ?_ (hs := by rfl) (hg := by intro _; rfl)))) | (with_reducible ((with_reducible show wpAny _ _ (subscriptTail _ _ (Value.ref _) (Value.int _ _)) _ _ _); k_dflt (refine item_listL (News.isList (by k_asm) (by k_mem)) (by (first | lia | omega)) (by (first | lia | omega)) (by rw [zero_nat]; assumption) ?_ (hs := by rfl) (hg := by intro _; rfl)))) | (with_reducible ((with_reducible show wpAny _ _ (subscriptTail (PySem.Expr.Call _ _ _ _) _ (Value.ref _) (Value.int 8 _)) _ _ _); k_dflt (refine item_tupleT (News.isTup (by k_asm) (by k_mem)) (by decide) (by decide) (by rfl) (by rfl) ?_ (hs := by rfl)))) | (with_reducible ((with_reducible refine execs_tk ?_); intro _; (try dsimp only); (try k_fold))) | (with_reducible ((with_reducible show wpAny _ _ (eval (PySem.Expr.Subscript (PySem.Expr.Name _ _) (PySem.Expr.Constant (Const.str _) _ _) _) (envOf _ _ _ _ _)) _ _ _); k_dflt (refine sub_key (by k_asm) (by exact rfl) (by k_asm) (by k_mem) (by k_asm) (by (first | with_reducible exact va_router | with_reducible exact va_state | with_reducible exact va_dr | with_reducible exact va_bdr | with_reducible exact va_dr_address | with_reducible exact va_bdr_address | with_reducible exact va_neighbours | with_reducible exact va_hello_at | with_reducible exact va_wait_until | with_reducible exact va_kind | with_reducible exact va_address | with_reducible exact va_priority | with_reducible exact va_hello | with_reducible exact va_dead | with_reducible exact va_options | with_reducible exact va_delay | with_reducible exact va_number | with_reducible exact va_area | with_reducible exact va_stub | with_reducible exact va_length | with_reducible exact va_cost | with_reducible exact va_resend | (repeat (first | exact valueAt_hit | refine (valueAt_miss (by decide)).trans ?_)))) ?_))) | walk1 | (dsimp only; walk1) | (leave1; (try dsimp only))))
    refine stop_out ?_
    rename_i D9 h9 tk9 F9 N9 od9
    refine (named_c (k := ys5.length) (l := D9) i5 (by have h := (by assumption : (heardOf (ns.zip bs)).length ≤ min ns.length bs.length); exact Nat.le_trans h (Nat.le_trans (Nat.min_le_left _ _) (by rw [‹ns.length = K›]; assumption)))).use (by k_asm) (by k_asm) (by k_asm) N9 (by k_asm) (by first | exact rfl | assumption) (by ktr_room) (by ktr_units) [(D8, tup [a1, a2, a3, a4, a5, a6, a7, a8, .ref H8]), (H8, tup vs8), (Ii, listOf idv.toArray ci), (Hh, listOf (bs.map Value.bool).toArray ch), (c1, o1), (c2, o2)]
      (fun p hp => by rw [List.mem_singleton.mp hp]; exact .head _) (fun p hp => .tail _ hp) (Off.cons (by
        simp only [List.mem_cons, List.not_mem_nil, or_false]
        rintro q (rfl | rfl | rfl | rfl | rfl | rfl) <;> dsimp only <;> k_ne) Off.nil) ?_
    intro r7 l7 h7 tk7 F7 N7 off7 P7
    obtain ⟨H7, us7, hs7, e7, f7, i7, hh7⟩ := P7
    subst e7; subst f7
    have e6 := HeardL.unique hh7 hh8
    subst e6
    clear off7
    (repeat' (first | (k_unfold; (try dsimp only)) | (k_end; wrow_close) | (with_reducible ((with_reducible show wpAny _ _ (eval (PySem.Expr.ListComp ..) _) _ _ _); (refine stop_at ?_))) | (with_reducible ((with_reducible show LCt.CompSrcT ..); (refine stop_at ?_))) | (with_reducible ((with_reducible show wpAny _ _ (call (Value.type "range") _) _ _ _); ((rename Fr _ _ _ _ => F'); (rename News _ _ _ _ => N'); (with_unfolding_all refine range1_rows F' N' ?_; intro _ _ _ _ _ _ _ _ _)))) | (with_reducible ((with_reducible show wpAny _ _ (call (Value.ref _) _) _ _ _); (refine stop_at ?_))) | (with_reducible ((with_reducible show wpAny _ _ (compareOp CmpOp.Eq (Value.ref _) (Value.ref _)) _ _ _); (refine stop_at ?_))) | (with_reducible ((with_reducible show wpAny _ _ (subscriptTail _ _ (Value.ref _) (Value.int _ _)) _ _ _); k_dflt (refine item_listL (News.isList (by k_asm) (by k_mem)) (by (first | lia | omega)) (by (first | lia | omega)) (by rw [zero_nat]; assumption) ?_ (hs := by rfl) (hg := by intro _; rfl)))) | (with_reducible ((with_reducible show wpAny _ _ (subscriptTail _ _ (Value.ref _) (Value.int _ _)) _ _ _); k_dflt (refine item_listL (News.isList (by k_asm) (by k_mem)) (by (first | lia | omega)) (by (first | lia | omega)) (by rw [zero_nat]; assumption) ?_ (hs := by rfl) (hg := by intro _; rfl)))) | (with_reducible ((with_reducible show wpAny _ _ (subscriptTail (PySem.Expr.Call _ _ _ _) _ (Value.ref _) (Value.int 8 _)) _ _ _); k_dflt (refine item_tupleT (News.isTup (by k_asm) (by k_mem)) (by decide) (by decide) (by rfl) (by rfl) ?_ (hs := by rfl)))) | (with_reducible ((with_reducible refine execs_tk ?_); intro _; (try dsimp only); (try k_fold))) | (with_reducible ((with_reducible show wpAny _ _ (eval (PySem.Expr.Subscript (PySem.Expr.Name _ _) (PySem.Expr.Constant (Const.str _) _ _) _) (envOf _ _ _ _ _)) _ _ _); k_dflt (refine sub_key (by k_asm) (by exact rfl) (by k_asm) (by k_mem) (by k_asm) (by (first | with_reducible exact va_router | with_reducible exact va_state | with_reducible exact va_dr | with_reducible exact va_bdr | with_reducible exact va_dr_address | with_reducible exact va_bdr_address | with_reducible exact va_neighbours | with_reducible exact va_hello_at | with_reducible exact va_wait_until | with_reducible exact va_kind | with_reducible exact va_address | with_reducible exact va_priority | with_reducible exact va_hello | with_reducible exact va_dead | with_reducible exact va_options | with_reducible exact va_delay | with_reducible exact va_number | with_reducible exact va_area | with_reducible exact va_stub | with_reducible exact va_length | with_reducible exact va_cost | with_reducible exact va_resend | (repeat (first | exact valueAt_hit | refine (valueAt_miss (by decide)).trans ?_)))) ?_))) | walk1 | (dsimp only; walk1) | (leave1; (try dsimp only))))
    refine stop_out ?_
    refine eq_tups N7 (.tail _ (.tail _ (.head _))) (.head _) i8 i7 (by ktr_units) ?_
    try dsimp only
    exact hret _ _ _ F7
  · intro i5 ys5 news5 hi5 h5 v5 I5 oI5 C5 oC5 D5 m5 hp5 tk5 E5 hP5 hO5 hm5 F5 N5 off5 ne5
    obtain ⟨e5, i6⟩ := h5
    subst e5
    obtain ⟨t9, e9⟩ := hP5
    subst e9
    obtain ⟨r, hr⟩ : ∃ r, ns[i5]? = some r := ⟨_, List.getElem?_eq_getElem (by (first | lia | omega))⟩
    obtain ⟨b, hb⟩ : ∃ b, bs[i5]? = some b := ⟨_, List.getElem?_eq_getElem (by (first | lia | omega))⟩
    obtain ⟨tr, hv⟩ := hi.get i5 r hr
    have hb2 : (bs.map Value.bool)[i5]? = some (Value.bool b) := by rw [List.getElem?_map, hb]; rfl
    have e3 := heard_snoc (xs := ns.zip bs) (i := i5) (r := r) (b := b) (List.getElem?_zip_eq_some.mpr ⟨hr, hb⟩)
    cases b with
    | true =>
      simp only [if_true] at e3
      (repeat' (first | (k_unfold; (try dsimp only)) | (k_end; wrow_close) | (with_reducible ((with_reducible show wpAny _ _ (eval (PySem.Expr.ListComp ..) _) _ _ _); (refine stop_at ?_))) | (with_reducible ((with_reducible show LCt.CompSrcT ..); (refine stop_at ?_))) | (with_reducible ((with_reducible show wpAny _ _ (call (Value.type "range") _) _ _ _); ((rename Fr _ _ _ _ => F'); (rename News _ _ _ _ => N'); (with_unfolding_all refine range1_rows F' N' ?_; intro _ _ _ _ _ _ _ _ _)))) | (with_reducible ((with_reducible show wpAny _ _ (call (Value.ref _) _) _ _ _); (refine stop_at ?_))) | (with_reducible ((with_reducible show wpAny _ _ (compareOp CmpOp.Eq (Value.ref _) (Value.ref _)) _ _ _); (refine stop_at ?_))) | (with_reducible ((with_reducible show wpAny _ _ (subscriptTail _ _ (Value.ref _) (Value.int _ _)) _ _ _); k_dflt (refine item_listL (News.isList (by k_asm) (by k_mem)) (by (first | lia | omega)) (by (first | lia | omega)) (by rw [zero_nat]; assumption) ?_ (hs := by rfl) (hg := by intro _; rfl)))) | (with_reducible ((with_reducible show wpAny _ _ (subscriptTail _ _ (Value.ref _) (Value.int _ _)) _ _ _); k_dflt (refine item_listL (News.isList (by k_asm) (by k_mem)) (by (first | lia | omega)) (by (first | lia | omega)) (by rw [zero_nat]; assumption) ?_ (hs := by rfl) (hg := by intro _; rfl)))) | (with_reducible ((with_reducible show wpAny _ _ (subscriptTail (PySem.Expr.Call _ _ _ _) _ (Value.ref _) (Value.int 8 _)) _ _ _); k_dflt (refine item_tupleT (News.isTup (by k_asm) (by k_mem)) (by decide) (by decide) (by rfl) (by rfl) ?_ (hs := by rfl)))) | (with_reducible ((with_reducible refine execs_tk ?_); intro _; (try dsimp only); (try k_fold))) | (with_reducible ((with_reducible show wpAny _ _ (eval (PySem.Expr.Subscript (PySem.Expr.Name _ _) (PySem.Expr.Constant (Const.str _) _ _) _) (envOf _ _ _ _ _)) _ _ _); k_dflt (refine sub_key (by k_asm) (by exact rfl) (by k_asm) (by k_mem) (by k_asm) (by (first | with_reducible exact va_router | with_reducible exact va_state | with_reducible exact va_dr | with_reducible exact va_bdr | with_reducible exact va_dr_address | with_reducible exact va_bdr_address | with_reducible exact va_neighbours | with_reducible exact va_hello_at | with_reducible exact va_wait_until | with_reducible exact va_kind | with_reducible exact va_address | with_reducible exact va_priority | with_reducible exact va_hello | with_reducible exact va_dead | with_reducible exact va_options | with_reducible exact va_delay | with_reducible exact va_number | with_reducible exact va_area | with_reducible exact va_stub | with_reducible exact va_length | with_reducible exact va_cost | with_reducible exact va_resend | (repeat (first | exact valueAt_hit | refine (valueAt_miss (by decide)).trans ?_)))) ?_))) | walk1 | (dsimp only; walk1) | (leave1; (try dsimp only))))
      refine LCg.CompEnd.intro (by assumption) (by assumption) _ (fun p hp => hp) off5 trivial ⟨rfl, ?_⟩
      rw [e3]
      exact i6.append (.cons _ _ .nil)
    | false =>
      simp only [Bool.false_eq_true, if_false] at e3
      (repeat' (first | (k_unfold; (try dsimp only)) | (k_end; wrow_close) | (with_reducible ((with_reducible show wpAny _ _ (eval (PySem.Expr.ListComp ..) _) _ _ _); (refine stop_at ?_))) | (with_reducible ((with_reducible show LCt.CompSrcT ..); (refine stop_at ?_))) | (with_reducible ((with_reducible show wpAny _ _ (call (Value.type "range") _) _ _ _); ((rename Fr _ _ _ _ => F'); (rename News _ _ _ _ => N'); (with_unfolding_all refine range1_rows F' N' ?_; intro _ _ _ _ _ _ _ _ _)))) | (with_reducible ((with_reducible show wpAny _ _ (call (Value.ref _) _) _ _ _); (refine stop_at ?_))) | (with_reducible ((with_reducible show wpAny _ _ (compareOp CmpOp.Eq (Value.ref _) (Value.ref _)) _ _ _); (refine stop_at ?_))) | (with_reducible ((with_reducible show wpAny _ _ (subscriptTail _ _ (Value.ref _) (Value.int _ _)) _ _ _); k_dflt (refine item_listL (News.isList (by k_asm) (by k_mem)) (by (first | lia | omega)) (by (first | lia | omega)) (by rw [zero_nat]; assumption) ?_ (hs := by rfl) (hg := by intro _; rfl)))) | (with_reducible ((with_reducible show wpAny _ _ (subscriptTail _ _ (Value.ref _) (Value.int _ _)) _ _ _); k_dflt (refine item_listL (News.isList (by k_asm) (by k_mem)) (by (first | lia | omega)) (by (first | lia | omega)) (by rw [zero_nat]; assumption) ?_ (hs := by rfl) (hg := by intro _; rfl)))) | (with_reducible ((with_reducible show wpAny _ _ (subscriptTail (PySem.Expr.Call _ _ _ _) _ (Value.ref _) (Value.int 8 _)) _ _ _); k_dflt (refine item_tupleT (News.isTup (by k_asm) (by k_mem)) (by decide) (by decide) (by rfl) (by rfl) ?_ (hs := by rfl)))) | (with_reducible ((with_reducible refine execs_tk ?_); intro _; (try dsimp only); (try k_fold))) | (with_reducible ((with_reducible show wpAny _ _ (eval (PySem.Expr.Subscript (PySem.Expr.Name _ _) (PySem.Expr.Constant (Const.str _) _ _) _) (envOf _ _ _ _ _)) _ _ _); k_dflt (refine sub_key (by k_asm) (by exact rfl) (by k_asm) (by k_mem) (by k_asm) (by (first | with_reducible exact va_router | with_reducible exact va_state | with_reducible exact va_dr | with_reducible exact va_bdr | with_reducible exact va_dr_address | with_reducible exact va_bdr_address | with_reducible exact va_neighbours | with_reducible exact va_hello_at | with_reducible exact va_wait_until | with_reducible exact va_kind | with_reducible exact va_address | with_reducible exact va_priority | with_reducible exact va_hello | with_reducible exact va_dead | with_reducible exact va_options | with_reducible exact va_delay | with_reducible exact va_number | with_reducible exact va_area | with_reducible exact va_stub | with_reducible exact va_length | with_reducible exact va_cost | with_reducible exact va_resend | (repeat (first | exact valueAt_hit | refine (valueAt_miss (by decide)).trans ?_)))) ?_))) | walk1 | (dsimp only; walk1) | (leave1; (try dsimp only))))
      refine LCg.CompEnd.intro (by assumption) (by assumption) _ (fun p hp => hp) off5 trivial ⟨rfl, ?_⟩
      rw [e3]
      exact i6
section
theorem off_N13 : True := by w_top off; trivial
local macro_rules | `(tactic| walk_at "none 0") => `(tactic| fail)
set_option maxHeartbeats 4000000 in
theorem pool_rows {w : World} {c1 c2 c3 c4 c5 c6 c7 l : Addr} {o1 o2 o3 o4 o5 o6 o7 : Obj} {vs0 : List Value} {ns0 : List Int} {h₀ base : Heap} {L fa : Addr} {cd : Value} {dp un : Nat} {gd : Option (List Code)} {outer : List Env} {A₀ : Around} {m : PySem.Str → Option Value} {mean : ExcName → Option Value} {mg mb : PySem.Str → Option Value} {s : Shared}
    (B : Below A₀ base outer h₀) (F : Fr h₀ L s.heap m) (X : (hd.heap_39 w.params).In h₀) (N : News h₀ L s.heap [(c1, o1), (c2, o2), (c3, o3), (c4, o4), (c5, o5), (c6, o6), (c7, o7)]) (T : Top hd.view_39 LL mean mg mb h₀) (hdp : dp + 20 < recursionLimit) (hun : un + 8 * 20 < cLine)
    (lts : (@LT.lt Nat _ c2 c1) ∧ (@LT.lt Nat _ c3 c2) ∧ (@LT.lt Nat _ c4 c3) ∧ (@LT.lt Nat _ c5 c4) ∧ (@LT.lt Nat _ c6 c5) ∧ (@LT.lt Nat _ c7 c6)) (hm : m "script" = some (.ref l)) (hl : h₀.IsList l vs0.toArray) (hI : IntsAre vs0 ns0) (h63 : ns0.length ≤ 63) :
    wpAny (model PR w) (ktrTop dp un gd (Str.ofString "law") lawSc L fa cd (CN c1 c2 c3 c4 c5 c6 c7) outer) (execs [lawRow 0, lawRow 1] (envX (Str.ofString "law") lawSc L fa cd (CN c1 c2 c3 c4 c5 c6 c7))) (CutEnd h₀ L s (LMid1 w c1 c2 c3 c4 c5 c6 c7 o1 o2 o3 o4 o5 o6 o7)) (fun _ _ => False) s := by
  conv in (occs := *) lawSc => all_goals whnf
  conv in lawRow 0 => whnf
  conv in lawRow 1 => whnf
  (try k_fold)
  replace F := fr_name F hm
  (repeat' (first | (k_unfold; (try dsimp only)) | (k_end; wrow_close) | (with_reducible ((with_reducible show wpAny _ _ (call (Value.ref 220) _) _ _ _); refine stop_at ?_)) | (with_reducible ((with_reducible refine execs_tk ?_); intro _; (try dsimp only); (try k_fold))) | walk1 | (dsimp only; walk1) | (leave1; (try dsimp only))))
  refine stop_out ?_
  rename IntsAre _ (List.map _ _) => i9
  rename_i hL8 Dc hx2 tkx o1x lp hx1 l1x hx Fx Nx tkB
  refine (lawiface_c (n := 0) (n' := ys.length) (pool := lp) (cells := Dc) i9 (by rw [List.length_map, List.length_take]; (first | lia | omega)) (by k_ne)).use (by k_asm) (by k_asm) (by k_asm) (by k_asm) (by k_asm) (by first | exact rfl | assumption) (by ktr_room) (by ktr_units) (CLs c1 c2 c3 c4 c5 c6 c7 o1 o2 o3 o4 o5 o6 o7) (by lcg_sub) (by lcg_sub) (by (repeat (first | exact Off.nil | refine Off.cons (by k_all) ?_))) ?_
  intro r9 l9 h9 tk9 F9 N9 off9 P9
  obtain ⟨d, e9, I9⟩ := P9
  subst e9
  (try dsimp only)
  (repeat' (first | (k_unfold; (try dsimp only)) | (k_end; wrow_close) | (with_reducible ((with_reducible show wpAny _ _ (call (Value.ref 220) _) _ _ _); refine stop_at ?_)) | (with_reducible ((with_reducible refine execs_tk ?_); intro _; (try dsimp only); (try k_fold))) | walk1 | (dsimp only; walk1) | (leave1; (try dsimp only))))
  exact lmid1_intro (by assumption) (by assumption) rfl rfl (by k_ne) i9 (by rw [List.length_map, List.length_take]; (first | lia | omega)) off9 I9
end
theorem off_N14 : True := by w_top off; trivial
theorem cut_rows {M : Model} {A : Around} {E : Value → Shared → Prop} {env : Env} {rows rest : List Stmt} {s : Shared} {Q : Flow → Shared → Prop} {g : Heap} {L : Addr} {P : (PySem.Str → Option Value) → Led → Prop} (h1 : wpAny M A (execs rows env) (CutEnd g L s P) E s)
    (h2 : ∀ h' tk' m' news', Fr g L h' m' → News g L h' news' → P m' news' → wpAny M A (execs rest env) Q E { s with heap := h', toks := tk' }) : wpAny M A (execs (rows ++ rest) env) Q E s := by
  intro Γ p hΓ
  refine wp_execs_append _ (Sem.wp_mono M Γ _ (fun f p' s' h' => ?_) (fun _ _ _ x => x) p s (h1 Γ p hΓ))
  obtain ⟨h', tk, m', news', rfl, rfl, F, N, hp⟩ := h'
  exact h2 h' tk m' news' F N hp Γ p' hΓ
theorem ne_cells {x c1 c2 c3 c4 c5 c6 c7 : Addr} {o1 o2 o3 o4 o5 o6 o7 : Obj} {tl : Led} (h1 : @Ne Nat c1 x) (h2 : @Ne Nat c2 x) (h3 : @Ne Nat c3 x) (h4 : @Ne Nat c4 x) (h5 : @Ne Nat c5 x) (h6 : @Ne Nat c6 x) (h7 : @Ne Nat c7 x) (ht : ∀ p ∈ tl, p.1 ≠ x) :
    ∀ p ∈ (c1, o1) :: (c2, o2) :: (c3, o3) :: (c4, o4) :: (c5, o5) :: (c6, o6) :: (c7, o7) :: tl, p.1 ≠ x :=
  List.forall_mem_cons.mpr ⟨h1, List.forall_mem_cons.mpr ⟨h2, List.forall_mem_cons.mpr ⟨h3, List.forall_mem_cons.mpr ⟨h4, List.forall_mem_cons.mpr ⟨h5, List.forall_mem_cons.mpr ⟨h6, List.forall_mem_cons.mpr ⟨h7, ht⟩⟩⟩⟩⟩⟩⟩
theorem ne_put {x a : Addr} {o : Obj} {tl : Led} (h : @Ne Nat a x) (ht : ∀ p ∈ tl, p.1 ≠ x) : ∀ p ∈ (a, o) :: tl, p.1 ≠ x := List.forall_mem_cons.mpr ⟨h, ht⟩
theorem ne_end {x : Addr} : ∀ p ∈ ([] : Led), p.1 ≠ x := fun _ h => nomatch h
theorem cells_ne {c1 c2 c3 c4 c5 c6 c7 : Addr} (h : (@LT.lt Nat _ c2 c1) ∧ (@LT.lt Nat _ c3 c2) ∧ (@LT.lt Nat _ c4 c3) ∧ (@LT.lt Nat _ c5 c4) ∧ (@LT.lt Nat _ c6 c5) ∧ (@LT.lt Nat _ c7 c6)) :
    (@Ne Nat c1 c2) ∧ (@Ne Nat c1 c3) ∧ (@Ne Nat c1 c4) ∧ (@Ne Nat c1 c5) ∧ (@Ne Nat c1 c6) ∧ (@Ne Nat c2 c3) ∧ (@Ne Nat c2 c4) ∧ (@Ne Nat c2 c5) ∧ (@Ne Nat c2 c6) ∧ (@Ne Nat c3 c4) ∧ (@Ne Nat c3 c5) ∧ (@Ne Nat c3 c6) ∧ (@Ne Nat c4 c5) ∧ (@Ne Nat c4 c6) ∧ (@Ne Nat c5 c6) :=
  let ⟨a1, a2, a3, a4, a5, _⟩ := h
  have b2 := Nat.lt_trans a2 a1
  have b3 := Nat.lt_trans a3 b2
  have b4 := Nat.lt_trans a4 b3
  have d3 := Nat.lt_trans a3 a2
  have d4 := Nat.lt_trans a4 d3
  have e4 := Nat.lt_trans a4 a3
  ⟨Nat.ne_of_gt a1, Nat.ne_of_gt b2, Nat.ne_of_gt b3, Nat.ne_of_gt b4, Nat.ne_of_gt (Nat.lt_trans a5 b4), Nat.ne_of_gt a2, Nat.ne_of_gt d3, Nat.ne_of_gt d4, Nat.ne_of_gt (Nat.lt_trans a5 d4), Nat.ne_of_gt a3, Nat.ne_of_gt e4, Nat.ne_of_gt (Nat.lt_trans a5 e4), Nat.ne_of_gt a4, Nat.ne_of_gt (Nat.lt_trans a5 a4), Nat.ne_of_gt a5⟩
theorem law_rows : lawDef = [lawRow 0, lawRow 1] ++ ([lawRow 2] ++ ([lawRow 3] ++ ([lawRow 4] ++ ([lawRow 5, lawRow 6] ++ ([lawRow 7] ++ ([lawRow 8] ++ ([lawRow 9] ++ ([lawRow 10] ++ ([lawRow 11] ++ [lawRow 12]))))))))) := by rfl
set_option maxHeartbeats 8000000 in
theorem law_w (w : World) : LawW w lawSc lawDef := by
  unfold LawW
  intro h₀ base L fa l cd dp un gd outer A₀ c1 c2 c3 c4 c5 c6 c7 o1 o2 o3 o4 o5 o6 o7 m mean mg mb vs0 ns0 s Q B F X N T hm hl hI h63 hdp hun lts hq hret
  obtain ⟨q1, q2, q3, q4, q5, q6, q7⟩ := hq
  rw [law_rows]
  refine cut_rows (pool_rows B F X N T hdp hun lts hm hl hI h63) ?_
  clear F N hm hl hI h63
  intro h1 tk1 m1 news1 F1 N1 M1
  refine seg_cut (loop_seg q7) B F1 X N1 T hdp hun lts _ M1 (fun _ h => h) ?_
  clear F1 N1 M1
  intro h2 tk2 m2 news2 F2 N2 M2
  obtain ⟨o7, d, o, nb, kd, st, own, dr, bdr, dra, bdra, ha, wu, de, op, t1, t2, t3, t4, t5, t6, t7, t8, t9, t10, t11, t12, t13, t14, t15, t16, ws, xs, tl, sp, t, k, pool, cells, vs, ns, n, n', e9, n1, n2, hd9, hif, hws, hxs, hl4, hs0, hs1, ne1, ne2, ne3, ne4, ne5, p1, p2, p3, p4, ne6, hi, hn, of1, of2⟩ := M2
  subst e9
  have of1' := offLL_of of1
  simp only [OffLL, OffL, and_true] at of1'
  obtain ⟨⟨a1, a2, a3, a4, a5, a6, a7⟩, ⟨b1, b2, b3, b4, b5, b6, b7⟩, ⟨d1, d2, d3, d4, d5, d6, d7⟩, ⟨f1, f2, f3, f4, f5, f6, f7⟩⟩ := of1'
  obtain ⟨e12, e13, e14, e15, e16, e23, e24, e25, e26, e34, e35, e36, e45, e46, e56⟩ := cells_ne lts
  unfold NeA at ne1 ne2 ne3 ne4 ne5 ne6
  simp only [CLs, List.cons_append, List.nil_append] at N2
  -- the word
  refine seg_cut (word_seg (pool := pool) (cells := cells) (n := n) (n' := n') (t := t) (fv := .ref d) (rest := (d, o) :: (nb, listOf ws.toArray k) :: (c1, o1) :: (c2, o2) :: (c3, o3) :: (c4, o4) :: (c5, o5) :: (c6, o6) :: (c7, o7) :: tl) hi hn hs0 (by (first | lia | omega)) ne6 ?_ ?_) B F2 X N2 T hdp hun lts _ ⟨rfl, n2, n1⟩ ?_ ?_
  · exact ne_put (Ne.symm ne2) (ne_put (Ne.symm ne4) (ne_cells d1 d2 d3 d4 d5 d6 d7 p3))
  · exact ne_put (Ne.symm ne3) (ne_put (Ne.symm ne5) (ne_cells f1 f2 f3 f4 f5 f6 f7 p4))
  · repeat' (first | exact List.forall_mem_nil _ | refine List.forall_mem_cons.mpr ⟨by k_mem, ?_⟩ | kcf_all)
  clear F2 N2 n1 n2 of1 of2
  intro h3 tk3 m3 news3 F3 N3 M3
  obtain ⟨t', ev, te, e9, n1, n2, n3, hev⟩ := M3
  subst e9
  -- the event
  have hws2 : NbsAt w ((pool, listOf #[.ref cells, .int (sp + 1) t'] n) :: (cells, listOf vs.toArray n') :: (c1, o1) :: (c2, o2) :: (c3, o3) :: (c4, o4) :: (c5, o5) :: (c6, o6) :: (c7, o7) :: tl) ws xs := hws.mono (by kcf_all)
  refine seg_cut (event_seg (k := k) (te := te) (pv := .ref pool) hd9 hif hws2 hl4 ne1 ?_ ?_ hev) B F3 X N3 T hdp hun lts _ ⟨rfl, n2, n3, n1⟩ ?_ ?_
  · exact ne_put ne2 (ne_put ne3 (ne_cells a1 a2 a3 a4 a5 a6 a7 p1))
  · exact ne_put ne4 (ne_put ne5 (ne_cells b1 b2 b3 b4 b5 b6 b7 p2))
  · repeat' (first | exact List.forall_mem_nil _ | refine List.forall_mem_cons.mpr ⟨by k_mem, ?_⟩ | kcf_all)
  clear F3 N3 n1 n2 n3 hd9 hws2
  intro h4 tk4 m4 news4 F4 N4 M4
  obtain ⟨o', st', u1, u2, u3, u4, u5, u6, u7, u8, u9, u10, u11, u12, u13, u14, u15, u16, e9, n1, n2, n3, hd9, hst⟩ := M4
  subst e9
  -- what was asked
  refine seg_cut (ask_seg (te := te) (pv := .ref pool) hd9 hst) B F4 X N4 T hdp hun lts _ ⟨rfl, n1, n2, n3⟩ (fun _ h => h) ?_
  clear F4 N4 n1 n2 n3
  intro h5 tk5 m5 news5 F5 N5 M5
  obtain ⟨e9, n1, n2⟩ := M5
  subst e9
  -- many, wide
  refine seg_cut (many_seg (pool := pool) (cells := cells) (c6 := c6) (sp := sp + 1) (t := t') (n := n) (n' := n') (fv := .ref d) (rest := [(d, o'), (c1, o1), (c2, o2), (c3, o3), (c4, o4), (c5, o5)]) hi hn (by (first | lia | omega)) (by (first | lia | omega)) ne6 (Ne.symm d6) (Ne.symm f6) ?_ ?_ q6) B F5 X N5 T hdp hun lts _ ⟨rfl, n2, n1⟩ ?_ ?_
  · exact ne_put (Ne.symm ne2) (ne_put d1 (ne_put d2 (ne_put d3 (ne_put d4 (ne_put d5 ne_end)))))
  · exact ne_put (Ne.symm a6) (ne_put e16 (ne_put e26 (ne_put e36 (ne_put e46 (ne_put e56 ne_end)))))
  · repeat' (first | exact List.forall_mem_nil _ | refine List.forall_mem_cons.mpr ⟨by k_mem, ?_⟩ | kcf_all)
  clear F5 N5 n1 n2
  intro h6 tk6 m6 news6 F6 N6 M6
  obtain ⟨t'', o6', many, tm, wide, tw, e9, n1, n2, n3, hmany, q6', hwide⟩ := M6
  subst e9
  obtain ⟨K, rfl, hK⟩ : ∃ K : Nat, many = (K : Int) ∧ K ≤ 720 := by
    simp only [List.mem_cons, List.not_mem_nil, or_false] at hmany
    exact ⟨many.toNat, by (first | lia | omega), by (first | lia | omega)⟩
  have hw2 : 2 ≤ wide ∧ wide ≤ 1009 := by
    simp only [List.mem_cons, List.not_mem_nil, or_false] at hwide
    (first | lia | omega)
  -- mult, shift, gone
  refine seg_cut (more_seg (pool := pool) (cells := cells) (c3 := c3) (c4 := c4) (c5 := c5) (sp := sp + 1 + 1 + 1) (t := t'') (n := n) (n' := n') (fv := .ref d) (mv := .int (K : Int) tm) (rest := [(d, o'), (c1, o1), (c2, o2), (c6, o6')]) hi hn (by (first | lia | omega)) (by (first | lia | omega)) ne6 (Ne.symm d3) (Ne.symm f3) (Ne.symm d4) (Ne.symm f4) (Ne.symm d5) (Ne.symm f5) ?_ ?_ ?_ ?_ q3 q4 q5) B F6 X N6 T hdp hun lts _ ⟨rfl, n1, n2, n3⟩ ?_ ?_
  · exact ne_put (Ne.symm ne2) (ne_put d1 (ne_put d2 (ne_put d6 ne_end)))
  · exact ne_put (Ne.symm a3) (ne_put e13 (ne_put e23 (ne_put (Ne.symm e36) ne_end)))
  · exact ne_put (Ne.symm a4) (ne_put e14 (ne_put e24 (ne_put (Ne.symm e46) ne_end)))
  · exact ne_put (Ne.symm a5) (ne_put e15 (ne_put e25 (ne_put (Ne.symm e56) ne_end)))
  · repeat' (first | exact List.forall_mem_nil _ | refine List.forall_mem_cons.mpr ⟨by k_mem, ?_⟩ | kcf_all)
  clear F6 N6 n1 n2 n3
  intro h7 tk7 m7 news7 F7 N7 M7
  obtain ⟨o3', o4', o5', mult, t5', shift, t4', gone, t3', e9, n1, n2, q5', q4', q3', y1, y2, y3, y4, hg⟩ := M7
  subst e9
  have hg2 : gone = 0 ∨ gone = 3 := by simpa using hg
  -- ids
  refine seg_cut (ids_seg (K := K) (fv := .ref d) (tm := tm) (rest := [(d, o'), (c1, o1), (c3, o3')]) hK q2 q4' q5' q6' hw2 ⟨y1, y2⟩ ⟨y3, y4⟩ ?_) B F7 X N7 T hdp hun lts _ ⟨rfl, n1, n2⟩ ?_ ?_
  · exact ne_put (Ne.symm a2) (ne_put e12 (ne_put (Ne.symm e23) ne_end))
  · repeat' (first | exact List.forall_mem_nil _ | refine List.forall_mem_cons.mpr ⟨by k_mem, ?_⟩ | kcf_all)
  clear F7 N7 n1 n2
  intro h8 tk8 m8 news8 F8 N8 M8
  obtain ⟨o2', Ii, idv, ids, ci, e9, q2', n1, n2, hids, lids, x8, r8⟩ := M8
  subst e9
  have z1 : @Ne Nat d Ii := r8 _ (.head _)
  have z2 : @Ne Nat c1 Ii := r8 _ (.tail _ (.head _))
  unfold NeA at x8
  -- is_heard
  refine seg_cut (heard_seg (K := K) (fv := .ref d) (tm := tm) (rest := [(Ii, listOf idv.toArray ci), (c2, o2'), (d, o')]) hK q1 q3' hg2 ?_) B F8 X N8 T hdp hun lts _ ⟨rfl, n1, n2⟩ ?_ ?_
  · exact ne_put (Ne.symm z2) (ne_put (Ne.symm e12) (ne_put (Ne.symm a1) ne_end))
  · repeat' (first | exact List.forall_mem_nil _ | refine List.forall_mem_cons.mpr ⟨by k_mem, ?_⟩ | kcf_all)
  clear F8 N8 n1 n2
  intro h9 tk9 m9 news9 F9 N9 M9
  obtain ⟨o1', Hh, bs, ch, e9, q1', n1, n2, lbs, x9, r9⟩ := M9
  subst e9
  have z3 : @Ne Nat Ii Hh := r9 _ (.head _)
  have z4 : @Ne Nat d Hh := r9 _ (.tail _ (.tail _ (.head _)))
  -- the neighbours
  refine seg_cut (nbs_seg (K := K) (ci := ci) (ch := ch) (tm := tm) hK hd9 q1' q2' hids lids lbs z1 z4 (Ne.symm a1) (Ne.symm a2)) B F9 X N9 T hdp hun lts _ ⟨rfl, n1, n2⟩ ?_ ?_
  · repeat' (first | exact List.forall_mem_nil _ | refine List.forall_mem_cons.mpr ⟨by k_mem, ?_⟩ | kcf_all)
  clear F9 N9 n1 n2
  intro h10 tk10 m10 news10 F10 N10 M10
  obtain ⟨o'', NB, ds, wsn, kn, v1, v2, v3, v4, v5, v6, v7, v8, v9, v10, v11, v12, v13, v14, v15, v16, e9, n1, n2, hdn, hbn, lw, xn, w1, w2, offn⟩ := M10
  subst e9
  exact last_row hK hdn q1' q2' hids lids lbs hbn lw xn w1 w2 offn B F10 X N10 T hdp hun n1 n2 (fun h' tk' m' Fz => hret h' tk' Fz.keep)
section
theorem off_N15 : True := by w_top off; trivial
local macro_rules | `(tactic| walk_at "none 0") => `(tactic| fail)
local macro_rules | `(tactic| k_qdec) => `(tactic| decide +kernel)
set_option maxHeartbeats 4000000 in
theorem law_ok : PySem.Challenge.rw_rh0206_01.Holds := by
  refine hd (by
    k_go0
    rename_i w s₀ s₁ mg mb G Y fa ofn pm doc ho hg KX X V GL T B TE TW wa wb M wc wd hcd ns0 hs hlay0 hL1 hr1 hl2 as1 as2 l0 vs0 as3 hL ra w1 r0 hI hr hc1 hc2 K0 hD h₁ tk₁ F0 o1 o2 o3 o4 o5 o6 o7 q1 q2 q3 q4 q5 q6 q7 N0 X0
    replace q1 : o1.data = .cell none := q1
    replace q2 : o2.data = .cell none := q2
    replace q3 : o3.data = .cell none := q3
    replace q4 : o4.data = .cell none := q4
    replace q5 : o5.data = .cell none := q5
    replace q6 : o6.data = .cell none := q6
    replace q7 : o7.data = .cell none := q7
    have h63 : ns0.length ≤ 63 := by omega
    refine law_abs (w := w) (ns := ns0) (vs := vs0) (l := l0) (sc := lawSc) (body := lawDef) (by kernel_rfl) K0 F0 KX N0 T (by rfl) hL hI h63 ⟨q1, q2, q3, q4, q5, q6, q7⟩ ?_ (law_w w)
    intro h' tk' keep
    refine ⟨.inl ⟨_, .bool true, [], rfl, ?cr, .bool true, ?po, fun _ => ⟨List.nodup_nil, fun a h => nomatch h⟩⟩, keep, rfl, ?ge⟩
    case cr => exact fun cls => rfl
    case po => first | (simp only [] ; rfl) | decide | kernel_rfl
    case ge => assumption)
end
end Mine
theorem PySem.Challenge.cw_rh0206_01_holds : PySem.Challenge.rw_rh0206_01.Holds :=
  Mine.law_ok
